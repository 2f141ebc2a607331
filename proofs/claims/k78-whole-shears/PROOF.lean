import PyProof.Rows.All
import Wide.All
import OpenK.AllK
import Wide.FinOn
import HandS.ForMost
import HandS.Wide
import HandS.IsInst
import HandS.Star
import HandS.Style
import HandS.EndBits
import HandS.SortRule
import HandS.TupSets
import KE.DataCmp
import PySem.Challenge.RW_turnedpixels_k78_whole_shears_as_chains
set_option Elab.async false
set_option linter.all false
set_option maxRecDepth 100000
set_option maxHeartbeats 4000000
/-! K1: a data layer over the hand layer: big-step judgements over syntax, values as PyData -/
namespace TP
open PySem PySem.Spec PyProof.Rows L2

/-! ### data in a heap -/
def ExM (M : Addr → Prop) (H H' : Hp) : Prop := ∀ b o, ¬ M b → H b = some o → H' b = some o
def TrkM (M : Addr → Prop) (H : Hp) : Prop := ∀ a, M a → ∃ o, H a = some o
theorem same_new {H : Hp} {p : Addr} {o : HO} (h : H p = none) : Same H (upd H p o) := fun a u e => by
  rw [upd_ne (ne_of_none e h)]
  exact e
theorem Same.exM {M : Addr → Prop} {H H' : Hp} (e : Same H H') : ExM M H H' := fun b o _ h => e b o h
theorem TrkM.new {M : Addr → Prop} {H : Hp} {p : Addr} (t : TrkM M H) (h : H p = none) : ¬ M p := fun m => by
  obtain ⟨o, e⟩ := t p m
  rw [h] at e
  cases e
theorem TrkM.same {M : Addr → Prop} {H H' : Hp} (t : TrkM M H) (e : Same H H') : TrkM M H' := fun a m => by
  obtain ⟨o, h⟩ := t a m
  exact ⟨o, e a o h⟩
theorem rd_ex {M : Addr → Prop} {H H' : Hp} {a : Addr} {u : HO} (e : ExM M H H') (m : ¬ M a) (h : Rd H a u) : Rd H' a u := by
  rcases h with h | ⟨o, h⟩
  · exact .inl (e a _ m h)
  · exact .inr ⟨o, e a _ m h⟩
mutual
/-- v is the data d -/
inductive Dn (K : PySem.W.Frag) (M : Addr → Prop) (H : Hp) : V → PyData → Prop
  | non : Dn K M H .non .none
  | bl (b : Bool) : Dn K M H (.bl b) (.bool b)
  | int (i : Int) : Dn K M H (.int i) (.int i)
  | str (x : Str) : Dn K M H (.str x) (.str x)
  | lst {a : Addr} {xs : List V} {ds : List PyData} : Rd H a (.lst xs) → ¬ M a → DnAll K M H xs ds → Dn K M H (.ref a) (.list ds)
  | tup {a : Addr} {xs : List V} {ds : List PyData} : H a = some (.tup xs) → ¬ M a → DnAll K M H xs ds → Dn K M H (.ref a) (.tuple ds)
  | opq {a : Nat} {i : Int} : i = (a : Int) → Dn K M H (.ref a) (.dict [(.int i, .none)])
inductive DnAll (K : PySem.W.Frag) (M : Addr → Prop) (H : Hp) : List V → List PyData → Prop
  | nil : DnAll K M H [] []
  | cons {v : V} {vs : List V} {d : PyData} {ds : List PyData} : Dn K M H v d → DnAll K M H vs ds → DnAll K M H (v :: vs) (d :: ds)
end
section
variable {K : PySem.W.Frag} {M : Addr → Prop} {H H' : Hp}
mutual
theorem Dn.ex (e : ExM M H H') : ∀ {v : V} {d : PyData}, Dn K M H v d → Dn K M H' v d
  | _, _, .non => .non
  | _, _, .bl b => .bl b
  | _, _, .int i => .int i
  | _, _, .str x => .str x
  | _, _, .lst h m a => .lst (rd_ex e m h) m (DnAll.ex e a)
  | _, _, .tup h m a => .tup (e _ _ m h) m (DnAll.ex e a)
  | _, _, .opq h => .opq h
theorem DnAll.ex (e : ExM M H H') : ∀ {vs : List V} {ds : List PyData}, DnAll K M H vs ds → DnAll K M H' vs ds
  | _, _, .nil => .nil
  | _, _, .cons h t => .cons (Dn.ex e h) (DnAll.ex e t)
end
mutual
theorem Dn.dp : ∀ {v : V} {d : PyData}, d.canLay0 = true → Dn K M H v d → Dp K H v d
  | _, _, _, .non => .non
  | _, _, _, .bl b => .bl b
  | _, _, _, .int i => .int i
  | _, _, _, .str x => .str x
  | _, _, c, .lst h m a => .lst (.inl h) (DnAll.dp (by simpa [PyData.canLay0] using c) a)
  | _, _, c, .tup h m a => .tup (.inl (.inl h)) (DnAll.dp (by simpa [PyData.canLay0] using c) a)
  | _, _, c, .opq h => by simp [PyData.canLay0] at c
theorem DnAll.dp : ∀ {vs : List V} {ds : List PyData}, PyData.canLayAll0 ds = true → DnAll K M H vs ds → DpAll K H vs ds
  | _, _, _, .nil => .nil
  | _, _, c, .cons h t => by
    rw [PyData.canLayAll0, Bool.and_eq_true] at c
    exact .cons (Dn.dp c.1 h) (DnAll.dp c.2 t)
end
/-- the address alone, whatever stands there -/
def opD (a : Nat) : PyData := .dict [(.int (a : Int), .none)]
theorem opD_ref {v : V} {a : Nat} (h : Dn K M H v (opD a)) : v = .ref a := by
  unfold opD at h
  cases h with
  | opq h =>
    have e := Int.ofNat.inj h
    rw [e]
theorem dn_opD {a : Nat} : Dn K M H (.ref a) (opD a) := .opq rfl
/-- one more address that may change -/
def addM (M : Addr → Prop) (D : Addr) : Addr → Prop := fun a => M a ∨ a = D
theorem rd_apart {a D : Addr} {u : HO} (h : Rd H a u) (hD : H D = none) : a ≠ D := by
  rcases h with h | ⟨o, h⟩
  · exact ne_of_none h hD
  · exact ne_of_none h hD
mutual
theorem Dn.addM {D : Addr} (hD : H D = none) : ∀ {v : V} {d : PyData}, Dn K M H v d → Dn K (addM M D) H v d
  | _, _, .non => .non
  | _, _, .bl b => .bl b
  | _, _, .int i => .int i
  | _, _, .str x => .str x
  | _, _, .lst h m a => .lst h (fun z => z.elim m (rd_apart h hD)) (DnAll.addM hD a)
  | _, _, .tup h m a => .tup h (fun z => z.elim m (ne_of_none h hD)) (DnAll.addM hD a)
  | _, _, .opq h => .opq h
theorem DnAll.addM {D : Addr} (hD : H D = none) : ∀ {vs : List V} {ds : List PyData}, DnAll K M H vs ds → DnAll K (addM M D) H vs ds
  | _, _, .nil => .nil
  | _, _, .cons h t => .cons (Dn.addM hD h) (DnAll.addM hD t)
end
mutual
theorem Dn.lessM {M' : Addr → Prop} (hM : ∀ a, M a → M' a) : ∀ {v : V} {d : PyData}, Dn K M' H v d → Dn K M H v d
  | _, _, .non => .non
  | _, _, .bl b => .bl b
  | _, _, .int i => .int i
  | _, _, .str x => .str x
  | _, _, .lst h m a => .lst h (fun z => m (hM _ z)) (DnAll.lessM hM a)
  | _, _, .tup h m a => .tup h (fun z => m (hM _ z)) (DnAll.lessM hM a)
  | _, _, .opq h => .opq h
theorem DnAll.lessM {M' : Addr → Prop} (hM : ∀ a, M a → M' a) : ∀ {vs : List V} {ds : List PyData}, DnAll K M' H vs ds → DnAll K M H vs ds
  | _, _, .nil => .nil
  | _, _, .cons h t => .cons (Dn.lessM hM h) (DnAll.lessM hM t)
end
theorem Dn.same {v : V} {d : PyData} (h : Dn K M H v d) (e : Same H H') : Dn K M H' v d := h.ex (Same.exM e)
theorem DnAll.same {vs : List V} {ds : List PyData} (h : DnAll K M H vs ds) (e : Same H H') : DnAll K M H' vs ds := h.ex (Same.exM e)
theorem DnAll.length : ∀ {vs : List V} {ds : List PyData}, DnAll K M H vs ds → vs.length = ds.length
  | _, _, .nil => rfl
  | _, _, .cons _ t => by rw [List.length_cons, List.length_cons, DnAll.length t]
theorem DnAll.get : ∀ {vs : List V} {ds : List PyData} {i : Nat} {d : PyData}, DnAll K M H vs ds → ds[i]? = some d → ∃ v, vs[i]? = some v ∧ Dn K M H v d
  | _, _, _, _, .nil, e => by simp at e
  | _, _, 0, _, .cons h _, e => by
    simp at e
    subst e
    exact ⟨_, rfl, h⟩
  | _, _, i + 1, d, .cons _ t, e => by
    obtain ⟨v, h1, h2⟩ := DnAll.get (i := i) (d := d) t (by simpa using e)
    exact ⟨v, by simpa using h1, h2⟩
theorem DnAll.getV : ∀ {vs : List V} {ds : List PyData} {i : Nat} {v : V}, DnAll K M H vs ds → vs[i]? = some v → ∃ d, ds[i]? = some d ∧ Dn K M H v d
  | _, _, _, _, .nil, e => by simp at e
  | _, _, 0, _, .cons h _, e => by
    simp at e
    subst e
    exact ⟨_, rfl, h⟩
  | _, _, i + 1, d, .cons _ t, e => by
    obtain ⟨v, h1, h2⟩ := DnAll.getV (i := i) (v := d) t (by simpa using e)
    exact ⟨v, by simpa using h1, h2⟩
theorem DnAll.append : ∀ {vs ws : List V} {ds es : List PyData}, DnAll K M H vs ds → DnAll K M H ws es → DnAll K M H (vs ++ ws) (ds ++ es)
  | _, _, _, _, .nil, s => s
  | _, _, _, _, .cons h t, s => .cons h (DnAll.append t s)
theorem DnAll.take : ∀ {vs : List V} {ds : List PyData} (n : Nat), DnAll K M H vs ds → DnAll K M H (vs.take n) (ds.take n)
  | _, _, 0, _ => .nil
  | _, _, _ + 1, .nil => .nil
  | _, _, n + 1, .cons h t => .cons h (DnAll.take n t)
theorem DnAll.drop : ∀ {vs : List V} {ds : List PyData} (n : Nat), DnAll K M H vs ds → DnAll K M H (vs.drop n) (ds.drop n)
  | _, _, 0, r => r
  | _, _, _ + 1, .nil => .nil
  | _, _, n + 1, .cons _ t => DnAll.drop n t
theorem DnAll.reverse {vs : List V} {ds : List PyData} (h : DnAll K M H vs ds) : DnAll K M H vs.reverse ds.reverse := by
  induction ds generalizing vs with
  | nil => cases h; exact .nil
  | cons d ds ih =>
    cases h with
    | cons h t =>
      rw [List.reverse_cons, List.reverse_cons]
      exact (ih t).append (.cons h .nil)
theorem DnAll.ints : ∀ {vs : List V} {ns : List Int}, DnAll K M H vs (ns.map PyData.int) → vs = ns.map V.int
  | _, [], .nil => rfl
  | _, n :: ns, .cons (.int _) t => by rw [List.map_cons, DnAll.ints t]
theorem DnAll.bools : ∀ {vs : List V} {bs : List Bool}, DnAll K M H vs (bs.map PyData.bool) → vs = bs.map V.bl
  | _, [], .nil => rfl
  | _, b :: bs, .cons (.bl _) t => by rw [List.map_cons, DnAll.bools t]
theorem DnAll.of_ints : ∀ {ns : List Int}, DnAll K M H (ns.map V.int) (ns.map PyData.int)
  | [] => .nil
  | n :: ns => .cons (.int n) DnAll.of_ints
theorem DnAll.of_get : ∀ {vs : List V} {ds : List PyData}, vs.length = ds.length → (∀ (i : Nat) (v : V) (d : PyData), vs[i]? = some v → ds[i]? = some d → Dn K M H v d) → DnAll K M H vs ds
  | [], [], _, _ => .nil
  | v :: vs, d :: ds, hl, h => .cons (h 0 v d rfl rfl) (DnAll.of_get (by simpa using hl) fun i v d e1 e2 => h (i + 1) v d (by simpa using e1) (by simpa using e2))
  | [], _ :: _, hl, _ => by simp at hl
  | _ :: _, [], hl, _ => by simp at hl
end

/-! ### environments of data -/
abbrev DE := List (Option PyData)
section
variable {K : PySem.W.Frag} {M : Addr → Prop} {H H' : Hp} {σ : L2.St} {δ : DE}
def EnvD (K : PySem.W.Frag) (M : Addr → Prop) (H : Hp) (σ : L2.St) (δ : DE) : Prop := σ.length = δ.length ∧ ∀ (i : Nat) (d : PyData), δ[i]? = some (some d) → ∃ v, σ[i]? = some (some v) ∧ Dn K M H v d
theorem EnvD.ex (h : EnvD K M H σ δ) (e : ExM M H H') : EnvD K M H' σ δ := ⟨h.1, fun i d q => by
  obtain ⟨v, a, b⟩ := h.2 i d q
  exact ⟨v, a, b.ex e⟩⟩
theorem EnvD.same (h : EnvD K M H σ δ) (e : Same H H') : EnvD K M H' σ δ := h.ex (Same.exM e)
theorem EnvD.set (h : EnvD K M H σ δ) (i : Nat) {v : V} {d : PyData} (hv : Dn K M H v d) : EnvD K M H (σ.set i (some v)) (δ.set i (some d)) := by
  refine ⟨by rw [List.length_set, List.length_set, h.1], fun j e q => ?_⟩
  by_cases hj : i = j
  · subst hj
    by_cases hlt : i < δ.length
    · rw [List.getElem?_set_self hlt] at q
      have e1 := Option.some.inj (Option.some.inj q)
      subst e1
      exact ⟨v, by rw [List.getElem?_set_self (by rw [h.1]; exact hlt)], hv⟩
    · rw [List.getElem?_eq_none (by rw [List.length_set]; omega)] at q
      cases q
  · rw [List.getElem?_set_ne hj] at q
    obtain ⟨u, a, b⟩ := h.2 j e q
    exact ⟨u, by rw [List.getElem?_set_ne hj]; exact a, b⟩
theorem EnvD.unset (h : EnvD K M H σ δ) (i : Nat) (v : Option V) : EnvD K M H (σ.set i v) (δ.set i none) := by
  refine ⟨by rw [List.length_set, List.length_set, h.1], fun j e q => ?_⟩
  by_cases hj : i = j
  · subst hj
    by_cases hlt : i < δ.length
    · rw [List.getElem?_set_self hlt] at q
      cases q
    · rw [List.getElem?_eq_none (by rw [List.length_set]; omega)] at q
      cases q
  · rw [List.getElem?_set_ne hj] at q
    obtain ⟨u, a, b⟩ := h.2 j e q
    exact ⟨u, by rw [List.getElem?_set_ne hj]; exact a, b⟩
/-- fewer things known -/
theorem EnvD.weaken {δ' : DE} (h : EnvD K M H σ δ) (hl : δ'.length = δ.length) (hw : ∀ (i : Nat) (d : PyData), δ'[i]? = some (some d) → δ[i]? = some (some d)) : EnvD K M H σ δ' := ⟨by rw [h.1, hl], fun i d q => h.2 i d (hw i d q)⟩
def startD (N : List Str) (ds : List PyData) : DE := ds.map some ++ List.replicate (N.length - ds.length) none
theorem EnvD.start {N : List Str} {vs : List V} {ds : List PyData} (h : DnAll K M H vs ds) : EnvD K M H (start N vs) (startD N ds) := by
  have hl := h.length
  unfold L2.start startD
  refine ⟨by rw [List.length_append, List.length_append, List.length_map, List.length_map, List.length_replicate, List.length_replicate, hl], fun i d q => ?_⟩
  by_cases hi : i < ds.length
  · rw [List.getElem?_append_left (by rw [List.length_map]; exact hi), List.getElem?_map] at q
    cases e : ds[i]? with
    | none => rw [e] at q; cases q
    | some x =>
      rw [e] at q
      have e1 : x = d := Option.some.inj (Option.some.inj q)
      subst e1
      obtain ⟨v, hv, hd⟩ := h.get e
      refine ⟨v, ?_, hd⟩
      rw [List.getElem?_append_left (by rw [List.length_map, hl]; exact hi), List.getElem?_map, hv] <;> rfl
  · rw [List.getElem?_append_right (by rw [List.length_map]; omega)] at q
    rw [List.getElem?_replicate] at q
    split at q <;> cases q
end

/-! ### contexts -/
structure Glb where
  P : Program
  w : World
  K : PySem.W.Frag
  mg : Str → Option Value
  base : Heap
structure Ctx (G : Glb) (k : Nat) (N : List Str) (sc : Scope) where
  ι : Type
  X : ι → Cx
  hP : ∀ i, (X i).prog = G.P
  hw : ∀ i, (X i).w = G.w
  hK : ∀ i, (X i).K = G.K
  hmg : ∀ i, (X i).mg = G.mg
  hbase : ∀ i, (X i).base = G.base
  hN : ∀ i, (X i).N = N
  nd : N.Nodup
  hsc : ∀ i, (X i).env.scope = sc
  calm : ∀ i, (X i).calm = true
  xe : ∀ i, (X i).xe = fun _ _ => False
  room : ∀ i, Room k (X i).A
  cellOk : Prop
  fn : cellOk → ∀ i x, (X i).fn x = true

section
variable {G : Glb} {k : Nat} {N : List Str} {sc : Scope} (C : Ctx G k N sc) (M : Addr → Prop)

/-! ### the greatest readings -/
def eM (e : Expr) : TE := fun σ H Q => ∀ i pins s, Inv (C.X i) pins σ H s → wpAny (model (C.X i).prog (C.X i).w) (C.X i).A (eval e (C.X i).env) (EP (C.X i) pins σ Q) (C.X i).xe s
def tM (e : Expr) : TT := fun σ H Q => ∀ i pins s, Inv (C.X i) pins σ H s → wpAny (model (C.X i).prog (C.X i).w) (C.X i).A (isTrue e (C.X i).env (eval e (C.X i).env)) (TP (C.X i) pins σ Q) (C.X i).xe s
def wM (e : Expr) : TT := fun σ H Q => ∀ whole i pins s, Inv (C.X i) pins σ H s → wpAny (model (C.X i).prog (C.X i).w) (C.X i).A (isTrue e (C.X i).env whole) (TP (C.X i) pins σ Q) (C.X i).xe s
def aM (es : List Expr) : TA := fun σ H Q => ∀ (pos : Pos) i pins s, Inv (C.X i) pins σ H s → wpAny (model (C.X i).prog (C.X i).w) (C.X i).A (spliced (backTo pos (starEach es (C.X i).env))) (AP (C.X i) pins σ Q) (C.X i).xe s
def s1M (st : Stmt) : TS := fun D σ H => ∀ i pins s, Inv (C.X i) pins σ H s → wpAny (model (C.X i).prog (C.X i).w) (C.X i).A (exec st (C.X i).env) (SP (C.X i) pins D) (C.X i).xe s
def sM (st : List Stmt) : TS := fun D σ H => ∀ i pins s, Inv (C.X i) pins σ H s → wpAny (model (C.X i).prog (C.X i).w) (C.X i).A (execs st (C.X i).env) (SP (C.X i) pins D) (C.X i).xe s
variable {C}
theorem pe_M (e : Expr) (i) : PE (C.X i) e (eM C e) := ⟨fun pins s _ _ _ I h => h i pins s I⟩
theorem pt_M (e : Expr) (i) : PT (C.X i) e (tM C e) := ⟨fun pins s _ _ _ I h => h i pins s I⟩
theorem pw_M (e : Expr) (i) : PW (C.X i) e (wM C e) := ⟨fun whole pins s _ _ _ I h => h whole i pins s I⟩
theorem pa_M (e : List Expr) (i) : PA (C.X i) e (aM C e) := ⟨fun pos pins s _ _ _ I h => h pos i pins s I⟩
theorem ps_M (e : Stmt) (i) : PS (C.X i) e (s1M C e) := ⟨fun pins s _ _ _ I h => h i pins s I⟩
theorem pss_M (e : List Stmt) (i) : PSs (C.X i) e (sM C e) := ⟨fun pins s _ _ _ I h => h i pins s I⟩
variable {M}

/-! ### judgements on readings -/
def Val (K : PySem.W.Frag) (M : Addr → Prop) (te : TE) (δ : DE) (d : PyData) : Prop := ∀ H σ, TrkM M H → EnvD K M H σ δ → ∀ Q : VK, (∀ v H', Same H H' → Dn K M H' v d → Q v H') → te σ H Q
def Tst (K : PySem.W.Frag) (M : Addr → Prop) (tt : TT) (δ : DE) (b : Bool) : Prop := ∀ H σ, TrkM M H → EnvD K M H σ δ → ∀ Q : Bool → Hp → Prop, (∀ H', Same H H' → Q b H') → tt σ H Q
def Arg (K : PySem.W.Frag) (M : Addr → Prop) (ta : TA) (δ : DE) (ds : List PyData) : Prop := ∀ H σ, TrkM M H → EnvD K M H σ δ → ∀ Q : List V → Hp → Prop, (∀ vs H', Same H H' → DnAll K M H' vs ds → Q vs H') → ta σ H Q
inductive Out where
  | nx (δ : DE)
  | rt (d : PyData)
def OutOk (K : PySem.W.Frag) (M : Addr → Prop) (H : Hp) (D : Ends) : Out → Prop
  | .nx δ => ∀ σ' H', Same H H' → EnvD K M H' σ' δ → D.nx σ' H'
  | .rt d => ∀ v H', Same H H' → Dn K M H' v d → D.rt v H'
theorem OutOk.same {K : PySem.W.Frag} {M : Addr → Prop} {H H' : Hp} {D : Ends} {o : Out} (h : OutOk K M H D o) (e : Same H H') : OutOk K M H' D o := by
  cases o with
  | nx δ => exact fun σ' H2 e2 q => h σ' H2 (e.trans e2) q
  | rt d => exact fun v H2 e2 q => h v H2 (e.trans e2) q
def Stm (K : PySem.W.Frag) (M : Addr → Prop) (ts : TS) (δ : DE) (o : Out) : Prop := ∀ H σ, TrkM M H → EnvD K M H σ δ → ∀ D : Ends, OutOk K M H D o → ts D σ H

/-! ### judgements on syntax -/
variable (C M)
def PV (δ : DE) (e : Expr) (d : PyData) : Prop := Val G.K M (eM C e) δ d
def PTD (δ : DE) (e : Expr) (b : Bool) : Prop := Tst G.K M (tM C e) δ b
def PWD (δ : DE) (e : Expr) (b : Bool) : Prop := Tst G.K M (wM C e) δ b
def PAD (δ : DE) (es : List Expr) (ds : List PyData) : Prop := Arg G.K M (aM C es) δ ds
def S1D (δ : DE) (st : Stmt) (o : Out) : Prop := Stm G.K M (s1M C st) δ o
def SD (δ : DE) (st : List Stmt) (o : Out) : Prop := Stm G.K M (sM C st) δ o
variable {C M}
variable {δ δ1 : DE}
theorem PV.of {e : Expr} {t : TE} {d : PyData} (h : ∀ i, PE (C.X i) e t) (q : Val G.K M t δ d) : PV C M δ e d := fun H σ tk ev Q k i pins s I => (h i).run pins s σ H Q I (q H σ tk ev Q k)
theorem PTD.of {e : Expr} {t : TT} {b : Bool} (h : ∀ i, PT (C.X i) e t) (q : Tst G.K M t δ b) : PTD C M δ e b := fun H σ tk ev Q k i pins s I => (h i).run pins s σ H Q I (q H σ tk ev Q k)
theorem PWD.of {e : Expr} {t : TT} {b : Bool} (h : ∀ i, PW (C.X i) e t) (q : Tst G.K M t δ b) : PWD C M δ e b := fun H σ tk ev Q k whole i pins s I => (h i).run whole pins s σ H Q I (q H σ tk ev Q k)
theorem PAD.of {e : List Expr} {t : TA} {ds : List PyData} (h : ∀ i, PA (C.X i) e t) (q : Arg G.K M t δ ds) : PAD C M δ e ds := fun H σ tk ev Q k pos i pins s I => (h i).run pos pins s σ H Q I (q H σ tk ev Q k)
theorem S1D.of {e : Stmt} {t : TS} {o : Out} (h : ∀ i, PS (C.X i) e t) (q : Stm G.K M t δ o) : S1D C M δ e o := fun H σ tk ev D k i pins s I => (h i).run pins s σ H D I (q H σ tk ev D k)
theorem SD.of {e : List Stmt} {t : TS} {o : Out} (h : ∀ i, PSs (C.X i) e t) (q : Stm G.K M t δ o) : SD C M δ e o := fun H σ tk ev D k i pins s I => (h i).run pins s σ H D I (q H σ tk ev D k)

/-! ### values by rules on data -/
def RD (K : PySem.W.Frag) (M : Addr → Prop) (r : R2) (a b d : PyData) : Prop := ∀ H v u, TrkM M H → Dn K M H v a → Dn K M H u b → ∀ Q : VK, (∀ z H', Same H H' → Dn K M H' z d → Q z H') → r v u H Q
def RUD (K : PySem.W.Frag) (M : Addr → Prop) (r : V → Hp → VK → Prop) (a d : PyData) : Prop := ∀ H v, TrkM M H → Dn K M H v a → ∀ Q : VK, (∀ z H', Same H H' → Dn K M H' z d → Q z H') → r v H Q
def RCD (K : PySem.W.Frag) (M : Addr → Prop) (r : List V → Hp → VK → Prop) (ds : List PyData) (d : PyData) : Prop := ∀ H vs, TrkM M H → DnAll K M H vs ds → ∀ Q : VK, (∀ z H', Same H H' → Dn K M H' z d → Q z H') → r vs H Q
section
variable {K : PySem.W.Frag} {ta tb te : TE} {a b d : PyData}
theorem val_op {r : R2} (ha : Val K M ta δ a) (hb : Val K M tb δ b) (hr : RD K M r a b d) : Val K M (tOp r ta tb) δ d := fun H σ tk ev Q q =>
  ha H σ tk ev _ fun v H1 e1 d1 => hb H1 σ (tk.same e1) (ev.same e1) _ fun u H2 e2 d2 => hr H2 v u ((tk.same e1).same e2) (d1.same e2) d2 Q fun z H3 e3 d3 => q z H3 ((e1.trans e2).trans e3) d3
theorem val_un {r : V → Hp → VK → Prop} (ha : Val K M ta δ a) (hr : RUD K M r a d) : Val K M (tUn r ta) δ d := fun H σ tk ev Q q =>
  ha H σ tk ev _ fun v H1 e1 d1 => hr H1 v (tk.same e1) d1 Q fun z H3 e3 d3 => q z H3 (e1.trans e3) d3
theorem val_cb {r : List V → Hp → VK → Prop} {tr : TA} {ds : List PyData} (ha : Arg K M tr δ ds) (hr : RCD K M r ds d) : Val K M (tCB r tr) δ d := fun H σ tk ev Q q =>
  ha H σ tk ev _ fun vs H1 e1 d1 => hr H1 vs (tk.same e1) d1 Q fun z H3 e3 d3 => q z H3 (e1.trans e3) d3
theorem arg_nil : Arg K M tNil δ [] := fun H σ tk ev Q q => q [] H (Same.refl H) .nil
theorem arg_cons {tr : TA} {ds : List PyData} (h : Val K M te δ d) (hr : Arg K M tr δ ds) : Arg K M (tCons te tr) δ (d :: ds) := fun H σ tk ev Q q =>
  h H σ tk ev _ fun v H1 e1 d1 => hr H1 σ (tk.same e1) (ev.same e1) _ fun vs H2 e2 d2 => q (v :: vs) H2 (e1.trans e2) (.cons (d1.same e2) d2)
theorem rd_I0 {g : Int → Int → Int} {i j : Int} : RD K M (rI0 fun i j => .int (g i j)) (.int i) (.int j) (.int (g i j)) := fun H v u tk h1 h2 Q q => by
  cases h1
  cases h2
  exact ⟨i, j, rfl, rfl, q _ H (Same.refl H) (.int _)⟩
theorem rd_IB {g : Int → Int → Bool} {i j : Int} : RD K M (rI0 fun i j => .bl (g i j)) (.int i) (.int j) (.bool (g i j)) := fun H v u tk h1 h2 Q q => by
  cases h1
  cases h2
  exact ⟨i, j, rfl, rfl, q _ H (Same.refl H) (.bl _)⟩
theorem rd_I {R : Int → Int → Prop} {g : Int → Int → Int} {i j : Int} (hc : R i j) : RD K M (rI R fun i j => .int (g i j)) (.int i) (.int j) (.int (g i j)) := fun H v u tk h1 h2 Q q => by
  cases h1
  cases h2
  exact ⟨i, j, rfl, rfl, hc, q _ H (Same.refl H) (.int _)⟩
end

/-! ### expressions -/
section
variable {a b c e : Expr} {es : List Expr} {pos p p2 : Pos} {i j : Int} {d d1 d2 : PyData} {ds : List PyData}
theorem pv_var (n : Nat) {x : Str} (hx : N[n]? = some x) (hδ : δ[n]? = some (some d)) (hv : Vis sc x := by first | exact Or.inl rfl | exact Or.inr (Or.inl rfl) | exact Or.inr (Or.inr rfl)) (hd : (x == ("__debug__" : Str)) = false := by decide)
    (hcd : (x == ("__classdict__" : Str)) = false := by decide) : PV C M δ (.Name x pos) d :=
  PV.of (fun i => pe_var (i := n) (by rw [C.hN i]; exact hx) (by rw [C.hsc i]; exact hv) hd hcd) fun H σ tk ev Q q => by
    obtain ⟨v, h1, h2⟩ := ev.2 n d hδ
    exact ⟨v, h1, q v H (Same.refl H) h2⟩
theorem pv_int {n : Nat} : PV C M δ (.Constant (.int i) n pos) (.int i) := PV.of (fun _ => pe_int) fun H σ tk ev Q q => q _ H (Same.refl H) (.int i)
theorem pv_bl {v : Bool} {n : Nat} : PV C M δ (.Constant (.bool v) n pos) (.bool v) := PV.of (fun _ => pe_bl) fun H σ tk ev Q q => q _ H (Same.refl H) (.bl v)
theorem pv_non {n : Nat} : PV C M δ (.Constant .none n pos) .none := PV.of (fun _ => pe_non) fun H σ tk ev Q q => q _ H (Same.refl H) .non
theorem pv_str {x : Str} {n : Nat} : PV C M δ (.Constant (.str x) n pos) (.str x) := PV.of (fun _ => pe_str) fun H σ tk ev Q q => q _ H (Same.refl H) (.str x)
theorem gl_of {x : Str} (hg : sc.names.lookup x = some .globalImplicit) (i) : Gl (C.X i) x := by
  show (C.X i).env.scope.names.lookup x = some .globalImplicit
  rw [C.hsc i]
  exact hg
theorem pv_globI {x : Str} {t : Tok} (hm : G.mg x = some (.int i t)) (hg : sc.names.lookup x = some .globalImplicit := by rfl) (hd : (x == ("__debug__" : Str)) = false := by decide) : PV C M δ (.Name x pos) (.int i) :=
  PV.of (fun n => pe_glob (v := .int i) (gl_of hg n) (by rw [C.hmg n]; exact hm) ⟨t, rfl⟩ hd) fun H σ tk ev Q q => q _ H (Same.refl H) (.int i)
theorem pv_op {op : Operator} {r : R2} (ho : ∀ i, OpR (C.X i) (binaryOp op) r) (hr : RD G.K M r d1 d2 d) (ha : PV C M δ a d1) (hb : PV C M δ b d2) : PV C M δ (.BinOp a op b pos) d :=
  PV.of (fun n => pe_op (ho n) (pe_M a n) (pe_M b n)) (val_op ha hb hr)
theorem pv_add (ha : PV C M δ a (.int i)) (hb : PV C M δ b (.int j)) : PV C M δ (.BinOp a .Add b pos) (.int (i + j)) := pv_op (fun _ => op_add) rd_I0 ha hb
theorem pv_sub (ha : PV C M δ a (.int i)) (hb : PV C M δ b (.int j)) : PV C M δ (.BinOp a .Sub b pos) (.int (i - j)) := pv_op (fun _ => op_sub) rd_I0 ha hb
theorem pv_mul (hc : CMulW i j) (ha : PV C M δ a (.int i)) (hb : PV C M δ b (.int j)) : PV C M δ (.BinOp a .Mult b pos) (.int (i * j)) := pv_op (fun _ => op_mulW) (rd_I hc) ha hb
theorem pv_fdiv (hc : CDivW i j) (ha : PV C M δ a (.int i)) (hb : PV C M δ b (.int j)) : PV C M δ (.BinOp a .FloorDiv b pos) (.int (i / j)) := pv_op (fun _ => op_fdivW) (rd_I hc) ha hb
theorem pv_mod (hc : 0 < j) (ha : PV C M δ a (.int i)) (hb : PV C M δ b (.int j)) : PV C M δ (.BinOp a .Mod b pos) (.int (i % j)) := pv_op (fun _ => op_mod) (rd_I (R := fun _ j => 0 < j) hc) ha hb
/-- ** of any base -/
def CPowW (i j : Int) : Prop := 0 ≤ j ∧ (Builtin.Int.intBits i : Int) * j ≤ 2 ^ 27
theorem op_powW {X : Cx} : OpR X (binaryOp .Pow) (rI CPowW fun i j => .int (i ^ j.toNat)) := opI fun _ _ _ _ _ _ _ hc q => pow_int hc.1 hc.2 q
theorem pv_pow (hc : CPowW i j) (ha : PV C M δ a (.int i)) (hb : PV C M δ b (.int j)) : PV C M δ (.BinOp a .Pow b pos) (.int (i ^ j.toNat)) := pv_op (fun _ => op_powW) (rd_I hc) ha hb
theorem pv_neg (ha : PV C M δ a (.int i)) : PV C M δ (.UnaryOp .USub a pos) (.int (-i)) :=
  PV.of (fun n => pe_un un_neg (pe_M a n)) (val_un (r := rU fun i => .int (-i)) ha fun H v tk h Q q => by
    cases h
    exact ⟨i, rfl, q _ H (Same.refl H) (.int _)⟩)
theorem pv_cmp {op : CmpOp} {r : R2} (ho : ∀ i, OpR (C.X i) (compareOp op) r) (hm : behindInMarks op b = false) (hr : RD G.K M r d1 d2 d) (ha : PV C M δ a d1) (hb : PV C M δ b d2) : PV C M δ (.Compare a [op] [b] pos) d :=
  PV.of (fun n => pe_cmpR (ho n) (pe_M a n) (pe_M b n) hm) (val_op ha hb hr)
theorem ptd_cmp {op : CmpOp} {r : R2} {v : Bool} (ho : ∀ i, OpR (C.X i) (compareOp op) r) (hm : behindInMarks op b = false) (hr : RD G.K M r d1 d2 (.bool v)) (ha : PV C M δ a d1) (hb : PV C M δ b d2) : PTD C M δ (.Compare a [op] [b] pos) v :=
  PTD.of (fun n => pt_cmpR (ho n) (pe_M a n) (pe_M b n) hm) fun H σ tk ev Q q => val_op ha hb hr H σ tk ev _ fun z H' e hd => by
    cases hd
    exact ⟨v, rfl, q H' e⟩
theorem pv_lt (ha : PV C M δ a (.int i)) (hb : PV C M δ b (.int j)) : PV C M δ (.Compare a [.Lt] [b] pos) (.bool (decide (i < j))) := pv_cmp (fun _ => op_lt) (nomark b) (rd_IB (g := fun i j => decide (i < j))) ha hb
theorem pv_le (ha : PV C M δ a (.int i)) (hb : PV C M δ b (.int j)) : PV C M δ (.Compare a [.LtE] [b] pos) (.bool (decide (i ≤ j))) := pv_cmp (fun _ => op_le) (nomark b) (rd_IB (g := fun i j => decide (i ≤ j))) ha hb
theorem pv_gt (ha : PV C M δ a (.int i)) (hb : PV C M δ b (.int j)) : PV C M δ (.Compare a [.Gt] [b] pos) (.bool (decide (j < i))) := pv_cmp (fun _ => op_gt) (nomark b) (rd_IB (g := fun i j => decide (j < i))) ha hb
theorem pv_ge (ha : PV C M δ a (.int i)) (hb : PV C M δ b (.int j)) : PV C M δ (.Compare a [.GtE] [b] pos) (.bool (decide (j ≤ i))) := pv_cmp (fun _ => op_ge) (nomark b) (rd_IB (g := fun i j => decide (j ≤ i))) ha hb
theorem ptd_lt (ha : PV C M δ a (.int i)) (hb : PV C M δ b (.int j)) : PTD C M δ (.Compare a [.Lt] [b] pos) (decide (i < j)) := ptd_cmp (fun _ => op_lt) (nomark b) (rd_IB (g := fun i j => decide (i < j))) ha hb
theorem ptd_gt (ha : PV C M δ a (.int i)) (hb : PV C M δ b (.int j)) : PTD C M δ (.Compare a [.Gt] [b] pos) (decide (j < i)) := ptd_cmp (fun _ => op_gt) (nomark b) (rd_IB (g := fun i j => decide (j < i))) ha hb
theorem hu_ctx (n) : (C.X n).A.units + 64 < cLine := by
  have := (C.room n).un
  omega
theorem rd_eq (h1 : SeqAt.shaped d1 = true) (h2 : SeqAt.shaped d2 = true) : RD G.K M (rEqD G.K) d1 d2 (.bool (PyData.eqv d1 d2)) := fun H v u tk a b Q q =>
  ⟨d1, d2, a.dp (SeqAt.canLay_of_shaped h1), b.dp (SeqAt.canLay_of_shaped h2), h1, h2, q _ H (Same.refl H) (.bl _)⟩
theorem rd_ne (h1 : SeqAt.shaped d1 = true) (h2 : SeqAt.shaped d2 = true) : RD G.K M (rNeD G.K) d1 d2 (.bool (!PyData.eqv d1 d2)) := fun H v u tk a b Q q =>
  ⟨d1, d2, a.dp (SeqAt.canLay_of_shaped h1), b.dp (SeqAt.canLay_of_shaped h2), h1, h2, q _ H (Same.refl H) (.bl _)⟩
theorem op_eqC (n) : OpR (C.X n) (compareOp .Eq) (rEqD G.K) := by
  have h := op_eqD (hu_ctx (C := C) n)
  rw [C.hK n] at h
  exact h
theorem op_neC (n) : OpR (C.X n) (compareOp .NotEq) (rNeD G.K) := by
  have h := op_neD (hu_ctx (C := C) n)
  rw [C.hK n] at h
  exact h
theorem pv_eq (h1 : SeqAt.shaped d1 = true) (h2 : SeqAt.shaped d2 = true) (ha : PV C M δ a d1) (hb : PV C M δ b d2) : PV C M δ (.Compare a [.Eq] [b] pos) (.bool (PyData.eqv d1 d2)) := pv_cmp op_eqC (nomark b) (rd_eq h1 h2) ha hb
theorem pv_ne (h1 : SeqAt.shaped d1 = true) (h2 : SeqAt.shaped d2 = true) (ha : PV C M δ a d1) (hb : PV C M δ b d2) : PV C M δ (.Compare a [.NotEq] [b] pos) (.bool (!PyData.eqv d1 d2)) := pv_cmp op_neC (nomark b) (rd_ne h1 h2) ha hb
theorem ptd_eq (h1 : SeqAt.shaped d1 = true) (h2 : SeqAt.shaped d2 = true) (ha : PV C M δ a d1) (hb : PV C M δ b d2) : PTD C M δ (.Compare a [.Eq] [b] pos) (PyData.eqv d1 d2) := ptd_cmp op_eqC (nomark b) (rd_eq h1 h2) ha hb
theorem ptd_ne (h1 : SeqAt.shaped d1 = true) (h2 : SeqAt.shaped d2 = true) (ha : PV C M δ a d1) (hb : PV C M δ b d2) : PTD C M δ (.Compare a [.NotEq] [b] pos) (!PyData.eqv d1 d2) := ptd_cmp op_neC (nomark b) (rd_ne h1 h2) ha hb
def isNon : PyData → Bool
  | .none => true
  | _ => false
def rIsNo : R2 := fun x y H Q => y = .non ∧ Q (.bl (decide (x = .non))) H
def rNotNo : R2 := fun x y H Q => y = .non ∧ Q (.bl (!decide (x = .non))) H
theorem dn_non {K : PySem.W.Frag} {H : Hp} {v : V} (h : Dn K M H v d) : decide (v = V.non) = isNon d := by
  cases h <;> simp [isNon]
theorem rd_isN : RD G.K M rIsNo d .none (.bool (isNon d)) := fun H v u tk h1 h2 Q q => by
  cases h2
  refine ⟨rfl, ?_⟩
  rw [dn_non h1]
  exact q _ H (Same.refl H) (.bl _)
theorem rd_notN : RD G.K M rNotNo d .none (.bool (!isNon d)) := fun H v u tk h1 h2 Q q => by
  cases h2
  refine ⟨rfl, ?_⟩
  rw [dn_non h1]
  exact q _ H (Same.refl H) (.bl _)
theorem pv_isN (ha : PV C M δ a d) (hb : PV C M δ b .none) : PV C M δ (.Compare a [.Is] [b] pos) (.bool (isNon d)) := pv_cmp (fun _ => op_isN) (nomark b) rd_isN ha hb
theorem ptd_isN (ha : PV C M δ a d) (hb : PV C M δ b .none) : PTD C M δ (.Compare a [.Is] [b] pos) (isNon d) := ptd_cmp (fun _ => op_isN) (nomark b) rd_isN ha hb
theorem ptd_notN (ha : PV C M δ a d) (hb : PV C M δ b .none) : PTD C M δ (.Compare a [.IsNot] [b] pos) (!isNon d) := ptd_cmp (fun _ => op_notN) (nomark b) rd_notN ha hb
/-- a < b <= c and its like: ints -/
theorem pv_chain {op op' : CmpOp} {f g : Int → Int → Bool} {l : Int} (ho : ∀ i, OpR (C.X i) (compareOp op) (rI0 fun i j => .bl (f i j))) (ho' : ∀ i, OpR (C.X i) (compareOp op') (rI0 fun i j => .bl (g i j)))
    (ha : PV C M δ a (.int i)) (hb : PV C M δ b (.int j)) (hc : PV C M δ c (.int l)) (hm : lastMarks [op, op'] [b, c] = false := by with_unfolding_all rfl) : PV C M δ (.Compare a [op, op'] [b, c] pos) (.bool (f i j && g j l)) :=
  PV.of (fun n => pe_chain (ho n) (ho' n) (pe_M a n) (pe_M b n) (pe_M c n) hm) fun H σ tk ev Q q =>
    ha H σ tk ev _ fun v H1 e1 d1 => hb H1 σ (tk.same e1) (ev.same e1) _ fun u H2 e2 d2 => by
      cases d1
      cases d2
      refine ⟨i, j, rfl, rfl, f i j, rfl, ?_⟩
      cases hf : f i j with
      | true =>
        rw [if_pos rfl]
        refine hc H2 σ ((tk.same e1).same e2) ((ev.same e1).same e2) _ fun z H3 e3 d3 => ?_
        cases d3
        refine ⟨j, l, rfl, rfl, ?_⟩
        have k := q (.bl (g j l)) H3 ((e1.trans e2).trans e3)
        rw [hf, Bool.true_and] at k
        exact k (.bl _)
      | false =>
        rw [if_neg Bool.false_ne_true]
        have k := q (.bl false) H2 (e1.trans e2)
        rw [hf, Bool.false_and] at k
        exact k (.bl _)
/-! and, or, not as values -/
theorem pv_one {op} (ha : PV C M δ a d) : PV C M δ (.BoolOp op [a] pos) d := PV.of (fun n => pe_one (pe_M a n)) ha
theorem pv_and_t (ha : PV C M δ a (.bool true)) (hb : PV C M δ (.BoolOp .And (b :: es) pos) d) : PV C M δ (.BoolOp .And (a :: b :: es) pos) d :=
  PV.of (fun n => pe_and (pe_M a n) (pe_M _ n)) fun H σ tk ev Q q => ha H σ tk ev _ fun v H1 e1 d1 => by
    cases d1
    refine ⟨true, rfl, ?_⟩
    rw [if_pos rfl]
    exact hb H1 σ (tk.same e1) (ev.same e1) Q fun z H2 e2 d2 => q z H2 (e1.trans e2) d2
theorem pv_and_f (ha : PV C M δ a (.bool false)) : PV C M δ (.BoolOp .And (a :: b :: es) pos) (.bool false) :=
  PV.of (fun n => pe_and (pe_M a n) (pe_M _ n)) fun H σ tk ev Q q => ha H σ tk ev _ fun v H1 e1 d1 => by
    cases d1
    refine ⟨false, rfl, ?_⟩
    rw [if_neg Bool.false_ne_true]
    exact q _ H1 e1 (.bl _)
theorem pv_and2 {v : Bool} (ha : PV C M δ a (.bool v)) {w : Bool} (hb : v = true → PV C M δ (.BoolOp .And (b :: es) pos) (.bool w)) : PV C M δ (.BoolOp .And (a :: b :: es) pos) (.bool (v && w)) := by
  cases v with
  | true => exact pv_and_t ha (hb rfl)
  | false => exact pv_and_f ha
theorem pv_or_f (ha : PV C M δ a (.bool false)) (hb : PV C M δ (.BoolOp .Or (b :: es) pos) d) : PV C M δ (.BoolOp .Or (a :: b :: es) pos) d :=
  PV.of (fun n => pe_or (pe_M a n) (pe_M _ n)) fun H σ tk ev Q q => ha H σ tk ev _ fun v H1 e1 d1 => by
    cases d1
    refine ⟨false, rfl, ?_⟩
    rw [if_neg Bool.false_ne_true]
    exact hb H1 σ (tk.same e1) (ev.same e1) Q fun z H2 e2 d2 => q z H2 (e1.trans e2) d2
theorem pv_not {v : Bool} (ha : PV C M δ a (.bool v)) : PV C M δ (.UnaryOp .Not a pos) (.bool (!v)) :=
  PV.of (fun n => pe_not (pe_M a n)) fun H σ tk ev Q q => ha H σ tk ev _ fun z H1 e1 d1 => by
    cases d1
    exact ⟨v, rfl, q _ H1 e1 (.bl _)⟩
theorem pv_ifT (hc : PTD C M δ c true) (ha : PV C M δ a d) : PV C M δ (.IfExp c a b pos) d :=
  PV.of (fun n => pe_ifExp (pt_M c n) (pe_M a n) (pe_M b n)) fun H σ tk ev Q q => hc H σ tk ev _ fun H1 e1 => by
    rw [if_pos rfl]
    exact ha H1 σ (tk.same e1) (ev.same e1) Q fun z H2 e2 d2 => q z H2 (e1.trans e2) d2
theorem pv_ifF (hc : PTD C M δ c false) (hb : PV C M δ b d) : PV C M δ (.IfExp c a b pos) d :=
  PV.of (fun n => pe_ifExp (pt_M c n) (pe_M a n) (pe_M b n)) fun H σ tk ev Q q => hc H σ tk ev _ fun H1 e1 => by
    rw [if_neg Bool.false_ne_true]
    exact hb H1 σ (tk.same e1) (ev.same e1) Q fun z H2 e2 d2 => q z H2 (e1.trans e2) d2

/-! tests -/
theorem ptd_val {v : Bool} (ha : PV C M δ a (.bool v)) (he : ∀ env whole, isTrue a env whole = (do let v ← whole; standAt a.pos; holding [v] (truthy v)) := by intro _ _; rfl) : PTD C M δ a v :=
  PTD.of (fun n => pt_val (pe_M a n) (he _)) fun H σ tk ev Q q => ha H σ tk ev _ fun z H1 e1 d1 => by
    cases d1
    exact ⟨v, rfl, q H1 e1⟩
theorem ptd_not {v : Bool} (ha : PTD C M δ a v) : PTD C M δ (.UnaryOp .Not a pos) (!v) :=
  PTD.of (fun n => pt_not (pt_M a n)) fun H σ tk ev Q q => ha H σ tk ev _ fun H1 e1 => q H1 e1
theorem PWD.ptd {v : Bool} (h : PWD C M δ a v) : PTD C M δ a v := PTD.of (fun n => PW.pt (pw_M a n)) h
theorem pwd_or1 {v : Bool} (ha : PTD C M δ a v) : PWD C M δ (.BoolOp .Or [a] pos) v := PWD.of (fun n => pw_or1 (pt_M a n)) ha
theorem pwd_and1 {v : Bool} (ha : PTD C M δ a v) : PWD C M δ (.BoolOp .And [a] pos) v := PWD.of (fun n => pw_and1 (pt_M a n)) ha
theorem pwd_or_t (ha : PTD C M δ a true) : PWD C M δ (.BoolOp .Or (a :: b :: es) pos) true :=
  PWD.of (fun n => pw_or (pt_M a n) (pw_M _ n)) fun H σ tk ev Q q => ha H σ tk ev _ fun H1 e1 => by
    rw [if_pos rfl]
    exact q H1 e1
theorem pwd_or_f {v : Bool} (ha : PTD C M δ a false) (hb : PWD C M δ (.BoolOp .Or (b :: es) pos) v) : PWD C M δ (.BoolOp .Or (a :: b :: es) pos) v :=
  PWD.of (fun n => pw_or (pt_M a n) (pw_M _ n)) fun H σ tk ev Q q => ha H σ tk ev _ fun H1 e1 => by
    rw [if_neg Bool.false_ne_true]
    exact hb H1 σ (tk.same e1) (ev.same e1) Q fun H2 e2 => q H2 (e1.trans e2)
theorem pwd_or2 {v w : Bool} (ha : PTD C M δ a v) (hb : v = false → PWD C M δ (.BoolOp .Or (b :: es) pos) w) : PWD C M δ (.BoolOp .Or (a :: b :: es) pos) (v || w) := by
  cases v with
  | true => exact pwd_or_t ha
  | false => exact pwd_or_f ha (hb rfl)
theorem pwd_and_f (ha : PTD C M δ a false) : PWD C M δ (.BoolOp .And (a :: b :: es) pos) false :=
  PWD.of (fun n => pw_and (pt_M a n) (pw_M _ n)) fun H σ tk ev Q q => ha H σ tk ev _ fun H1 e1 => by
    rw [if_neg Bool.false_ne_true]
    exact q H1 e1
theorem pwd_and_t {v : Bool} (ha : PTD C M δ a true) (hb : PWD C M δ (.BoolOp .And (b :: es) pos) v) : PWD C M δ (.BoolOp .And (a :: b :: es) pos) v :=
  PWD.of (fun n => pw_and (pt_M a n) (pw_M _ n)) fun H σ tk ev Q q => ha H σ tk ev _ fun H1 e1 => by
    rw [if_pos rfl]
    exact hb H1 σ (tk.same e1) (ev.same e1) Q fun H2 e2 => q H2 (e1.trans e2)
theorem pwd_and2 {v w : Bool} (ha : PTD C M δ a v) (hb : v = true → PWD C M δ (.BoolOp .And (b :: es) pos) w) : PWD C M δ (.BoolOp .And (a :: b :: es) pos) (v && w) := by
  cases v with
  | true => exact pwd_and_t ha (hb rfl)
  | false => exact pwd_and_f ha

/-! arguments, displays -/
theorem pad_nil : PAD C M δ [] [] := PAD.of (fun _ => pa_nil) arg_nil
theorem pad_cons (h : PV C M δ e d) (hr : PAD C M δ es ds) (hs : ∀ env, starEach (e :: es) env = (false, eval e env) :: starEach es env := by intro _; rfl) : PAD C M δ (e :: es) (d :: ds) :=
  PAD.of (fun n => pa_cons (pe_M e n) (pa_M es n) (hs _)) (arg_cons h hr)
theorem pad_star {ds1 : List PyData} (h : PV C M δ e (.tuple ds1)) (hr : PAD C M δ es ds) (hs : ∀ env, starEach (.Starred e p :: es) env = (true, eval e env) :: starEach es env := by intro _; rfl) : PAD C M δ (.Starred e p :: es) (ds1 ++ ds) :=
  PAD.of (t := StX.tStar G.K (eM C e) (aM C es)) (fun n => by
    have z := StX.pa_star (pe_M e n) (pa_M es n) (hs (C.X n).env) (p := p)
    rw [C.hK n] at z
    exact z) fun H σ tk ev Q q => h H σ tk ev _ fun v H1 e1 d1 => by
    cases d1 with
    | tup hT m ha =>
      refine ⟨_, _, rfl, .inl (.inl (.inl hT)), hr H1 σ (tk.same e1) (ev.same e1) _ fun vs H2 e2 d2 => ?_⟩
      exact q _ H2 (e1.trans e2) ((ha.same e2).append d2)
theorem dn_newT {K : PySem.W.Frag} {H : Hp} {q : Addr} {xs : List V} (tk : TrkM M H) (h : DnAll K M H xs ds) (hq : H q = none) : Dn K M (upd H q (.tup xs)) (.ref q) (.tuple ds) :=
  .tup upd_same (tk.new hq) (h.same (same_new hq))
theorem dn_newL {K : PySem.W.Frag} {H : Hp} {q : Addr} {xs : List V} (tk : TrkM M H) (h : DnAll K M H xs ds) (hq : H q = none) : Dn K M (upd H q (.lst xs)) (.ref q) (.list ds) :=
  .lst (.inl upd_same) (tk.new hq) (h.same (same_new hq))
theorem pv_tup {x1} (h : PAD C M δ es ds) (hl : ds.length ≤ sizeLine := by first | exact (by decide) | (simp; decide)) : PV C M δ (.Tuple es x1 pos) (.tuple ds) :=
  PV.of (fun n => pe_tup (pa_M es n)) fun H σ tk ev Q q => h H σ tk ev _ fun vs H1 e1 d1 => ⟨by rw [d1.length]; exact hl, fun r hr => q _ _ (e1.trans (same_new hr)) (dn_newT (tk.same e1) d1 hr)⟩
theorem pv_lst (h : PAD C M δ es ds) (hl : ds.length ≤ sizeLine := by first | exact (by decide) | (simp; decide)) : PV C M δ (.List es pos) (.list ds) :=
  PV.of (fun n => pe_lst (pa_M es n)) fun H σ tk ev Q q => h H σ tk ev _ fun vs H1 e1 d1 => ⟨by rw [d1.length]; exact hl, fun r hr => q _ _ (e1.trans (same_new hr)) (dn_newL (tk.same e1) d1 hr)⟩

/-! subscripts -/
theorem atI_dn {K : PySem.W.Frag} {H : Hp} {xs : List V} (h : DnAll K M H xs ds) (ha : atI ds i = some d) : ∃ v, atI xs i = some v ∧ Dn K M H v d := by
  unfold atI at ha ⊢
  rw [h.length]
  cases e : ixN ds.length i with
  | none => rw [e] at ha; cases ha
  | some n =>
    rw [e] at ha
    exact h.get ha
theorem pv_ixT (ha : PV C M δ a (.tuple ds)) (hb : PV C M δ b (.int i)) (hi : atI ds i = some d) (hs : PlainIx b := by exact fun _ _ => rfl) : PV C M δ (.Subscript a b pos) d :=
  PV.of (t := tOp (rIxT G.K) (eM C a) (eM C b)) (fun n => by
    have h := ix_tup (X := C.X n)
    rw [C.hK n] at h
    exact pe_ix h (pe_M a n) (pe_M b n) hs) (val_op ha hb fun H v u tk h1 h2 Q q => by
    cases h2
    cases h1 with
    | tup hT m hd =>
      obtain ⟨x, e1, d1⟩ := atI_dn hd hi
      exact ⟨_, _, i, x, rfl, rfl, .inl (.inl hT), e1, q x H (Same.refl H) d1⟩)
theorem pv_ixL (ha : PV C M δ a (.list ds)) (hb : PV C M δ b (.int i)) (hi : atI ds i = some d) (hs : PlainIx b := by exact fun _ _ => rfl) : PV C M δ (.Subscript a b pos) d :=
  PV.of (t := tOp (rIxL G.K) (eM C a) (eM C b)) (fun n => by
    have h := ix_list (X := C.X n)
    rw [C.hK n] at h
    exact pe_ix h (pe_M a n) (pe_M b n) hs) (val_op ha hb fun H v u tk h1 h2 Q q => by
    cases h2
    cases h1 with
    | lst hT m hd =>
      obtain ⟨x, e1, d1⟩ := atI_dn hd hi
      exact ⟨_, _, i, x, rfl, rfl, .inl hT, e1, q x H (Same.refl H) d1⟩)
end
end
end TP

/-! K2: statements, built-in calls, own defs, loops, comprehensions -/
namespace TP
open PySem PySem.Spec PyProof.Rows L2
section
variable {G : Glb} {k : Nat} {N : List Str} {sc : Scope} {C : Ctx G k N sc} {M : Addr → Prop} {δ δ1 δ2 : DE}
variable {a b c e : Expr} {es : List Expr} {pos p p2 : Pos} {i j : Int} {d d1 d2 : PyData} {ds : List PyData} {o : Out}

/-! ### slices of tuples, lists turned round -/
def cutD (ds : List PyData) (lo hi : Option Int) : List PyData := (ds.drop (HT.sIx ds.length 0 lo)).take (HT.sIx ds.length ds.length hi - HT.sIx ds.length 0 lo)
theorem dn_cut {K : PySem.W.Frag} {H : Hp} {xs : List V} (h : DnAll K M H xs ds) (lo hi : Option Int) : DnAll K M H (cutV xs lo hi) (cutD ds lo hi) := by
  unfold cutV cutD
  rw [h.length]
  exact (h.drop _).take _
theorem rslT {K : PySem.W.Frag} {H : Hp} {v : V} {lo hi : Option Int} (tk : TrkM M H) (h : Dn K M H v (.tuple ds)) (hne : ¬ (HT.sIx ds.length 0 lo = 0 ∧ HT.sIx ds.length ds.length hi = ds.length)) {Q : VK} (q : ∀ z H', Same H H' → Dn K M H' z (.tuple (cutD ds lo hi)) → Q z H') : rSlT K v lo hi H Q := by
  cases h with
  | tup hT m hd => exact ⟨_, _, rfl, .inl (.inl hT), by rw [hd.length]; exact hne, fun r hr => q _ _ (same_new hr) (dn_newT tk (dn_cut hd lo hi) hr)⟩
theorem pv_slT_hi (hne : ¬ (0 = 0 ∧ HT.sIx ds.length ds.length (some j) = ds.length)) (ha : PV C M δ a (.tuple ds)) (hb : PV C M δ b (.int j)) : PV C M δ (.Subscript a (.Slice none (some b) none p2) pos) (.tuple (cutD ds none (some j))) :=
  PV.of (t := tSl (rSlT G.K) (eM C a) tNoPart (tPart (eM C b))) (fun n => by
    have h := sl_tup (X := C.X n)
    rw [C.hK n] at h
    exact pe_slice h (pe_M a n) po_none (po_some (pe_M b n))) fun H σ tk ev Q q => ha H σ tk ev _ fun v H1 e1 h1 => hb H1 σ (tk.same e1) (ev.same e1) _ fun u H2 e2 h2 => by
      cases h2
      exact ⟨j, rfl, rslT (lo := none) (hi := some j) ((tk.same e1).same e2) (h1.same e2) hne fun z H3 e3 h3 => q z H3 ((e1.trans e2).trans e3) h3⟩
theorem pv_slT_lo (hne : ¬ (HT.sIx ds.length 0 (some i) = 0 ∧ ds.length = ds.length)) (ha : PV C M δ a (.tuple ds)) (hb : PV C M δ b (.int i)) : PV C M δ (.Subscript a (.Slice (some b) none none p2) pos) (.tuple (cutD ds (some i) none)) :=
  PV.of (t := tSl (rSlT G.K) (eM C a) (tPart (eM C b)) tNoPart) (fun n => by
    have h := sl_tup (X := C.X n)
    rw [C.hK n] at h
    exact pe_slice h (pe_M a n) (po_some (pe_M b n)) po_none) fun H σ tk ev Q q => ha H σ tk ev _ fun v H1 e1 h1 => hb H1 σ (tk.same e1) (ev.same e1) _ fun u H2 e2 h2 => by
      cases h2
      exact ⟨i, rfl, rslT (lo := some i) (hi := none) ((tk.same e1).same e2) (h1.same e2) hne fun z H3 e3 h3 => q z H3 ((e1.trans e2).trans e3) h3⟩
/-- xs[:j] of a list -/
theorem pv_slL_hi (ha : PV C M δ a (.list ds)) (hb : PV C M δ b (.int j)) : PV C M δ (.Subscript a (.Slice none (some b) none p2) pos) (.list (cutD ds none (some j))) :=
  PV.of (t := tSl (rSlL G.K) (eM C a) tNoPart (tPart (eM C b))) (fun n => by
    have h := sl_list (X := C.X n)
    rw [C.hK n] at h
    exact pe_slice h (pe_M a n) po_none (po_some (pe_M b n))) fun H σ tk ev Q q => ha H σ tk ev _ fun v H1 e1 h1 => hb H1 σ (tk.same e1) (ev.same e1) _ fun u H2 e2 h2 => by
      cases h2
      cases h1.same e2 with
      | lst hT m hd => exact ⟨j, rfl, _, _, rfl, .inl hT, fun r hr => q _ _ ((e1.trans e2).trans (same_new hr)) (dn_newL ((tk.same e1).same e2) (dn_cut hd none (some j)) hr)⟩
theorem pv_revL {n : Nat} {p1 p3 : Pos} (ha : PV C M δ a (.list ds)) : PV C M δ (.Subscript a (.Slice none none (some (.UnaryOp .USub (.Constant (.int 1) n p1) p2)) p3) pos) (.list ds.reverse) :=
  PV.of (t := tRevL G.K (eM C a)) (fun n => by
    have h := pe_revL (X := C.X n) (pe_M a n) (k := ‹Nat›) (p1 := p1) (p2 := p2) (p3 := p3) (pos := pos)
    rw [C.hK n] at h
    exact h) fun H σ tk ev Q q => ha H σ tk ev _ fun v H1 e1 h1 => by
      cases h1 with
      | lst hT m hd => exact ⟨_, _, rfl, .inl hT, fun r hr => q _ _ (e1.trans (same_new hr)) (dn_newL (tk.same e1) hd.reverse hr)⟩
/-- xs + ys of two lists that are tracked or frozen -/
def rCatS : R2 := fun x y H Q => ∃ l b xs zs, x = .ref l ∧ y = .ref b ∧ Rd H l (.lst xs) ∧ Rd H b (.lst zs) ∧ xs.length + zs.length ≤ sizeLine ∧ ∀ p, H p = none → Q (.ref p) (upd H p (.lst (xs ++ zs)))
theorem op_catS {X : Cx} : OpR X (binaryOp .Add) rCatS := by
  intro pins s σ H x y v u Q I rx ry h
  obtain ⟨l, b, xs, zs, rfl, rfl, hH, hB, hz, q⟩ := h
  cases rx
  cases ry
  obtain ⟨z, its, n, r, e⟩ := hH.ok I.hok
  obtain ⟨z2, its2, n2, r2, e2⟩ := hB.ok I.hok
  have hl := r.length
  have hl2 := r2.length
  refine PySem.P.add_list e e2 ?_ (by rw [List.size_toArray, List.size_toArray]; omega)
  have ea : its.toArray ++ its2.toArray = (its ++ its2).toArray := by simp
  rw [ea]
  exact ⟨.ref _, _, I.lnew (t' := s.toks) (r.append r2) (by rw [List.length_append]; omega), rfl, q _ I.fresh⟩
theorem pv_cat {es : List PyData} (hl : ds.length + es.length ≤ sizeLine) (ha : PV C M δ a (.list ds)) (hb : PV C M δ b (.list es)) : PV C M δ (.BinOp a .Add b pos) (.list (ds ++ es)) :=
  pv_op (fun _ => op_catS) (fun H v u tk h1 h2 Q q => by
    cases h1 with
    | lst hT m hd =>
      cases h2 with
      | lst hT2 m2 hd2 => exact ⟨_, _, _, _, rfl, rfl, hT, hT2, by rw [hd.length, hd2.length]; exact hl, fun r hr => q _ _ (same_new hr) (dn_newL tk (hd.append hd2) hr)⟩) ha hb

/-! ### built-in calls -/
theorem hm_of {x : Str} {v : Option Value} (hm : G.mg x = v) (n) : (C.X n).mg x = v := by
  rw [C.hmg n]
  exact hm
abbrev GLx (sc : Scope) (x : Str) : Prop := sc.names.lookup x = some .globalImplicit
theorem pv_callB {x : Str} {id : String} {r : List V → Hp → VK → Prop} (hc : ∀ n, CallR (C.X n) (.builtin id) r) (hv : bootBuiltins x = some (.builtin id)) (hm : G.mg x = none) (hg : GLx sc x) (ha : PAD C M δ (e :: es) ds) (hr : RCD G.K M r ds d)
    (hn : x ≠ "__name__") (hdb : (x == ("__debug__" : Str)) = false)
    (he : ∀ env, starEach (e :: es) env = (false, eval e env) :: starEach es env) (hpl : ∀ env, (backTo pos (starEach es env)).any (·.1) = false) : PV C M δ (.Call (.Name x p) (e :: es) [] pos) d :=
  PV.of (fun n => pe_callB (hc n) (gl_of hg n) (hm_of hm n) hv (pa_M _ n) hn hdb (he _) (hpl _)) (val_cb ha hr)
theorem pv_callTy {x : Str} {id : String} {r : List V → Hp → VK → Prop} (hc : ∀ n, CallR (C.X n) (.type id) r) (hv : bootBuiltins x = some (.type id)) (hm : G.mg x = none) (hg : GLx sc x) (ha : PAD C M δ (e :: es) ds) (hr : RCD G.K M r ds d)
    (hn : x ≠ "__name__") (hdb : (x == ("__debug__" : Str)) = false)
    (he : ∀ env, starEach (e :: es) env = (false, eval e env) :: starEach es env) (hpl : ∀ env, (backTo pos (starEach es env)).any (·.1) = false) : PV C M δ (.Call (.Name x p) (e :: es) [] pos) d :=
  PV.of (fun n => pe_callTy (hc n) (gl_of hg n) (hm_of hm n) hv (pa_M _ n) hn hdb (he _) (hpl _)) (val_cb ha hr)
/-- one argument, no star -/
abbrev NoStar (e : Expr) : Prop := ∀ env, starEach [e] env = [(false, eval e env)]
theorem NoStar.cons {e : Expr} (h : NoStar e) (env) : starEach (e :: []) env = (false, eval e env) :: starEach [] env := h env
theorem nostar_nil (pos : Pos) (env) : (backTo pos (starEach [] env)).any (·.1) = false := rfl
theorem pad_one (h : PV C M δ e d) (hs : NoStar e) : PAD C M δ [e] [d] := pad_cons h pad_nil hs.cons
theorem pv_abs (ha : PV C M δ e (.int i)) (hm : G.mg "abs" = none) (hg : GLx sc "abs" := by rfl) (hs : NoStar e := by intro _; rfl) : PV C M δ (.Call (.Name "abs" p) [e] [] pos) (.int (i.natAbs : Int)) :=
  pv_callB (ds := [.int i]) (fun _ => call_abs) boot_abs hm hg (pad_one ha hs) (fun H vs tk h Q q => by
    cases h with
    | cons h1 h2 =>
      cases h1
      cases h2
      refine ⟨i, rfl, ?_⟩
      have e1 : (if i < 0 then -i else i) = (i.natAbs : Int) := by
        by_cases hi : i < 0
        · rw [if_pos hi]; omega
        · rw [if_neg hi]; omega
      rw [e1]
      exact q _ H (Same.refl H) (.int _)) (by decide) (by decide) hs.cons (nostar_nil pos)
theorem pv_lenL (ha : PV C M δ e (.list ds)) (hm : G.mg "len" = none) (hg : GLx sc "len" := by rfl) (hs : NoStar e := by intro _; rfl) : PV C M δ (.Call (.Name "len" p) [e] [] pos) (.int (ds.length : Int)) :=
  pv_callB (ds := [.list ds]) (r := fun xs H Q => ∃ p ys, xs = [.ref p] ∧ (SqL G.K H p ys ∨ SqT G.K H p ys) ∧ Q (.int ys.length) H) (fun n => by
    have h := call_len_seq (X := C.X n)
    rw [C.hK n] at h
    exact h) boot_len hm hg (pad_one ha hs) (fun H vs tk h Q q => by
    cases h with
    | cons h1 h2 =>
      cases h2
      cases h1 with
      | lst hT m hd => exact ⟨_, _, rfl, .inl (.inl hT), by rw [hd.length]; exact q _ H (Same.refl H) (.int _)⟩) (by decide) (by decide) hs.cons (nostar_nil pos)
theorem pv_lenT (ha : PV C M δ e (.tuple ds)) (hm : G.mg "len" = none) (hg : GLx sc "len" := by rfl) (hs : NoStar e := by intro _; rfl) : PV C M δ (.Call (.Name "len" p) [e] [] pos) (.int (ds.length : Int)) :=
  pv_callB (ds := [.tuple ds]) (r := fun xs H Q => ∃ p ys, xs = [.ref p] ∧ (SqL G.K H p ys ∨ SqT G.K H p ys) ∧ Q (.int ys.length) H) (fun n => by
    have h := call_len_seq (X := C.X n)
    rw [C.hK n] at h
    exact h) boot_len hm hg (pad_one ha hs) (fun H vs tk h Q q => by
    cases h with
    | cons h1 h2 =>
      cases h2
      cases h1 with
      | tup hT m hd => exact ⟨_, _, rfl, .inr (.inl (.inl hT)), by rw [hd.length]; exact q _ H (Same.refl H) (.int _)⟩) (by decide) (by decide) hs.cons (nostar_nil pos)
theorem pv_intI (ha : PV C M δ e (.int i)) (hm : G.mg "int" = none) (hg : GLx sc "int" := by rfl) (hs : NoStar e := by intro _; rfl) : PV C M δ (.Call (.Name "int" p) [e] [] pos) (.int i) :=
  pv_callTy (ds := [.int i]) (fun n => call_int1 (X := C.X n)) PyProof.Rows.boot_int hm hg (pad_one ha hs) (fun H vs tk h Q q => by
    cases h with
    | cons h1 h2 =>
      cases h1
      cases h2
      exact .inl ⟨i, rfl, q _ H (Same.refl H) (.int _)⟩) (by decide) (by decide) hs.cons (nostar_nil pos)
theorem pv_intB {v : Bool} (ha : PV C M δ e (.bool v)) (hm : G.mg "int" = none) (hg : GLx sc "int" := by rfl) (hs : NoStar e := by intro _; rfl) : PV C M δ (.Call (.Name "int" p) [e] [] pos) (.int (if v then 1 else 0)) :=
  pv_callTy (ds := [.bool v]) (fun n => call_int1 (X := C.X n)) PyProof.Rows.boot_int hm hg (pad_one ha hs) (fun H vs tk h Q q => by
    cases h with
    | cons h1 h2 =>
      cases h1
      cases h2
      exact .inr ⟨v, rfl, q _ H (Same.refl H) (.int _)⟩) (by decide) (by decide) hs.cons (nostar_nil pos)
theorem pv_all {bs : List Bool} (ha : PV C M δ e (.list (bs.map .bool))) (hm : G.mg "all" = none) (hg : GLx sc "all" := by rfl) (hs : NoStar e := by intro _; rfl) : PV C M δ (.Call (.Name "all" p) [e] [] pos) (.bool (bs.all id)) :=
  pv_callB (ds := [.list (bs.map .bool)]) (r := rAll G.K) (fun n => by
    have h := cr_all (X := C.X n) (C.calm n)
    rw [C.hK n] at h
    exact h) boot_all hm hg (pad_one ha hs) (fun H vs tk h Q q => by
    cases h with
    | cons h1 h2 =>
      cases h2
      cases h1 with
      | lst hT m hd =>
        rw [hd.bools] at hT
        exact ⟨_, bs, rfl, .inl hT, q _ H (Same.refl H) (.bl _)⟩) (by decide) (by decide) hs.cons (nostar_nil pos)
theorem pv_tupleL (ha : PV C M δ e (.list ds)) (hm : G.mg "tuple" = none) (hg : GLx sc "tuple" := by rfl) (hs : NoStar e := by intro _; rfl) : PV C M δ (.Call (.Name "tuple" p) [e] [] pos) (.tuple ds) :=
  pv_callTy (ds := [.list ds]) (r := fun xs H Q => ∃ p ys, xs = [.ref p] ∧ ((SqL G.K H p ys ∧ ∀ l, H l = none → Q (.ref l) (upd H l (.tup ys))) ∨ (SqT G.K H p ys ∧ Q (.ref p) H))) (fun n => by
    have h := call_tuple_of (X := C.X n)
    rw [C.hK n] at h
    exact h) PyProof.Rows.boot_tuple hm hg (pad_one ha hs) (fun H vs tk h Q q => by
    cases h with
    | cons h1 h2 =>
      cases h2
      cases h1 with
      | lst hT m hd => exact ⟨_, _, rfl, .inl ⟨.inl hT, fun l hl => q _ _ (same_new hl) (dn_newT tk hd hl)⟩⟩) (by decide) (by decide) hs.cons (nostar_nil pos)
abbrev NoStar2 (a b : Expr) : Prop := ∀ env, starEach [a, b] env = [(false, eval a env), (false, eval b env)]
theorem NoStar2.cons {a b : Expr} (h : NoStar2 a b) (hb : NoStar b) (env) : starEach (a :: [b]) env = (false, eval a env) :: starEach [b] env := by
  rw [hb env]
  exact h env
theorem nostar_one {b : Expr} (hb : NoStar b) (pos : Pos) (env) : (backTo pos (starEach [b] env)).any (·.1) = false := by
  rw [hb env]
  rfl
theorem pad_two (h : PV C M δ a d1) (h2 : PV C M δ b d2) (hs : NoStar2 a b) (hb : NoStar b) : PAD C M δ [a, b] [d1, d2] := pad_cons h (pad_one h2 hb) (hs.cons hb)
theorem pv_max (ha : PV C M δ a (.int i)) (hb : PV C M δ b (.int j)) (hm : G.mg "max" = none) (hg : GLx sc "max" := by rfl) (hs : NoStar2 a b := by intro _; rfl) (hs2 : NoStar b := by intro _; rfl) : PV C M δ (.Call (.Name "max" p) [a, b] [] pos) (.int (max i j)) :=
  pv_callB (ds := [.int i, .int j]) (fun n => call_max2 (C.calm n)) boot_max hm hg (pad_two ha hb hs hs2) (fun H vs tk h Q q => by
    cases h with
    | cons h1 h2 =>
      cases h1
      cases h2 with
      | cons h2 h3 =>
        cases h2
        cases h3
        refine ⟨i, j, rfl, ?_⟩
        have e1 : (if j > i then j else i) = max i j := by
          by_cases hi : j > i
          · rw [if_pos hi]; omega
          · rw [if_neg hi]; omega
        rw [e1]
        exact q _ H (Same.refl H) (.int _)) (by decide) (by decide) (hs.cons hs2) (nostar_one hs2 pos)
theorem pv_min (ha : PV C M δ a (.int i)) (hb : PV C M δ b (.int j)) (hm : G.mg "min" = none) (hg : GLx sc "min" := by rfl) (hs : NoStar2 a b := by intro _; rfl) (hs2 : NoStar b := by intro _; rfl) : PV C M δ (.Call (.Name "min" p) [a, b] [] pos) (.int (min i j)) :=
  pv_callB (ds := [.int i, .int j]) (fun n => call_min2 (C.calm n)) boot_min hm hg (pad_two ha hb hs hs2) (fun H vs tk h Q q => by
    cases h with
    | cons h1 h2 =>
      cases h1
      cases h2 with
      | cons h2 h3 =>
        cases h2
        cases h3
        refine ⟨i, j, rfl, ?_⟩
        have e1 : (if j < i then j else i) = min i j := by
          by_cases hi : j < i
          · rw [if_pos hi]; omega
          · rw [if_neg hi]; omega
        rw [e1]
        exact q _ H (Same.refl H) (.int _)) (by decide) (by decide) (hs.cons hs2) (nostar_one hs2 pos)
/-- isinstance(x, T), T a built-in type by its name -/
def tyD : PyData → String
  | .none => "NoneType"
  | .bool _ => "bool"
  | .int _ => "int"
  | .str _ => "str"
  | .list _ => "list"
  | .tuple _ => "tuple"
  | .dict _ => "dict"
def noDict : PyData → Bool
  | .dict _ => false
  | _ => true
theorem tyx_of {K : PySem.W.Frag} {H : Hp} {v : V} (hn : noDict d = true) (h : Dn K M H v d) : TyX K H v (.type (tyD d)) := by
  cases h with
  | non => exact .base .non
  | bl b => exact .base (.bl b)
  | int i => exact .base (.int i)
  | str x => exact .base (.str x)
  | lst hT m hd =>
    rcases hT with h | ⟨o, h⟩
    · exact .base (.lst h)
    · exact .base (.frz h)
  | tup hT m hd => exact .base (.tup hT)
  | opq h => exact absurd hn Bool.false_ne_true
theorem pv_isi {ty T : String} {xT : Str} {v : Bool} (hk : kitB ty T = some v) (hbT : bootBuiltins xT = some (.type T)) (ha : PV C M δ e d) (hm : G.mg "isinstance" = none) (hmT : G.mg xT = none) (hg : GLx sc "isinstance" := by rfl) (hgT : GLx sc xT := by rfl) (hty : tyD d = ty := by rfl) (hnd : noDict d = true := by rfl) (hn : xT ≠ "__name__" := by decide) (hd : (xT == ("__debug__" : Str)) = false := by decide)
    (hs : ∀ env, starEach [e, .Name xT p2] env = (false, eval e env) :: starEach [.Name xT p2] env := by intro _; rfl) : PV C M δ (.Call (.Name "isinstance" p) [e, .Name xT p2] [] pos) (.bool v) :=
  PV.of (t := tCB (rIsi G.K) (tCons (eM C e) (tCons (tC (.ty T)) tNil))) (fun n => by
    have h := call_isi (X := C.X n)
    rw [C.hK n] at h
    exact pe_callB h (gl_of hg n) (hm_of hm n) boot_isinstance (pa_cons (pe_M e n) (pa_cons (pe_bltn (gl_of hgT n) (hm_of hmT n) hbT rfl hn hd) pa_nil) (hs _)) (by decide) (by decide) (hs _)) fun H σ tk ev Q q => ha H σ tk ev _ fun z H1 e1 h1 =>
      ⟨z, .ty T, _, _, v, rfl, .ty T, tyx_of hnd h1, kit_ty (by rw [hty]; exact hk), q _ H1 e1 (.bl _)⟩

/-! ### own defs -/
/-- the promise of a def that leaves what stood and answers by F -/
def SpD (K : PySem.W.Frag) (F : List PyData → PyData → Prop) : Sp := fun vs H Q _ => ∃ M ds d, TrkM M H ∧ DnAll K M H vs ds ∧ F ds d ∧ ∀ v H', Same H H' → Dn K M H' v d → Q v H'
structure Def (G : Glb) (x : Str) (k : Nat) (ps : List Str) (sp : Sp) : Prop where
  ex : ∃ f fd, FnOk G.P G.w G.K G.mg G.base CX0 k f fd ps sp ∧ G.mg x = some (.ref f) ∧ PySem.W.keepIn G.K (.ref f) = true ∧ Binds G.K fd ps []
theorem Def.imp {x : Str} {ps : List Str} {sp sp' : Sp} (h : Def G x k ps sp) (w : ∀ vs H Q E, sp' vs H Q E → sp vs H Q E) : Def G x k ps sp' := by
  obtain ⟨f, fd, a, r⟩ := h.ex
  exact ⟨f, fd, a.imp w, r⟩
theorem pv_fn {x : Str} {l : Nat} {ps : List Str} {sp : Sp} (D : Def G x l ps sp) (hl : l ≤ k) (hg : GLx sc x) (n) (hdb : (x == ("__debug__" : Str)) = false := by decide) (he : ∀ env, starEach (e :: es) env = (false, eval e env) :: starEach es env := by intro _; rfl) (hpl : ∀ env, (backTo pos (starEach es env)).any (·.1) = false := by intro _; rfl) :
    PE (C.X n) (.Call (.Name x p) (e :: es) [] pos) (tCall sp [] E0 (aM C (e :: es))) := by
  obtain ⟨f, fd, a, hm, hk, hb⟩ := D.ex
  refine pe_call (X := C.X n) (f := f) (fd := fd) (ps := ps) (k := l) (CX := CX0) (ds := []) ?_ ((C.room n).mono hl) (gl_of hg n) (hm_of hm n) ?_ ?_ .nil pass0 (pa_M _ n) hdb (he _) (hpl _)
  · rw [C.hP n, C.hw n, C.hK n, C.hmg n, C.hbase n]
    exact a
  · rw [C.hK n]
    exact hk
  · rw [C.hK n]
    exact hb
theorem pv_call {x : Str} {l : Nat} {ps : List Str} {F : List PyData → PyData → Prop} (D : Def G x l ps (SpD G.K F)) (hF : F ds d) (ha : PAD C M δ (e :: es) ds) (hl : l ≤ k := by decide) (hg : GLx sc x := by rfl) (hdb : (x == ("__debug__" : Str)) = false := by decide) (he : ∀ env, starEach (e :: es) env = (false, eval e env) :: starEach es env := by intro _; rfl) (hpl : ∀ env, (backTo pos (starEach es env)).any (·.1) = false := by intro _; rfl) :
    PV C M δ (.Call (.Name x p) (e :: es) [] pos) d :=
  PV.of (fun n => pv_fn D hl hg n hdb he hpl) fun H σ tk ev Q q => ha H σ tk ev _ fun vs H1 e1 h1 => by
    refine ⟨M, ds, d, tk.same e1, ?_, hF, fun v H2 e2 h2 => q v H2 (e1.trans e2) h2⟩
    rw [List.append_nil]
    exact h1
/-- a def of the text as the top leaves it -/
structure Raw (G : Glb) (x : Str) (st : Stmt) : Prop where
  ex : ∃ f fd, Fun G.K x x st f fd ∧ G.mg x = some (.ref f)
def ctxOf {P : Program} {w : World} {K : PySem.W.Frag} {mg : Str → Option Value} {base : Heap} {N ps : List Str} {sc : Scope} {k : Nat} (S : FnScope N ps sc) (qual : Str) (f : Addr) (cd : Value) (A : Around) (outer : List Env) (s : Shared) (H : Hp) (E : XK)
    (hr : Room k (A.deeper (envOfC qual sc s.heap.objs.size f cd))) : Ctx ⟨P, w, K, mg, base⟩ k N sc where
  ι := Unit
  X := fun _ => (cxOf CX0 P w K mg base N qual sc f cd A outer s H E).nox
  hP := fun _ => rfl
  hw := fun _ => rfl
  hK := fun _ => rfl
  hmg := fun _ => rfl
  hbase := fun _ => rfl
  hN := fun _ => rfl
  nd := S.nd
  hsc := fun _ => rfl
  calm := fun _ => rfl
  xe := fun _ => rfl
  room := fun _ => hr
  cellOk := True
  fn := fun _ _ _ => rfl
theorem def_sp {x : Str} {st : Stmt} {ps : List Str} {sp : Sp} (R : Raw G x st) (S : FnScope N ps (defScope st)) (len : ∀ vs H Q E, sp vs H Q E → vs.length = ps.length)
    (hb : ∀ (kV doc pm : Value) (an : Option Addr) (cdv ct : Value) (us : List Value), us.length = ps.length → bindArgs (PySem.W.fnOf x x (defArgs st) (defBody st) (defScope st) .none kV doc pm an cdv ct) ⟨us, []⟩ = pure (ps.zip us))
    (body : ∀ (C : Ctx G k N (defScope st)), C.cellOk → ∀ vs H Q E, sp vs H Q E → sM C (defBody st) { nx := fun _ H' => Q .non H', rt := Q } (start N vs) H) : Def G x (k + 1) ps sp := by
  obtain ⟨f, fd, F, hm⟩ := R.ex
  refine ⟨f, fd, F.ok S len fun cdv A outer s H vs Q E hr hsp => ?_, hm, F.kp, F.binds hb⟩
  have z := body (ctxOf (P := G.P) (w := G.w) (K := G.K) (mg := G.mg) (base := G.base) S x f cdv A outer s H E hr) trivial vs H Q E hsp
  exact ⟨_, pss_M (C := ctxOf (P := G.P) (w := G.w) (K := G.K) (mg := G.mg) (base := G.base) S x f cdv A outer s H E hr) _ (), z⟩
/-- THE RULE for a def that leaves what stood -/
theorem def_mk {x : Str} {st : Stmt} {ps : List Str} {F : List PyData → PyData → Prop} (R : Raw G x st) (S : FnScope N ps (defScope st)) (len : ∀ ds d, F ds d → ds.length = ps.length)
    (hb : ∀ (kV doc pm : Value) (an : Option Addr) (cdv ct : Value) (us : List Value), us.length = ps.length → bindArgs (PySem.W.fnOf x x (defArgs st) (defBody st) (defScope st) .none kV doc pm an cdv ct) ⟨us, []⟩ = pure (ps.zip us))
    (body : ∀ (C : Ctx G k N (defScope st)) (M : Addr → Prop), C.cellOk → ∀ ds d, F ds d → SD C M (startD N ds) (defBody st) (.rt d) ∨ (d = .none ∧ ∃ δ', SD C M (startD N ds) (defBody st) (.nx δ'))) : Def G x (k + 1) ps (SpD G.K F) :=
  def_sp R S (fun vs H Q E ⟨M, ds, d, _, h1, h2, _⟩ => by rw [h1.length]; exact len ds d h2) hb fun C hc vs H Q E ⟨M, ds, d, tk, h1, h2, q⟩ => by
    rcases body C M hc ds d h2 with z | ⟨rfl, δ', z⟩
    · exact z H (start N vs) tk (EnvD.start h1) _ fun v H' e h => q v H' e h
    · exact z H (start N vs) tk (EnvD.start h1) _ fun σ' H' e h => q .non H' e .non

/-! ### statements -/
variable {st : Stmt} {rest body orelse : List Stmt}
theorem sd_nil : SD C M δ [] (.nx δ) := SD.of (fun _ => pss_nil) fun H σ tk ev D h => h σ H (Same.refl H) ev
theorem sd_cons (h1 : S1D C M δ st (.nx δ1)) (h2 : SD C M δ1 rest o) : SD C M δ (st :: rest) o :=
  SD.of (fun n => pss_cons (ps_M st n) (pss_M rest n)) fun H σ tk ev D h => h1 H σ tk ev _ fun σ' H' e ev' => h2 H' σ' (tk.same e) ev' D (h.same e)
theorem sd_ret (h1 : S1D C M δ st (.rt d)) : SD C M δ (st :: rest) (.rt d) :=
  SD.of (fun n => pss_cons (ps_M st n) (pss_M rest n)) fun H σ tk ev D h => h1 H σ tk ev _ h
theorem s1_ret (h : PV C M δ e d) : S1D C M δ (.Return (some e) pos) (.rt d) := S1D.of (fun n => ps_ret (pe_M e n)) fun H σ tk ev D q => h H σ tk ev _ q
theorem s1_ifT (hc : PTD C M δ c true) (h : SD C M δ body o) : S1D C M δ (.If c body orelse pos) o :=
  S1D.of (fun n => ps_if (pt_M c n) (pss_M body n) (pss_M orelse n)) fun H σ tk ev D q => hc H σ tk ev _ fun H1 e1 => by
    rw [if_pos rfl]
    exact h H1 σ (tk.same e1) (ev.same e1) D (q.same e1)
theorem s1_ifF (hc : PTD C M δ c false) (h : SD C M δ orelse o) : S1D C M δ (.If c body orelse pos) o :=
  S1D.of (fun n => ps_if (pt_M c n) (pss_M body n) (pss_M orelse n)) fun H σ tk ev D q => hc H σ tk ev _ fun H1 e1 => by
    rw [if_neg Bool.false_ne_true]
    exact h H1 σ (tk.same e1) (ev.same e1) D (q.same e1)
theorem s1_expr (h : PV C M δ e d) (hs : ∀ env, swapsWith e none pos.line env = pure false := by intro _; rfl) : S1D C M δ (.Expr e pos) (.nx δ) :=
  S1D.of (fun n => ps_expr (pe_M e n) (hs _)) fun H σ tk ev D q => h H σ tk ev _ fun v H1 e1 _ => q σ H1 e1 (ev.same e1)
/-! targets -/
def TgD (K : PySem.W.Frag) (M : Addr → Prop) (g : TG) (d : PyData) (δ δ' : DE) : Prop := ∀ H σ v, TrkM M H → EnvD K M H σ δ → Dn K M H v d → ∀ Q : L2.St → Hp → Prop, (∀ σ' H', Same H H' → EnvD K M H' σ' δ' → Q σ' H') → g v σ H Q
theorem tg_name {K : PySem.W.Frag} (n : Nat) : TgD K M (gName n) d δ (δ.set n (some d)) := fun H σ v tk ev h Q q => q _ H (Same.refl H) (ev.set n h)
theorem pg_nameC (n : Nat) {x : Str} (hx : N[n]? = some x) (hl : Loc sc x) (hf : C.cellOk ∨ sc.names.lookup x = some .local) (m) : PG (C.X m) (.Name x pos) (gName n) := by
  refine pg_name (X := C.X m) (i := n) (by rw [C.hN m]; exact C.nd) (by rw [C.hN m]; exact hx) (by rw [C.hsc m]; exact hl) ?_
  rcases hf with h | h
  · exact .inl (C.fn h m x)
  · exact .inr (by rw [C.hsc m]; exact h)
def gNames : List Nat → TGs
  | [] => gNil
  | n :: ns => gCons (gName n) (gNames ns)
def setAll (δ : DE) : List Nat → List PyData → DE
  | n :: ns, d :: ds => setAll (δ.set n (some d)) ns ds
  | _, _ => δ
theorem pgs_nilC (m) : PGs (C.X m) [] (gNames []) := pgs_nil
theorem pgs_consC (n : Nat) {x : Str} {ns : List Nat} (hx : N[n]? = some x) (hl : Loc sc x) (hf : C.cellOk ∨ sc.names.lookup x = some .local) (hr : ∀ m, PGs (C.X m) es (gNames ns))
    (hs : ∀ env, (assignEach (.Name x p :: es) env).map (·.2) = assign (.Name x p) env :: (assignEach es env).map (·.2) := by intro _; rfl) (m) : PGs (C.X m) (.Name x p :: es) (gNames (n :: ns)) :=
  pgs_cons (pg_nameC n hx hl hf m) (hr m) (hs _)
theorem tgs_names {K : PySem.W.Frag} : ∀ (ns : List Nat) (ds : List PyData) (δ : DE), ns.length = ds.length → ∀ H σ vs, TrkM M H → EnvD K M H σ δ → DnAll K M H vs ds → ∀ Q : L2.St → Hp → Prop, (∀ σ' H', Same H H' → EnvD K M H' σ' (setAll δ ns ds) → Q σ' H') → gNames ns vs σ H Q
  | [], [], δ, _, H, σ, _, tk, ev, .nil, Q, q => ⟨rfl, q σ H (Same.refl H) ev⟩
  | n :: ns, d :: ds, δ, hl, H, σ, v :: vs, tk, ev, .cons h t, Q, q => ⟨v, vs, rfl, tgs_names ns ds (δ.set n (some d)) (by simpa using hl) H (σ.set n (some v)) vs tk (ev.set n h) t Q q⟩
  | [], _ :: _, _, hl, _, _, _, _, _, _, _, _ => by simp at hl
  | _ :: _, [], _, hl, _, _, _, _, _, _, _, _ => by simp at hl
theorem tg_tup {K : PySem.W.Frag} {ns : List Nat} {n : Nat} (hl : ns.length = ds.length) (hn : ds.length = n) : TgD K M (gTup K n (gNames ns)) (.tuple ds) δ (setAll δ ns ds) := fun H σ v tk ev h Q q => by
  cases h with
  | tup hT m hd => exact ⟨_, _, rfl, .inl (.inl hT), by rw [hd.length]; exact hn, tgs_names ns ds δ hl H σ _ tk ev hd Q q⟩
theorem pg_tupC {ns : List Nat} {n kk : Nat} (h : ∀ m, PGs (C.X m) es (gNames ns)) (hn : ∀ env, (assignEach es env).length = n) (hst : ∀ env, (assignEach es env).findIdx? (·.1) = none) (m) : PG (C.X m) (.Tuple es kk pos) (gTup G.K n (gNames ns)) := by
  have z := pg_tup (X := C.X m) (C.calm m) (h m) (hn _) (hst _) (pos := pos) (k := kk)
  rw [C.hK m] at z
  exact z
theorem s1_asgG {tg : Expr} {g : TG} (hg : ∀ m, PG (C.X m) tg g) (ht : TgD G.K M g d δ δ1) (h : PV C M δ e d) (hs : ∀ env, env.scope = sc → swapsWithSole [tg] e pos.line env = pure false) (hw : ∀ env, env.scope = sc → swappedStores [tg] e env = pure none) (h1 : ∀ env, (assignEach [tg] env).map (·.2) = [assign tg env]) :
    S1D C M δ (.Assign [tg] e pos) (.nx δ1) :=
  S1D.of (fun n => ps_asg (pe_M e n) (hg n) (hs _ (C.hsc n)) (hw _ (C.hsc n)) (h1 _)) fun H σ tk ev D q => h H σ tk ev _ fun v H1 e1 h1 => ht H1 σ v (tk.same e1) (ev.same e1) h1 _ fun σ2 H2 e2 ev2 => q σ2 H2 (e1.trans e2) ev2
theorem s1_asg (n : Nat) {x : Str} (h : PV C M δ e d) (hx : N[n]? = some x := by rfl) (hl : Loc sc x := by first | exact Or.inl rfl | exact Or.inr rfl) (hf : C.cellOk ∨ sc.names.lookup x = some .local := by first | exact Or.inr rfl | exact Or.inl (by assumption))
    (hs : ∀ env, swapsWithSole [.Name x p] e pos.line env = pure false := by intro _; rfl) : S1D C M δ (.Assign [.Name x p] e pos) (.nx (δ.set n (some d))) :=
  s1_asgG (pg_nameC n hx hl hf) (tg_name n) h (fun env _ => hs env) (fun env _ => rfl) (fun _ => rfl)
theorem s1_unp {ns : List Nat} {n kk : Nat} (hg : ∀ m, PGs (C.X m) es (gNames ns)) (hl : ns.length = ds.length) (hn : ds.length = n) (h : PV C M δ e (.tuple ds)) (hne : ∀ env, (assignEach es env).length = n := by intro _; rfl) (hst : ∀ env, (assignEach es env).findIdx? (·.1) = none := by intro _; rfl)
    (hs : ∀ env, swapsWithSole [.Tuple es kk p] e pos.line env = pure false := by intro _; rfl) (hw : ∀ env, env.scope = sc → swappedStores [.Tuple es kk p] e env = pure none := by intro _ _; rfl) : S1D C M δ (.Assign [.Tuple es kk p] e pos) (.nx (setAll δ ns ds)) :=
  s1_asgG (pg_tupC hg hne hst) (tg_tup hl hn) h (fun env _ => hs env) hw (fun _ => rfl)
theorem s1_par (n m : Nat) {x y : Str} {px py pt : Pos} {kt k2 : Nat} {pt2 : Pos} (ha : PAD C M δ [a, b] [d1, d2]) (hx : N[n]? = some x := by rfl) (hy : N[m]? = some y := by rfl) (hnm : n ≠ m := by decide) (hlx : sc.names.lookup x = some .local := by rfl) (hly : sc.names.lookup y = some .local := by rfl)
    (hw : ∀ env : Env, env.scope = sc → swappedStores [.Tuple [.Name x px, .Name y py] kt pt] (.Tuple [a, b] k2 pt2) env = pure (some [x, y]) := by (intro env he; cases env; cases he; rfl))
    (hs : ∀ env, swapsWithSole [.Tuple [.Name x px, .Name y py] kt pt] (.Tuple [a, b] k2 pt2) pos.line env = pure false := by intro _; rfl) :
    S1D C M δ (.Assign [.Tuple [.Name x px, .Name y py] kt pt] (.Tuple [a, b] k2 pt2) pos) (.nx ((δ.set n (some d1)).set m (some d2))) :=
  S1D.of (fun l => ps_par (X := C.X l) (i := n) (j := m) (C.calm l) (by rw [C.hN l]; exact C.nd) (by rw [C.hN l]; exact hx) (by rw [C.hN l]; exact hy) hnm (by rw [C.hsc l]; exact hlx) (by rw [C.hsc l]; exact hly) (pa_M [a, b] l) (hw _ (C.hsc l)) (hs _)) fun H σ tk ev D q => ha H σ tk ev _ fun vs H1 e1 h1 => by
    cases h1 with
    | cons h1 h2 =>
      cases h2 with
      | cons h2 h3 =>
        cases h3
        exact ⟨_, _, rfl, q _ H1 e1 (((ev.same e1).set n h1).set m h2)⟩
end
end TP

/-! K3: loops, comprehensions, sorted pairs -/
namespace TP
open PySem PySem.Spec PyProof.Rows L2
section
variable {G : Glb} {k : Nat} {N : List Str} {sc : Scope} {C : Ctx G k N sc} {M : Addr → Prop} {δ δ1 δ2 : DE}
variable {a b c e tg : Expr} {es : List Expr} {pos p p2 : Pos} {i j : Int} {d d1 d2 : PyData} {ds : List PyData} {o : Out} {body : List Stmt}

/-! ### what is walked -/
def Wlk (K : PySem.W.Frag) (M : Addr → Prop) (wi : TI) (δ : DE) (n : Nat) (items : Nat → PyData) : Prop := ∀ H σ, TrkM M H → EnvD K M H σ δ → ∀ R : It → Hp → Prop,
  (∀ (J : It) (H' : Hp), Same H H' → (∀ i H2, Same H' H2 → i < n → J.go i H2) →
    (∀ M' : Addr → Prop, (∀ v d, Dn K M H' v d → Dn K M' H' v d) → ∀ i H2 x H3, Same H' H2 → TrkM M' H2 → i < n → J.yld i H2 x H3 → Same H2 H3 ∧ Dn K M' H3 x (items i)) →
    (∀ H2, Same H' H2 → J.stop n H2) → R J H') → wi σ H R
theorem rd_same {H H' : Hp} {q : Addr} {u : HO} (e : Same H H') (h : Rd H q u) : Rd H' q u := by
  rcases h with h | ⟨o, h⟩
  · exact .inl (e q _ h)
  · exact .inr ⟨o, e q _ h⟩
def nth (ds : List PyData) (i : Nat) : PyData := ds.getD i .none
theorem nth_get {i : Nat} (h : ds[i]? = some d) : nth ds i = d := by
  unfold nth
  rw [List.getD_eq_getElem?_getD, h] <;> rfl
/-- two readings of one place -/
theorem one_tup {K : PySem.W.Frag} {H : Hp} {q : Addr} {xs ys : List V} (h : Rd H q (.tup xs)) (h2 : Rd H q (.tup ys)) : xs = ys := by
  rcases h with h | ⟨o, h⟩ <;> rcases h2 with h2 | ⟨o2, h2⟩ <;> (rw [h] at h2; cases h2) <;> rfl
theorem wlk_tup (h : PV C M δ e (.tuple ds)) : Wlk G.K M (iTup G.K (eM C e)) δ ds.length (nth ds) := fun H σ tk ev R q => h H σ tk ev _ fun v H1 e1 h1 => by
  cases h1 with
  | tup hT m hd =>
    rename_i ad xs
    refine ⟨ad, rfl, ⟨xs, .inl (.inl hT)⟩, q _ H1 e1 (fun i H2 s2 hi => ?_) (fun M' hM i H2 x H3 s2 tk2 hi y => ?_) fun H2 s2 => ?_⟩
    · have hx : i < xs.length := by rw [hd.length]; exact hi
      exact ⟨xs, xs[i], .inl (.inl (s2 _ _ hT)), by simp [hx]⟩
    · obtain ⟨rfl, y⟩ := y
      have hy := y xs (.inl (.inl (s2 _ _ hT)))
      obtain ⟨d, e2, h2⟩ := hd.getV hy
      rw [nth_get e2]
      exact ⟨Same.refl _, (hM _ _ h2).same s2⟩
    · exact ⟨xs, .inl (.inl (s2 _ _ hT)), by rw [hd.length]; exact Nat.le_refl _⟩
theorem wlk_list (h : PV C M δ e (.list ds)) : Wlk G.K M (iList G.K (eM C e)) δ ds.length (nth ds) := fun H σ tk ev R q => h H σ tk ev _ fun v H1 e1 h1 => by
  cases h1 with
  | lst hT m hd =>
    rename_i ad xs
    refine ⟨ad, rfl, ⟨xs, .inl hT⟩, q _ H1 e1 (fun i H2 s2 hi => ?_) (fun M' hM i H2 x H3 s2 tk2 hi y => ?_) fun H2 s2 => ?_⟩
    · have hx : i < xs.length := by rw [hd.length]; exact hi
      exact ⟨xs, xs[i], .inl (rd_same s2 hT), by simp [hx]⟩
    · obtain ⟨rfl, y⟩ := y
      have hy := y xs (.inl (rd_same s2 hT))
      obtain ⟨d, e2, h2⟩ := hd.getV hy
      rw [nth_get e2]
      exact ⟨Same.refl _, (hM _ _ h2).same s2⟩
    · exact ⟨xs, .inl (rd_same s2 hT), by rw [hd.length]; exact Nat.le_refl _⟩
theorem wlk_enum (h : PAD C M δ [e] [.list ds]) : Wlk G.K M (iEnum G.K (aM C [e])) δ ds.length (fun i => .tuple [.int (i : Int), nth ds i]) := fun H σ tk ev R q => h H σ tk ev _ fun vs H1 e1 h1 => by
  cases h1 with
  | cons h1 h2 =>
    cases h2
    cases h1 with
    | lst hT m hd =>
      rename_i ad xs
      refine ⟨ad, xs, rfl, .inl hT, q _ H1 e1 (fun i H2 s2 hi => ?_) (fun M' hM i H2 x H3 s2 tk2 hi y => ?_) fun H2 s2 => ?_⟩
      · have hx : i < xs.length := by rw [hd.length]; exact hi
        exact ⟨xs, xs[i], .inl (rd_same s2 hT), by simp [hx]⟩
      · obtain ⟨T, x2, rfl, hn, rfl, y⟩ := y
        have hy := y xs (.inl (rd_same s2 hT))
        obtain ⟨d, e2, h2⟩ := hd.getV hy
        obtain rfl := nth_get e2
        exact ⟨same_new hn, dn_newT tk2 (.cons (.int _) (.cons ((hM _ _ h2).same s2) .nil)) hn⟩
      · exact ⟨xs, .inl (rd_same s2 hT), by rw [hd.length]; exact Nat.le_refl _⟩
theorem wlk_range1 (h : PAD C M δ [e] [.int j]) (hj : -(2 ^ 62) ≤ j ∧ j < 2 ^ 62) : Wlk G.K M (iRng1 (aM C [e])) δ j.toNat (fun i => .int (0 + (i : Int))) := fun H σ tk ev R q => h H σ tk ev _ fun vs H1 e1 h1 => by
  cases h1 with
  | cons h1 h2 =>
    cases h2
    cases h1
    refine ⟨j, rfl, hj.1, hj.2, q _ H1 e1 (fun i H2 s2 hi => hi) (fun M' hM i H2 x H3 s2 tk2 hi y => ?_) fun H2 s2 => Nat.le_refl _⟩
    obtain ⟨rfl, rfl⟩ := y
    exact ⟨Same.refl _, .int _⟩
theorem wlk_range2 (h : PAD C M δ [a, b] [.int i, .int j]) (hi : -(2 ^ 62) ≤ i ∧ i < 2 ^ 62) (hj : -(2 ^ 62) ≤ j ∧ j < 2 ^ 62) : Wlk G.K M (iRng2 (aM C [a, b])) δ (j - i).toNat (fun l => .int (i + (l : Int))) := fun H σ tk ev R q => h H σ tk ev _ fun vs H1 e1 h1 => by
  cases h1 with
  | cons h1 h2 =>
    cases h1
    cases h2 with
    | cons h2 h3 =>
      cases h2
      cases h3
      refine ⟨i, j, rfl, ⟨hi.1, hi.2, hj.1, hj.2⟩, q _ H1 e1 (fun i H2 s2 hi => hi) (fun M' hM i H2 x H3 s2 tk2 hi y => ?_) fun H2 s2 => Nat.le_refl _⟩
      obtain ⟨rfl, rfl⟩ := y
      exact ⟨Same.refl _, .int _⟩
theorem pi_tupC (n) : PI (C.X n) tg e (iTup G.K (eM C e)) := by
  have z := pi_tup (X := C.X n) (tg := tg) (pe_M e n)
  rw [C.hK n] at z
  exact z
theorem pi_listC (n) : PI (C.X n) tg e (iList G.K (eM C e)) := by
  have z := pi_list (X := C.X n) (tg := tg) (pe_M e n)
  rw [C.hK n] at z
  exact z
theorem pi_enumC {kk : Nat} (hm : G.mg "enumerate" = none) (hg : GLx sc "enumerate" := by rfl) (hs : NoStar e := by intro _; rfl) (n) : PI (C.X n) (.Tuple es kk p2) (.Call (.Name "enumerate" p) [e] [] pos) (iEnum G.K (aM C [e])) := by
  have z := pi_enum (X := C.X n) (elts := es) (kk := kk) (tpos := p2) (p := p) (pos := pos) (gl_of hg n) (hm_of hm n) (pa_M [e] n) (hs _)
  rw [C.hK n] at z
  exact z
theorem pi_range1C (hm : G.mg "range" = none) (hg : GLx sc "range" := by rfl) (hs : NoStar e := by intro _; rfl) (n) : PI (C.X n) tg (.Call (.Name "range" p) [e] [] pos) (iRng1 (aM C [e])) :=
  pi_range1 (gl_of hg n) (hm_of hm n) (pa_M [e] n) (hs _)
theorem pi_range2C (hm : G.mg "range" = none) (hg : GLx sc "range" := by rfl) (hs : NoStar2 a b := by intro _; rfl) (hs2 : NoStar b := by intro _; rfl) (n) : PI (C.X n) tg (.Call (.Name "range" p) [a, b] [] pos) (iRng2 (aM C [a, b])) :=
  pi_range2 (gl_of hg n) (hm_of hm n) (pa_M [a, b] n) (hs _) (hs2 _)

/-! ### fewer things known -/
def Weaker (δ2 δ1 : DE) : Prop := δ2.length = δ1.length ∧ ∀ (i : Nat) (d : PyData), δ2[i]? = some (some d) → δ1[i]? = some (some d)
theorem wk_nil : Weaker [] [] := ⟨rfl, fun i d h => by simp at h⟩
theorem wk_refl : Weaker δ δ := ⟨rfl, fun _ _ h => h⟩
theorem wk_none {x : Option PyData} (h : Weaker δ1 δ2) : Weaker (none :: δ1) (x :: δ2) := ⟨by rw [List.length_cons, List.length_cons, h.1], fun i d q => by
  cases i with
  | zero => simp at q
  | succ i => exact h.2 i d (by simpa using q)⟩
theorem wk_same {x : Option PyData} (h : Weaker δ1 δ2) : Weaker (x :: δ1) (x :: δ2) := ⟨by rw [List.length_cons, List.length_cons, h.1], fun i d q => by
  cases i with
  | zero => exact q
  | succ i => exact h.2 i d (by simpa using q)⟩
theorem SD.weak {st : List Stmt} (h : SD C M δ st (.nx δ1)) (w : Weaker δ2 δ1) : SD C M δ st (.nx δ2) := fun H σ tk ev D q => h H σ tk ev D fun σ' H' e ev' => q σ' H' e (ev'.weaken w.1 w.2)
theorem SD.from {st : List Stmt} {o : Out} (h : SD C M δ1 st o) (w : Weaker δ1 δ) : SD C M δ st o := fun H σ tk ev D q => h H σ tk (ev.weaken w.1 w.2) D q

/-! ### for, while -/
theorem passes_never (n) : PassesOwn (model (C.X n).prog (C.X n).w) (C.X n).A (C.X n).env (C.X n).xe := by
  rw [C.xe n]
  exact PassesOwn.never
abbrev NoFold (e : Expr) : Prop := ∀ env x, foldedSetIterable e env x = pure x
/-- every turn goes on -/
theorem s1_for {wi : TI} {g : TG} {n : Nat} {items : Nat → PyData} (env env' : Nat → DE) (hi : ∀ m, PI (C.X m) tg e wi) (hw : Wlk G.K M wi δ n items) (hg : ∀ m, PG (C.X m) tg g) (h0 : env 0 = δ)
    (ht : ∀ i, i < n → TgD G.K M g (items i) (env i) (env' i)) (hb : ∀ i, i < n → SD C M (env' i) body (.nx (env (i + 1)))) (hs : NoFold e := by intro _ _; rfl) : S1D C M δ (.For tg e body [] pos) (.nx (env n)) :=
  S1D.of (fun m => ps_for (passes_never m) (C.calm m) (hi m) (hg m) (pss_M body m) (hs _)) fun H σ tk ev D q => hw H σ tk ev _ fun J H1 e1 go yl stp => by
    refine ⟨fun i m σ2 H2 => m = n - i ∧ i ≤ n ∧ Same H1 H2 ∧ EnvD G.K M H2 σ2 (env i), ⟨n, by simp, Nat.zero_le _, Same.refl _, by rw [h0]; exact ev.same e1⟩, ?_⟩
    rintro i m σ2 H2 ⟨rfl, hin, s2, ev2⟩
    by_cases hlt : i < n
    · refine .inr ⟨go i H2 s2 hlt, fun σ3 H3 => Same H1 H3 ∧ EnvD G.K M H3 σ3 (env (i + 1)), fun σ3 H3 z => ⟨n - (i + 1), by omega, rfl, hlt, z.1, z.2⟩, fun x H3 y => ?_⟩
      have tk2 := (tk.same e1).same s2
      obtain ⟨s3, hx⟩ := yl M (fun _ _ z => z) i H2 x H3 s2 tk2 hlt y
      refine ht i hlt H3 σ2 x (tk2.same s3) (ev2.same s3) hx _ fun σ4 H4 s4 ev4 => ?_
      exact hb i hlt H4 σ4 ((tk2.same s3).same s4) ev4 _ fun σ5 H5 s5 ev5 => ⟨((s2.trans s3).trans s4).trans s5, ev5⟩
    · have ei : i = n := by omega
      subst ei
      exact .inl ⟨stp H2 s2, q σ2 H2 (e1.trans s2) ev2⟩
/-- turn l hands back d -/
theorem s1_forR {wi : TI} {g : TG} {n l : Nat} {items : Nat → PyData} (env env' : Nat → DE) (hln : l < n) (hi : ∀ m, PI (C.X m) tg e wi) (hw : Wlk G.K M wi δ n items) (hg : ∀ m, PG (C.X m) tg g) (h0 : env 0 = δ)
    (ht : ∀ i, i ≤ l → TgD G.K M g (items i) (env i) (env' i)) (hb : ∀ i, i < l → SD C M (env' i) body (.nx (env (i + 1)))) (hr : SD C M (env' l) body (.rt d)) (hs : NoFold e := by intro _ _; rfl) : S1D C M δ (.For tg e body [] pos) (.rt d) :=
  S1D.of (fun m => ps_for (passes_never m) (C.calm m) (hi m) (hg m) (pss_M body m) (hs _)) fun H σ tk ev D q => hw H σ tk ev _ fun J H1 e1 go yl stp => by
    refine ⟨fun i m σ2 H2 => m = n - i ∧ i ≤ l ∧ Same H1 H2 ∧ EnvD G.K M H2 σ2 (env i), ⟨n, by simp, Nat.zero_le _, Same.refl _, by rw [h0]; exact ev.same e1⟩, ?_⟩
    rintro i m σ2 H2 ⟨rfl, hin, s2, ev2⟩
    have hlt : i < n := by omega
    refine .inr ⟨go i H2 s2 hlt, fun σ3 H3 => i < l ∧ Same H1 H3 ∧ EnvD G.K M H3 σ3 (env (i + 1)), fun σ3 H3 z => ⟨n - (i + 1), by omega, rfl, z.1, z.2.1, z.2.2⟩, fun x H3 y => ?_⟩
    have tk2 := (tk.same e1).same s2
    obtain ⟨s3, hx⟩ := yl M (fun _ _ z => z) i H2 x H3 s2 tk2 hlt y
    refine ht i hin H3 σ2 x (tk2.same s3) (ev2.same s3) hx _ fun σ4 H4 s4 ev4 => ?_
    by_cases hl : i < l
    · exact hb i hl H4 σ4 ((tk2.same s3).same s4) ev4 _ fun σ5 H5 s5 ev5 => ⟨hl, ((s2.trans s3).trans s4).trans s5, ev5⟩
    · have ei : i = l := by omega
      subst ei
      exact hr H4 σ4 ((tk2.same s3).same s4) ev4 _ fun v H5 s5 h5 => q v H5 ((((e1.trans s2).trans s3).trans s4).trans s5) h5
theorem s1_while {n : Nat} (env : Nat → DE) (h0 : env 0 = δ) (ht : ∀ i, i < n → PTD C M (env i) c true) (hb : ∀ i, i < n → SD C M (env i) body (.nx (env (i + 1)))) (hf : PTD C M (env n) c false) : S1D C M δ (.While c body [] pos) (.nx (env n)) :=
  S1D.of (fun m => ps_while (passes_never m) (pt_M c m) (pss_M body m)) fun H σ tk ev D q => by
    refine ⟨fun m σ2 H2 => m ≤ n ∧ Same H H2 ∧ EnvD G.K M H2 σ2 (env (n - m)), ⟨n, Nat.le_refl _, Same.refl _, by rw [Nat.sub_self, h0]; exact ev⟩, ?_⟩
    rintro m σ2 H2 ⟨hm, s2, ev2⟩
    have tk2 := tk.same s2
    cases m with
    | zero =>
      rw [Nat.sub_zero] at ev2
      refine hf H2 σ2 tk2 ev2 _ fun H3 s3 => ?_
      rw [if_neg Bool.false_ne_true]
      exact q σ2 H3 (s2.trans s3) (ev2.same s3)
    | succ m =>
      have hlt : n - (m + 1) < n := by omega
      refine ht _ hlt H2 σ2 tk2 ev2 _ fun H3 s3 => ?_
      rw [if_pos rfl]
      refine ⟨fun σ4 H4 => Same H H4 ∧ EnvD G.K M H4 σ4 (env (n - m)), fun σ4 H4 z => ⟨m, Nat.lt_succ_self _, by omega, z.1, z.2⟩, ?_⟩
      refine hb _ hlt H3 σ2 (tk2.same s3) (ev2.same s3) _ fun σ4 H4 s4 ev4 => ⟨(s2.trans s3).trans s4, ?_⟩
      have e1 : n - (m + 1) + 1 = n - m := by omega
      rw [e1] at ev4
      exact ev4

/-! ### comprehensions -/
theorem wipe_get (σ : L2.St) : ∀ (vs : List Nat) (l : Nat), (wipe σ vs)[l]? = if l ∈ vs then (σ[l]?).map (fun _ => none) else σ[l]?
  | [], l => by simp [wipe]
  | v :: vs, l => by
    unfold wipe
    by_cases h : v = l
    · subst h
      by_cases hl : v < σ.length
      · rw [List.getElem?_set_self (by rw [wipe_length]; exact hl), if_pos List.mem_cons_self, List.getElem?_eq_getElem hl]
        rfl
      · rw [List.getElem?_eq_none (by rw [List.length_set, wipe_length]; omega), if_pos List.mem_cons_self, List.getElem?_eq_none (by omega)]
        rfl
    · rw [List.getElem?_set_ne h, wipe_get σ vs l]
      by_cases hm : l ∈ vs
      · rw [if_pos hm, if_pos (List.mem_cons_of_mem _ hm)]
      · rw [if_neg hm, if_neg (fun z => by
          rcases List.mem_cons.mp z with z | z
          · exact h z.symm
          · exact hm z)]
theorem wipe_set {σ : L2.St} {vs : List Nat} {l : Nat} {x : Option V} (h : l ∈ vs) : wipe (σ.set l x) vs = wipe σ vs := by
  refine List.ext_getElem? fun m => ?_
  rw [wipe_get, wipe_get]
  by_cases hm : m ∈ vs
  · rw [if_pos hm, if_pos hm]
    by_cases hl : l = m
    · subst hl
      by_cases hlt : l < σ.length
      · rw [List.getElem?_set_self hlt, List.getElem?_eq_getElem hlt]
        rfl
      · rw [List.getElem?_eq_none (by rw [List.length_set]; omega), List.getElem?_eq_none (by omega)]
    · rw [List.getElem?_set_ne hl]
  · rw [if_neg hm, if_neg hm, List.getElem?_set_ne (fun z => hm (by rw [← z]; exact h))]
theorem wipe_wipe (σ : L2.St) (vs : List Nat) : wipe (wipe σ vs) vs = wipe σ vs := by
  refine List.ext_getElem? fun m => ?_
  rw [wipe_get, wipe_get]
  by_cases hm : m ∈ vs
  · rw [if_pos hm, if_pos hm, Option.map_map]
    rfl
  · rw [if_neg hm, if_neg hm]
def wipeD (δ : DE) : List Nat → DE
  | [] => δ
  | v :: vs => (wipeD δ vs).set v none
theorem EnvD.wipe {K : PySem.W.Frag} {H : Hp} {σ : L2.St} (h : EnvD K M H σ δ) : ∀ vs : List Nat, EnvD K M H (L2.wipe σ vs) (wipeD δ vs)
  | [] => h
  | v :: vs => by
    unfold L2.wipe wipeD
    exact (EnvD.wipe h vs).unset v none
theorem EnvD.addM {K : PySem.W.Frag} {H : Hp} {σ : L2.St} {D : Addr} (hD : H D = none) (h : EnvD K M H σ δ) : EnvD K (addM M D) H σ δ := ⟨h.1, fun l d q => by
  obtain ⟨v, h1, h2⟩ := h.2 l d q
  exact ⟨v, h1, h2.addM hD⟩⟩
/-- a target whose names the block owns -/
def TgW (K : PySem.W.Frag) (M : Addr → Prop) (g : TG) (d : PyData) (δ δ' : DE) (vs : List Nat) : Prop := ∀ H σ v, TrkM M H → EnvD K M H σ δ → Dn K M H v d → ∀ Q : L2.St → Hp → Prop, (∀ σ' H', Same H H' → EnvD K M H' σ' δ' → wipe σ' vs = wipe σ vs → Q σ' H') → g v σ H Q
theorem tw_name {K : PySem.W.Frag} {vs : List Nat} (n : Nat) (hn : n ∈ vs) : TgW K M (gName n) d δ (δ.set n (some d)) vs := fun H σ v tk ev h Q q => q _ H (Same.refl H) (ev.set n h) (wipe_set hn)
theorem tws_names {K : PySem.W.Frag} {os : List Nat} : ∀ (ns : List Nat) (ds : List PyData) (δ : DE), ns.length = ds.length → (∀ n ∈ ns, n ∈ os) → ∀ H σ vs, TrkM M H → EnvD K M H σ δ → DnAll K M H vs ds → ∀ Q : L2.St → Hp → Prop, (∀ σ' H', Same H H' → EnvD K M H' σ' (setAll δ ns ds) → wipe σ' os = wipe σ os → Q σ' H') → gNames ns vs σ H Q
  | [], [], δ, _, _, H, σ, _, tk, ev, .nil, Q, q => ⟨rfl, q σ H (Same.refl H) ev rfl⟩
  | n :: ns, d :: ds, δ, hl, hm, H, σ, v :: vs, tk, ev, .cons h t, Q, q => ⟨v, vs, rfl, tws_names ns ds (δ.set n (some d)) (by simpa using hl) (fun m z => hm m (List.mem_cons_of_mem _ z)) H (σ.set n (some v)) vs tk (ev.set n h) t Q fun σ' H' s' ev' w' => q σ' H' s' ev' (w'.trans (wipe_set (hm n List.mem_cons_self)))⟩
  | [], _ :: _, _, hl, _, _, _, _, _, _, _, _, _ => by simp at hl
  | _ :: _, [], _, hl, _, _, _, _, _, _, _, _, _ => by simp at hl
theorem tw_tup {K : PySem.W.Frag} {ns os : List Nat} {n : Nat} (hl : ns.length = ds.length) (hn : ds.length = n) (hm : ∀ n ∈ ns, n ∈ os) : TgW K M (gTup K n (gNames ns)) (.tuple ds) δ (setAll δ ns ds) os := fun H σ v tk ev h Q q => by
  cases h with
  | tup hT m hd => exact ⟨_, _, rfl, .inl (.inl hT), by rw [hd.length]; exact hn, tws_names ns ds δ hl hm H σ _ tk ev hd Q q⟩
/-- the block's contexts -/
def Ctx.blk (C : Ctx G k N sc) (scope : Scope) : Ctx G k N (relS scope sc) where
  ι := C.ι × Shared × Hp × Addr × List (Str × Addr) × List Addr
  X := fun z => (C.X z.1).blk z.2.1 z.2.2.1 scope (compEnvC scope z.2.2.2.2.1 z.2.2.2.1 (C.X z.1).env) z.2.2.2.2.2
  hP := fun z => C.hP z.1
  hw := fun z => C.hw z.1
  hK := fun z => C.hK z.1
  hmg := fun z => C.hmg z.1
  hbase := fun z => C.hbase z.1
  hN := fun z => C.hN z.1
  nd := C.nd
  hsc := fun z => by
    have e1 : (compEnvC scope z.2.2.2.2.1 z.2.2.2.1 (C.X z.1).env).scope = relS scope (C.X z.1).env.scope := rfl
    show (compEnvC scope z.2.2.2.2.1 z.2.2.2.1 (C.X z.1).env).scope = _
    rw [e1, C.hsc z.1]
  calm := fun z => C.calm z.1
  xe := fun _ => rfl
  room := fun z => C.room z.1
  cellOk := False
  fn := fun h => h.elim
/-- a clause's tests -/
def cM (C : Ctx G k N sc) (ifs : List Expr) : TT := fun σ H Q => ∀ i pins s, Inv (C.X i) pins σ H s →
  wpAny (model (C.X i).prog (C.X i).w) (C.X i).A (forIn ifs true fun c r => if r = true then do let ok ← isTrue c (C.X i).env (eval c (C.X i).env); pure (ForInStep.yield ok) else pure (ForInStep.yield r)) (TP (C.X i) pins σ Q) (C.X i).xe s
theorem pts_M (ifs : List Expr) (i) : PTs (C.X i) ifs (cM C ifs) := ⟨fun pins s _ _ _ I h => h i pins s I⟩
def PTsD (C : Ctx G k N sc) (M : Addr → Prop) (δ : DE) (ifs : List Expr) (v : Bool) : Prop := Tst G.K M (cM C ifs) δ v
theorem ptsd_nil : PTsD C M δ [] true := fun H σ tk ev Q q i pins s I => (pts_nil (X := C.X i)).run pins s σ H Q I (q H (Same.refl H))
theorem ptsd_one {v : Bool} (h : PTD C M δ c v) : PTsD C M δ [c] v := fun H σ tk ev Q q i pins s I => (pts_one (pt_M c i)).run pins s σ H Q I (h H σ tk ev Q q)
/-- what is made so far -/
def made (keep : Nat → Bool) (out : Nat → PyData) : Nat → List PyData
  | 0 => []
  | i + 1 => if keep i = true then made keep out i ++ [out i] else made keep out i
theorem made_length (keep : Nat → Bool) (out : Nat → PyData) : ∀ i, (made keep out i).length ≤ i
  | 0 => Nat.le_refl _
  | i + 1 => by
    have := made_length keep out i
    unfold made
    split
    · rw [List.length_append]
      simp
      omega
    · omega
theorem val_lc {wi : TI} {g : TG} {n : Nat} {items out : Nat → PyData} {keep : Nat → Bool} {own : List (Str × Nat)} {elt : Expr} {ifs : List Expr} {scope : Scope} (env' : Nat → DE) (hn : n < 1000000) (hw : Wlk G.K M wi δ n items)
    (ht : ∀ i, i < n → ∀ M', TgW G.K M' g (items i) (wipeD δ (own.map (·.2))) (env' i) (own.map (·.2))) (hk : ∀ i, i < n → ∀ M', PTsD (C.blk scope) M' (env' i) ifs (keep i))
    (he : ∀ i, i < n → keep i = true → ∀ M', PV (C.blk scope) M' (env' i) elt (out i)) : Val G.K M (tLc wi g (cM (C.blk scope) ifs) (eM (C.blk scope) elt) (own.map (·.2))) δ (.list (made keep out n)) := fun H σ tk ev Q q => hw H σ tk ev _ fun J H1 e1 go yl stp D hD => by
  have tkD : ∀ H2, Same H1 H2 → (∃ o, H2 D = some o) → TrkM (addM M D) H2 := fun H2 s2 hd a z => by
    rcases z with z | z
    · exact ((tk.same e1).same s2) a z
    · rw [z]; exact hd
  have evD : EnvD G.K (addM M D) H1 (L2.wipe σ (own.map (·.2))) (wipeD δ (own.map (·.2))) := ((ev.same e1).addM hD).wipe _
  refine ⟨fun i m H2 => m = n - i ∧ i ≤ n ∧ Same H1 H2 ∧ ∃ acc, H2 D = some (.lst acc) ∧ DnAll G.K (addM M D) H2 acc (made keep out i), ⟨n, by simp, Nat.zero_le _, same_new hD, [], upd_same, .nil⟩, ?_⟩
  rintro i m H2 ⟨rfl, hin, s2, acc, hacc, hd⟩
  by_cases hlt : i < n
  · refine .inr ⟨go i H2 s2 hlt, fun H3 => Same H1 H3 ∧ ∃ acc, H3 D = some (.lst acc) ∧ DnAll G.K (addM M D) H3 acc (made keep out (i + 1)), fun H3 z => ⟨n - (i + 1), by omega, rfl, hlt, z.1, z.2⟩, fun x H3 y => ?_⟩
    have tk2 := tkD H2 s2 ⟨_, hacc⟩
    obtain ⟨s3, hx⟩ := yl (addM M D) (fun _ _ z => z.addM hD) i H2 x H3 s2 tk2 hlt y
    refine ht i hlt (addM M D) H3 _ x (tk2.same s3) ((evD.same s2).same s3) hx _ fun σ4 H4 s4 ev4 w4 => ⟨w4.trans (wipe_wipe _ _), ?_⟩
    have tk4 := (tk2.same s3).same s4
    refine hk i hlt (addM M D) H4 σ4 tk4 ev4 _ fun H5 s5 => ?_
    by_cases hkp : keep i = true
    · rw [if_pos hkp]
      refine he i hlt hkp (addM M D) H5 σ4 (tk4.same s5) (ev4.same s5) _ fun v H6 s6 h6 => ⟨acc, s6 _ _ (s5 _ _ (s4 _ _ (s3 _ _ hacc))), ?_, ?_, ?_⟩
      · rw [hd.length]
        have := made_length keep out i
        rw [sizeLine_eq]
        omega
      · exact fun b o z => by
          rw [upd_ne (ne_of_none z hD)]
          exact s6 b o (s5 b o (s4 b o (s3 b o (s2 b o z))))
      · have ex : ExM (addM M D) H6 (upd H6 D (.lst (acc ++ [v]))) := fun b o hb z => by
          rw [upd_ne (fun z2 => hb (.inr z2))]
          exact z
        refine ⟨_, upd_same, ?_⟩
        unfold made
        rw [if_pos hkp]
        exact ((((hd.same s3).same s4).same s5).same s6).append (.cons h6 .nil) |>.ex ex
    · rw [if_neg hkp]
      refine ⟨((s2.trans s3).trans s4).trans s5, acc, s5 _ _ (s4 _ _ (s3 _ _ hacc)), ?_⟩
      unfold made
      rw [if_neg hkp]
      exact ((hd.same s3).same s4).same s5
  · have ei : i = n := by omega
    subst ei
    refine .inl ⟨stp H2 s2, q _ H2 (e1.trans s2) (.lst (.inl hacc) ((tk.same e1).new hD) (hd.lessM fun a z => .inl z))⟩
abbrev SwOk (e : Expr) (t : Option Expr) (l : Nat) (sc : Scope) (v : Bool) : Prop := ∀ env : Env, env.scope = sc → swapsWith e t l env = pure v
theorem pv_lc {wi : TI} {g : TG} {n : Nat} {items out : Nat → PyData} {keep : Nat → Bool} (own : List (Str × Nat)) {elt iter : Expr} {ifs : List Expr} {scope : Scope} (env' : Nat → DE) (hi : ∀ m, PI (C.X m) tg iter wi) (ok : BlkOk N sc scope own) (hg : ∀ m, PG ((C.blk scope).X m) tg g) (hn : n < 1000000) (hw : Wlk G.K M wi δ n items)
    (ht : ∀ i, i < n → ∀ M', TgW G.K M' g (items i) (wipeD δ (own.map (·.2))) (env' i) (own.map (·.2))) (hk : ∀ i, i < n → ∀ M', PTsD (C.blk scope) M' (env' i) ifs (keep i))
    (he : ∀ i, i < n → keep i = true → ∀ M', PV (C.blk scope) M' (env' i) elt (out i)) (hs : NoFold iter := by intro _ _; rfl) : PV C M δ (.ListComp elt [⟨tg, iter, ifs, 0⟩] scope pos) (.list (made keep out n)) :=
  PV.of (fun m => pe_lc (own := own) (X := C.X m) (C.calm m) (by rw [C.hN m]; exact C.nd) (hi m) (by rw [C.hN m, C.hsc m]; exact ok) (fun s H A cl fp => hg (m, s, H, A, cl, fp)) (fun s H A cl fp => pts_M (C := C.blk scope) ifs (m, s, H, A, cl, fp)) (fun s H A cl fp => pe_M (C := C.blk scope) elt (m, s, H, A, cl, fp)) (hs _)) (val_lc env' hn hw ht hk he)
theorem s1_setLc {wi : TI} {g : TG} {n : Nat} {items out : Nat → PyData} {keep : Nat → Bool} (y : Nat) {x : Str} {py : Pos} (own : List (Str × Nat)) {elt iter : Expr} {ifs : List Expr} {scope : Scope} {p3 : Pos} (env' : Nat → DE) (hx : N[y]? = some x) (hl : sc.names.lookup x = some .local) (hi : ∀ m, PI (C.X m) tg iter wi) (ok : BlkOk N sc scope own) (hg : ∀ m, PG ((C.blk scope).X m) tg g) (hn : n < 1000000) (hw : Wlk G.K M wi δ n items)
    (ht : ∀ i, i < n → ∀ M', TgW G.K M' g (items i) (wipeD δ (own.map (·.2))) (env' i) (own.map (·.2))) (hk : ∀ i, i < n → ∀ M', PTsD (C.blk scope) M' (env' i) ifs (keep i))
    (he : ∀ i, i < n → keep i = true → ∀ M', PV (C.blk scope) M' (env' i) elt (out i)) (hsw : SwOk (.ListComp elt [⟨tg, iter, ifs, 0⟩] scope pos) (some (.Name x py)) p3.line sc true) (hs : NoFold iter := by intro _ _; rfl) :
    S1D C M δ (.Assign [.Name x py] (.ListComp elt [⟨tg, iter, ifs, 0⟩] scope pos) p3) (.nx (δ.set y (some (.list (made keep out n))))) :=
  S1D.of (fun m => ps_setLc (i := y) (own := own) (X := C.X m) (C.calm m) (by rw [C.hN m]; exact C.nd) (by rw [C.hN m]; exact hx) (by rw [C.hsc m]; exact hl) (hsw _ (C.hsc m)) (hi m) (by rw [C.hN m, C.hsc m]; exact ok) (fun s H A cl fp => hg (m, s, H, A, cl, fp)) (fun s H A cl fp => pts_M (C := C.blk scope) ifs (m, s, H, A, cl, fp)) (fun s H A cl fp => pe_M (C := C.blk scope) elt (m, s, H, A, cl, fp)) (hs _))
    fun H σ tk ev D q => val_lc env' hn hw ht hk he H σ tk ev _ fun v H1 e1 h1 => q _ H1 e1 ((ev.same e1).set y h1)
/-- one name for a target -/
theorem pv_lc1 {wi : TI} {m : Nat} {items out : Nat → PyData} {keep : Nat → Bool} (n : Nat) {x : Str} {px : Pos} {elt iter : Expr} {ifs : List Expr} {scope : Scope} (hi : ∀ m, PI (C.X m) (.Name x px) iter wi) (ok : BlkOk N sc scope [(x, n)]) (hx : N[n]? = some x) (hl : (relS scope sc).names.lookup x = some .local) (hn : m < 1000000) (hw : Wlk G.K M wi δ m items)
    (hk : ∀ i, i < m → ∀ M', PTsD (C.blk scope) M' ((wipeD δ [n]).set n (some (items i))) ifs (keep i))
    (he : ∀ i, i < m → keep i = true → ∀ M', PV (C.blk scope) M' ((wipeD δ [n]).set n (some (items i))) elt (out i)) (hs : NoFold iter := by intro _ _; rfl) : PV C M δ (.ListComp elt [⟨.Name x px, iter, ifs, 0⟩] scope pos) (.list (made keep out m)) :=
  pv_lc [(x, n)] (fun i => (wipeD δ [n]).set n (some (items i))) hi ok (pg_nameC n hx (.inl hl) (.inr hl)) hn hw (fun i hi M' => tw_name n (List.mem_singleton.mpr rfl)) hk he hs
theorem s1_setLc1 {wi : TI} {m : Nat} {items out : Nat → PyData} {keep : Nat → Bool} (y n : Nat) {x u : Str} {px py p3 : Pos} {elt iter : Expr} {ifs : List Expr} {scope : Scope} (hy : N[y]? = some u) (hly : sc.names.lookup u = some .local) (hi : ∀ m, PI (C.X m) (.Name x px) iter wi) (ok : BlkOk N sc scope [(x, n)]) (hx : N[n]? = some x) (hl : (relS scope sc).names.lookup x = some .local) (hn : m < 1000000) (hw : Wlk G.K M wi δ m items)
    (hk : ∀ i, i < m → ∀ M', PTsD (C.blk scope) M' ((wipeD δ [n]).set n (some (items i))) ifs (keep i))
    (he : ∀ i, i < m → keep i = true → ∀ M', PV (C.blk scope) M' ((wipeD δ [n]).set n (some (items i))) elt (out i)) (hsw : SwOk (.ListComp elt [⟨.Name x px, iter, ifs, 0⟩] scope pos) (some (.Name u py)) p3.line sc true) (hs : NoFold iter := by intro _ _; rfl) :
    S1D C M δ (.Assign [.Name u py] (.ListComp elt [⟨.Name x px, iter, ifs, 0⟩] scope pos) p3) (.nx (δ.set y (some (.list (made keep out m))))) :=
  s1_setLc y [(x, n)] (fun i => (wipeD δ [n]).set n (some (items i))) hy hly hi ok (pg_nameC n hx (.inl hl) (.inr hl)) hn hw (fun i hi M' => tw_name n (List.mem_singleton.mpr rfl)) hk he hsw hs
end
end TP

/-! M: plain mathematics, no program in sight -/
namespace TP
abbrev Px := Int × Int
/-- the greatest integer that is not above n / d + 1 / 2 -/
def rnd (n d : Int) : Int := (2 * n + d) / (2 * d)
/-- x < 2 ^ m in size -/
def Bd (m : Nat) (x : Int) : Prop := x.natAbs < 2 ^ m
theorem Bd.mono {m n : Nat} {x : Int} (h : Bd m x) (hmn : m ≤ n) : Bd n x := Nat.lt_of_lt_of_le h (Nat.pow_le_pow_right (by decide) hmn)
theorem Bd.mul {m n : Nat} {x y : Int} (h : Bd m x) (h2 : Bd n y) : Bd (m + n) (x * y) := by
  unfold Bd at *
  rw [Int.natAbs_mul, Nat.pow_add]
  exact Nat.mul_lt_mul'' h h2
theorem Bd.add {m : Nat} {x y : Int} (h : Bd m x) (h2 : Bd m y) : Bd (m + 1) (x + y) := by
  unfold Bd at *
  rw [Nat.pow_succ]
  omega
theorem Bd.sub {m : Nat} {x y : Int} (h : Bd m x) (h2 : Bd m y) : Bd (m + 1) (x - y) := by
  unfold Bd at *
  rw [Nat.pow_succ]
  omega
theorem Bd.neg {m : Nat} {x : Int} (h : Bd m x) : Bd m (-x) := by
  unfold Bd at *
  rw [Int.natAbs_neg]
  exact h
theorem Bd.le {m : Nat} {x y : Int} (h : Bd m y) (h2 : x.natAbs ≤ y.natAbs) : Bd m x := Nat.lt_of_le_of_lt h2 h
theorem rnd_bd {m : Nat} {n d : Int} (hd : 0 < d) (h : Bd m n) : Bd (m + 1) (rnd n d) := by
  unfold Bd at *
  unfold rnd
  have hm : 0 < 2 ^ m := Nat.two_pow_pos m
  have e : (2 : Nat) ^ (m + 1) = 2 ^ m * 2 := Nat.pow_succ ..
  rw [e]
  generalize 2 ^ m = B at *
  have hq := Int.mul_ediv_add_emod (2 * n + d) (2 * d)
  have h0 := Int.emod_nonneg (2 * n + d) (show 2 * d ≠ 0 by omega)
  have h1 := Int.emod_lt_of_pos (2 * n + d) (show 0 < 2 * d by omega)
  generalize (2 * n + d) / (2 * d) = q at *
  generalize (2 * n + d) % (2 * d) = r at *
  have hn1 : n < B := by omega
  have hn2 : -(B : Int) < n := by omega
  -- 2 d q = 2 n + d - r
  have hq2 : 2 * d * q = 2 * n + d - r := by omega
  have up : q < 2 * (B : Int) := by
    refine Int.lt_of_not_ge fun hge => ?_
    have : 2 * d * (2 * (B : Int)) ≤ 2 * d * q := Int.mul_le_mul_of_nonneg_left hge (by omega)
    have e1 : 2 * d * (2 * (B : Int)) = 4 * (d * B) := by grind
    have e2 : (B : Int) ≤ d * B := by
      have := Int.mul_le_mul_of_nonneg_right (show (1 : Int) ≤ d by omega) (show (0 : Int) ≤ B by omega)
      omega
    have e3 : d ≤ d * B := by
      have := Int.mul_le_mul_of_nonneg_left (show (1 : Int) ≤ (B : Int) by omega) (show (0 : Int) ≤ d by omega)
      omega
    omega
  have lo : -(2 * (B : Int)) < q := by
    refine Int.lt_of_not_ge fun hge => ?_
    have : 2 * d * q ≤ 2 * d * (-(2 * (B : Int))) := Int.mul_le_mul_of_nonneg_left hge (by omega)
    have e1 : 2 * d * (-(2 * (B : Int))) = -(4 * (d * B)) := by grind
    have e2 : (B : Int) ≤ d * B := by
      have := Int.mul_le_mul_of_nonneg_right (show (1 : Int) ≤ d by omega) (show (0 : Int) ≤ B by omega)
      omega
    have e3 : d ≤ d * B := by
      have := Int.mul_le_mul_of_nonneg_left (show (1 : Int) ≤ (B : Int) by omega) (show (0 : Int) ≤ d by omega)
      omega
    omega
  omega

/-! ### steps -/
/-- a step: true for x; n; d -/
abbrev Stp := Bool × Int × Int
def stepM (s : Stp) (z : Px) : Px := if s.1 = true then (z.1 + rnd (s.2.1 * z.2) s.2.2, z.2) else (z.1, z.2 + rnd (s.2.1 * z.1) s.2.2)
def stepB (s : Stp) (z : Px) : Px := if s.1 = true then (z.1 - rnd (s.2.1 * z.2) s.2.2, z.2) else (z.1, z.2 - rnd (s.2.1 * z.1) s.2.2)
def afterM (ss : List Stp) (z : Px) : Px := ss.foldl (fun z s => stepM s z) z
def beforeM (ss : List Stp) (z : Px) : Px := ss.reverse.foldl (fun z s => stepB s z) z
structure StpOk (s : Stp) : Prop where
  n : Bd 200 s.2.1
  d0 : 0 < s.2.2
  d : Bd 200 s.2.2
def PxB (m : Nat) (z : Px) : Prop := Bd m z.1 ∧ Bd m z.2
theorem PxB.mono {m n : Nat} {z : Px} (h : PxB m z) (hmn : m ≤ n) : PxB n z := ⟨h.1.mono hmn, h.2.mono hmn⟩
theorem stepM_bd {s : Stp} {z : Px} {m : Nat} (hs : StpOk s) (hz : PxB m z) : PxB (m + 202) (stepM s z) := by
  have k : ∀ x y, Bd m x → Bd m y → Bd (m + 202) (x + rnd (s.2.1 * y) s.2.2) := fun x y hx hy =>
    (hx.mono (by omega : m ≤ m + 201)).add ((rnd_bd hs.d0 (hs.n.mul hy)).mono (by omega))
  unfold stepM
  split
  · exact ⟨k _ _ hz.1 hz.2, hz.2.mono (by omega)⟩
  · exact ⟨hz.1.mono (by omega), k _ _ hz.2 hz.1⟩
theorem stepB_bd {s : Stp} {z : Px} {m : Nat} (hs : StpOk s) (hz : PxB m z) : PxB (m + 202) (stepB s z) := by
  have k : ∀ x y, Bd m x → Bd m y → Bd (m + 202) (x - rnd (s.2.1 * y) s.2.2) := fun x y hx hy =>
    (hx.mono (by omega : m ≤ m + 201)).sub ((rnd_bd hs.d0 (hs.n.mul hy)).mono (by omega))
  unfold stepB
  split
  · exact ⟨k _ _ hz.1 hz.2, hz.2.mono (by omega)⟩
  · exact ⟨hz.1.mono (by omega), k _ _ hz.2 hz.1⟩
theorem foldl_bd {f : Stp → Px → Px} (hf : ∀ s z m, StpOk s → PxB m z → PxB (m + 202) (f s z)) : ∀ (ss : List Stp) (z : Px) (m : Nat), (∀ s ∈ ss, StpOk s) → PxB m z → PxB (m + 202 * ss.length) (ss.foldl (fun z s => f s z) z)
  | [], z, m, _, hz => hz
  | s :: ss, z, m, hs, hz => by
    have := foldl_bd hf ss (f s z) (m + 202) (fun t ht => hs t (List.mem_cons_of_mem _ ht)) (hf s z m (hs s List.mem_cons_self) hz)
    rw [List.length_cons]
    refine this.mono ?_
    omega
theorem afterM_bd {ss : List Stp} {z : Px} {m : Nat} (hs : ∀ s ∈ ss, StpOk s) (hz : PxB m z) : PxB (m + 202 * ss.length) (afterM ss z) := foldl_bd (fun s z m a b => stepM_bd a b) ss z m hs hz

/-! ### quarter turns -/
def rot (z : Px) : Px := (-z.2, z.1)
def rotN : Nat → Px → Px
  | 0, z => z
  | n + 1, z => rot (rotN n z)
/-- by k quarter turns -/
def quart (z : Px) (k : Int) : Px := rotN (k % 4).toNat z
theorem rot_inj {z w : Px} (h : rot z = rot w) : z = w := by
  unfold rot at h
  have h1 := congrArg Prod.fst h
  have h2 := congrArg Prod.snd h
  simp only at h1 h2
  exact Prod.ext h2 (by omega)
theorem rotN_inj : ∀ (n : Nat) {z w : Px}, rotN n z = rotN n w → z = w
  | 0, _, _, h => h
  | n + 1, _, _, h => rotN_inj n (rot_inj h)
theorem quart_inj {z w : Px} {k : Int} (h : quart z k = quart w k) : z = w := rotN_inj _ h
theorem rotN_bd {m : Nat} {z : Px} (h : PxB m z) : ∀ n, PxB m (rotN n z)
  | 0 => h
  | n + 1 => ⟨(rotN_bd h n).2.neg, (rotN_bd h n).1⟩
theorem quart_bd {m : Nat} {z : Px} {k : Int} (h : PxB m z) : PxB m (quart z k) := rotN_bd h _
theorem quart_mod (z : Px) (k : Int) : quart z (k % 4) = quart z k := by
  unfold quart
  rw [Int.emod_emod_of_dvd _ (Int.dvd_refl 4)]
theorem quart_back (z : Px) (k : Int) : quart z (-k) = quart z (4 - k) := by
  unfold quart
  have : (-k) % 4 = (4 - k) % 4 := by omega
  rw [this]

/-! ### turns -/
abbrev Tn := Int × Int × Int
structure TnOk (t : Tn) : Prop where
  hq : (t.2.1.natAbs : Int) < t.1
  hp : t.1 ≤ 1000000000000000
  k0 : 0 ≤ t.2.2
  k3 : t.2.2 ≤ 3
  odd : (t.1 + t.2.1) % 2 = 1
  cop : Int.gcd t.1 t.2.1 = 1
def lA (t : Tn) : Int := t.1 * t.1 - t.2.1 * t.2.1
def lB (t : Tn) : Int := 2 * t.1 * t.2.1
def lC (t : Tn) : Int := t.1 * t.1 + t.2.1 * t.2.1
def backT (t : Tn) : Tn := (t.1, -t.2.1, -t.2.2 % 4)
theorem TnOk.pos {t : Tn} (h : TnOk t) : 0 < t.1 := by
  have := h.hq
  omega
theorem bd50 : (1000000000000000 : Nat) < 2 ^ 50 := by decide
theorem TnOk.bp {t : Tn} (h : TnOk t) : Bd 50 t.1 := by
  have h1 := h.pos
  have h2 := h.hp
  have := bd50
  unfold Bd
  omega
theorem TnOk.bq {t : Tn} (h : TnOk t) : Bd 50 t.2.1 := by
  have h1 := h.hq
  have h2 := h.hp
  have := bd50
  unfold Bd
  omega
theorem TnOk.bA {t : Tn} (h : TnOk t) : Bd 101 (lA t) := (h.bp.mul h.bp).sub (h.bq.mul h.bq)
theorem TnOk.bC {t : Tn} (h : TnOk t) : Bd 101 (lC t) := (h.bp.mul h.bp).add (h.bq.mul h.bq)
theorem bd2 : Bd 2 2 := by unfold Bd; decide
theorem TnOk.bB {t : Tn} (h : TnOk t) : Bd 102 (lB t) := (bd2.mul h.bp).mul h.bq
theorem TnOk.c0 {t : Tn} (h : TnOk t) : 0 < lC t := by
  unfold lC
  have h1 := Int.mul_pos h.pos h.pos
  have h2 : 0 ≤ t.2.1 * t.2.1 := by
    rw [← Int.natAbs_mul_self]
    exact Int.natCast_nonneg _
  omega
theorem TnOk.back {t : Tn} (h : TnOk t) : TnOk (backT t) := by
  refine ⟨?_, h.hp, ?_, ?_, ?_, ?_⟩
  · show ((-t.2.1).natAbs : Int) < t.1
    rw [Int.natAbs_neg]
    exact h.hq
  · exact Int.emod_nonneg _ (by decide)
  · have := Int.emod_lt_of_pos (-t.2.2) (show (0 : Int) < 4 by decide)
    show -t.2.2 % 4 ≤ 3
    omega
  · have := h.odd
    show (t.1 + -t.2.1) % 2 = 1
    omega
  · show Int.gcd t.1 (-t.2.1) = 1
    rw [Int.gcd_neg]
    exact h.cop
/-- the chain of a turn: true for xyx -/
def chainM (t : Tn) (o : Bool) : List Stp := if o = true then [(true, -t.2.1, t.1), (false, lB t, lC t), (true, -t.2.1, t.1)] else [(false, t.2.1, t.1), (true, -lB t, lC t), (false, t.2.1, t.1)]
theorem chainM_ok {t : Tn} (h : TnOk t) (o : Bool) : ∀ s ∈ chainM t o, StpOk s := by
  have e1 : StpOk (true, -t.2.1, t.1) := ⟨h.bq.neg.mono (by decide), h.pos, h.bp.mono (by decide)⟩
  have e2 : StpOk (false, lB t, lC t) := ⟨h.bB.mono (by decide), h.c0, h.bC.mono (by decide)⟩
  have e3 : StpOk (false, t.2.1, t.1) := ⟨h.bq.mono (by decide), h.pos, h.bp.mono (by decide)⟩
  have e4 : StpOk (true, -lB t, lC t) := ⟨h.bB.neg.mono (by decide), h.c0, h.bC.mono (by decide)⟩
  intro s hs
  unfold chainM at hs
  split at hs
  · simp only [List.mem_cons, List.not_mem_nil, or_false] at hs
    rcases hs with rfl | rfl | rfl
    · exact e1
    · exact e2
    · exact e1
  · simp only [List.mem_cons, List.not_mem_nil, or_false] at hs
    rcases hs with rfl | rfl | rfl
    · exact e3
    · exact e4
    · exact e3
theorem chainM_len (t : Tn) (o : Bool) : (chainM t o).length = 3 := by
  unfold chainM
  split <;> rfl

/-! ### the greatest common divisor, by Euclid -/
def eStep (z : Int × Int) : Int × Int := (z.2, z.1 % z.2)
def eSeq (z : Int × Int) : Nat → Int × Int
  | 0 => z
  | n + 1 => eStep (eSeq z n)
theorem eSeq_succ (z : Int × Int) : ∀ n, eSeq z (n + 1) = eSeq (eStep z) n
  | 0 => rfl
  | n + 1 => by
    show eStep (eSeq z (n + 1)) = eStep (eSeq (eStep z) n)
    rw [eSeq_succ z n]
theorem euclid : ∀ (b : Nat) (a : Int), 0 ≤ a → ∃ n, (∀ i, i < n → 0 < (eSeq (a, (b : Int)) i).2) ∧ (eSeq (a, (b : Int)) n).2 = 0 ∧ (eSeq (a, (b : Int)) n).1 = (Int.gcd a b : Int) := by
  intro b
  induction b using Nat.strongRecOn with
  | _ b ih =>
    intro a ha
    by_cases hb : b = 0
    · subst hb
      refine ⟨0, fun i hi => absurd hi (Nat.not_lt_zero _), rfl, ?_⟩
      show a = (Int.gcd a 0 : Int)
      rw [Int.gcd_zero_right]
      omega
    · have hb0 : (0 : Int) < b := by omega
      have h0 := Int.emod_nonneg a (show (b : Int) ≠ 0 by omega)
      have h1 := Int.emod_lt_of_pos a hb0
      have e : ((a % (b : Int)).toNat : Int) = a % b := Int.toNat_of_nonneg h0
      obtain ⟨n, p1, p2, p3⟩ := ih (a % (b : Int)).toNat (by omega) b (by omega)
      rw [e] at p1 p2 p3
      refine ⟨n + 1, fun i hi => ?_, ?_, ?_⟩
      · cases i with
        | zero => exact hb0
        | succ i =>
          rw [eSeq_succ]
          exact p1 i (by omega)
      · rw [eSeq_succ]
        exact p2
      · rw [eSeq_succ]
        refine p3.trans ?_
        congr 1
        show Int.gcd (b : Int) (a % b) = Int.gcd a b
        have e2 : Int.gcd (b : Int) (a % b + b * (a / b)) = Int.gcd b (a % b) := Int.gcd_add_mul_left_right ..
        rw [Int.emod_add_mul_ediv] at e2
        rw [← e2, Int.gcd_comm]

/-! ### matrices -/
structure Mt where
  a : Int
  b : Int
  c : Int
  d : Int
  e : Int
  deriving DecidableEq
def Mt.L (m : Mt) : List Int := [m.a, m.b, m.c, m.d, m.e]
def gcdL (ns : List Int) : Int := ns.foldl (fun g n => (Int.gcd g n : Int)) 0
def Mt.g (m : Mt) : Int := gcdL m.L
def Mt.sm (k : Int) (m : Mt) : Mt := ⟨k * m.a, k * m.b, k * m.c, k * m.d, k * m.e⟩
def Mt.low (m : Mt) : Mt := ⟨m.a / m.g, m.b / m.g, m.c / m.g, m.d / m.g, m.e / m.g⟩
def Mt.st (s : Stp) (m : Mt) : Mt := if s.1 = true then ⟨s.2.2 * m.a + s.2.1 * m.c, s.2.2 * m.b + s.2.1 * m.d, s.2.2 * m.c, s.2.2 * m.d, s.2.2 * m.e⟩ else ⟨s.2.2 * m.a, s.2.2 * m.b, s.2.2 * m.c + s.2.1 * m.a, s.2.2 * m.d + s.2.1 * m.b, s.2.2 * m.e⟩
def Mt.one : Mt := ⟨1, 0, 0, 1, 1⟩
def matM (ss : List Stp) : Mt := ss.foldl (fun m s => (m.st s).low) Mt.one
def prodM (ss : List Stp) : Mt := ss.foldl (fun m s => m.st s) Mt.one
theorem gcdL_eq (m : Mt) : m.g = (Int.gcd (Int.gcd (Int.gcd (Int.gcd (Int.gcd 0 m.a) m.b) m.c) m.d) m.e : Int) := rfl
theorem Mt.g_nn (m : Mt) : 0 ≤ m.g := Int.natCast_nonneg _
theorem Mt.g_dvd (m : Mt) : m.g ∣ m.a ∧ m.g ∣ m.b ∧ m.g ∣ m.c ∧ m.g ∣ m.d ∧ m.g ∣ m.e := by
  rw [gcdL_eq]
  have h5 := Int.gcd_dvd_right (Int.gcd (Int.gcd (Int.gcd (Int.gcd 0 m.a) m.b) m.c) m.d : Int) m.e
  have g4 := Int.gcd_dvd_left (Int.gcd (Int.gcd (Int.gcd (Int.gcd 0 m.a) m.b) m.c) m.d : Int) m.e
  have h4 := Int.gcd_dvd_right (Int.gcd (Int.gcd (Int.gcd 0 m.a) m.b) m.c : Int) m.d
  have g3 := Int.gcd_dvd_left (Int.gcd (Int.gcd (Int.gcd 0 m.a) m.b) m.c : Int) m.d
  have h3 := Int.gcd_dvd_right (Int.gcd (Int.gcd 0 m.a) m.b : Int) m.c
  have g2 := Int.gcd_dvd_left (Int.gcd (Int.gcd 0 m.a) m.b : Int) m.c
  have h2 := Int.gcd_dvd_right (Int.gcd 0 m.a : Int) m.b
  have g1 := Int.gcd_dvd_left (Int.gcd 0 m.a : Int) m.b
  have h1 := Int.gcd_dvd_right 0 m.a
  exact ⟨Int.dvd_trans g4 (Int.dvd_trans g3 (Int.dvd_trans g2 (Int.dvd_trans g1 h1))), Int.dvd_trans g4 (Int.dvd_trans g3 (Int.dvd_trans g2 h2)), Int.dvd_trans g4 (Int.dvd_trans g3 h3), Int.dvd_trans g4 h4, h5⟩
theorem gcd_sm {k : Int} (hk : 0 ≤ k) (x y : Int) : (Int.gcd (k * x) (k * y) : Int) = k * (Int.gcd x y : Int) := by
  rw [Int.gcd_mul_left, Int.natCast_mul, Int.natAbs_of_nonneg hk]
theorem Mt.g_sm {k : Int} (hk : 0 ≤ k) (m : Mt) : (m.sm k).g = k * m.g := by
  rw [gcdL_eq, gcdL_eq]
  show (Int.gcd (Int.gcd (Int.gcd (Int.gcd (Int.gcd 0 (k * m.a)) (k * m.b)) (k * m.c)) (k * m.d)) (k * m.e) : Int) = _
  have e0 : (Int.gcd 0 (k * m.a) : Int) = k * (Int.gcd 0 m.a : Int) := by
    have := gcd_sm hk 0 m.a
    rw [Int.mul_zero] at this
    exact this
  rw [e0, gcd_sm hk, gcd_sm hk, gcd_sm hk, gcd_sm hk]
theorem Mt.g_pos {m : Mt} (h : 0 < m.e) : 0 < m.g := by
  have h1 := m.g_nn
  have h2 := m.g_dvd.2.2.2.2
  rcases Int.lt_or_eq_of_le h1 with h3 | h3
  · exact h3
  · rw [← h3] at h2
    have := Int.zero_dvd.mp h2
    omega
theorem Mt.low_sm {m : Mt} : m.low.sm m.g = m := by
  obtain ⟨h1, h2, h3, h4, h5⟩ := m.g_dvd
  unfold Mt.sm Mt.low
  simp only
  rw [Int.mul_ediv_cancel' h1, Int.mul_ediv_cancel' h2, Int.mul_ediv_cancel' h3, Int.mul_ediv_cancel' h4, Int.mul_ediv_cancel' h5]
theorem Mt.low_g {m : Mt} (h : 0 < m.e) : m.low.g = 1 := by
  have hp := Mt.g_pos h
  have e := Mt.g_sm (Int.le_of_lt hp) m.low
  rw [Mt.low_sm] at e
  have : m.g * 1 = m.g * m.low.g := by rw [Int.mul_one]; exact e
  exact (Int.eq_of_mul_eq_mul_left (Int.ne_of_gt hp) this).symm
theorem Mt.low_e {m : Mt} (h : 0 < m.e) : 0 < m.low.e := by
  have hp := Mt.g_pos h
  have e : m.g * m.low.e = m.e := congrArg Mt.e (Mt.low_sm (m := m))
  refine Int.lt_of_not_ge fun hn => ?_
  have := Int.mul_le_mul_of_nonneg_left hn (Int.le_of_lt hp)
  rw [Int.mul_zero, e] at this
  omega
theorem Mt.st_sm (k : Int) (s : Stp) (m : Mt) : (m.sm k).st s = (m.st s).sm k := by
  unfold Mt.st Mt.sm
  split <;> (simp only [Mt.mk.injEq]; refine ⟨?_, ?_, ?_, ?_, ?_⟩ <;> grind)
theorem Mt.sm_sm (k l : Int) (m : Mt) : (m.sm k).sm l = m.sm (l * k) := by
  unfold Mt.sm
  simp only [Mt.mk.injEq]
  refine ⟨?_, ?_, ?_, ?_, ?_⟩ <;> grind
/-- two lowest ones with a common multiple are one -/
theorem Mt.uniq {F m : Mt} {g h : Int} (hg : 0 < g) (hh : 0 < h) (hF : F.g = 1) (hm : m.g = 1) (e : F.sm g = m.sm h) : F = m := by
  have e1 := congrArg Mt.g e
  rw [Mt.g_sm (Int.le_of_lt hg), Mt.g_sm (Int.le_of_lt hh), hF, hm, Int.mul_one, Int.mul_one] at e1
  subst e1
  unfold Mt.sm at e
  simp only [Mt.mk.injEq] at e
  obtain ⟨h1, h2, h3, h4, h5⟩ := e
  have c := fun x y (z : g * x = g * y) => Int.eq_of_mul_eq_mul_left (Int.ne_of_gt hg) z
  cases F
  cases m
  simp only [Mt.mk.injEq]
  exact ⟨c _ _ h1, c _ _ h2, c _ _ h3, c _ _ h4, c _ _ h5⟩
theorem Mt.st_e {s : Stp} {m : Mt} : (m.st s).e = s.2.2 * m.e := by
  unfold Mt.st
  split <;> rfl
theorem matM_inv : ∀ (ss : List Stp) (F U : Mt), (∀ s ∈ ss, 0 < s.2.2) → 0 < F.e → F.g = 1 → (∃ g, 0 < g ∧ F.sm g = U) →
    0 < (ss.foldl (fun m s => (m.st s).low) F).e ∧ (ss.foldl (fun m s => (m.st s).low) F).g = 1 ∧ ∃ g, 0 < g ∧ (ss.foldl (fun m s => (m.st s).low) F).sm g = ss.foldl (fun m s => m.st s) U
  | [], F, U, _, h1, h2, h3 => ⟨h1, h2, h3⟩
  | s :: ss, F, U, hs, h1, h2, ⟨g, hg, e⟩ => by
    have hd := hs s List.mem_cons_self
    have he : 0 < (F.st s).e := by
      rw [Mt.st_e]
      exact Int.mul_pos hd h1
    refine matM_inv ss (F.st s).low (U.st s) (fun t ht => hs t (List.mem_cons_of_mem _ ht)) (Mt.low_e he) (Mt.low_g he) ⟨g * (F.st s).g, Int.mul_pos hg (Mt.g_pos he), ?_⟩
    rw [← Mt.sm_sm, Mt.low_sm, ← e, Mt.st_sm]
/-- the matrix of a chain whose product is a multiple of a lowest one -/
theorem matM_eq {ss : List Stp} {m : Mt} {h : Int} (hs : ∀ s ∈ ss, 0 < s.2.2) (hh : 0 < h) (hm : m.g = 1) (e : prodM ss = m.sm h) : matM ss = m := by
  obtain ⟨_, h2, g, hg, e2⟩ := matM_inv ss Mt.one Mt.one hs (by decide) (by decide) ⟨1, by decide, by decide⟩
  exact Mt.uniq hg hh h2 hm (e2.trans e)
def MtB (k : Nat) (m : Mt) : Prop := Bd k m.a ∧ Bd k m.b ∧ Bd k m.c ∧ Bd k m.d ∧ Bd k m.e
theorem MtB.mono {k l : Nat} {m : Mt} (h : MtB k m) (hkl : k ≤ l) : MtB l m := ⟨h.1.mono hkl, h.2.1.mono hkl, h.2.2.1.mono hkl, h.2.2.2.1.mono hkl, h.2.2.2.2.mono hkl⟩
theorem MtB.st {k : Nat} {s : Stp} {m : Mt} (hs : StpOk s) (h : MtB k m) : MtB (k + 201) (m.st s) := by
  obtain ⟨h1, h2, h3, h4, h5⟩ := h
  have u : ∀ {x}, Bd k x → Bd (k + 201) (s.2.2 * x) := fun h => (hs.d.mul h).mono (by omega)
  have v : ∀ {x y}, Bd k x → Bd k y → Bd (k + 201) (s.2.2 * x + s.2.1 * y) := fun h h' => ((hs.d.mul h).add (hs.n.mul h')).mono (by omega)
  unfold Mt.st
  split
  · exact ⟨v h1 h3, v h2 h4, u h3, u h4, u h5⟩
  · exact ⟨u h1, u h2, v h3 h1, v h4 h2, u h5⟩
theorem abs_div {x g : Int} (hg : 0 < g) (h : g ∣ x) : (x / g).natAbs ≤ x.natAbs := by
  obtain ⟨y, rfl⟩ := h
  rw [Int.mul_ediv_cancel_left _ (Int.ne_of_gt hg), Int.natAbs_mul]
  have : 1 ≤ g.natAbs := by omega
  have := Nat.mul_le_mul_right y.natAbs this
  omega
theorem MtB.low {k : Nat} {m : Mt} (he : 0 < m.e) (h : MtB k m) : MtB k m.low := by
  have hp := Mt.g_pos he
  obtain ⟨h1, h2, h3, h4, h5⟩ := h
  obtain ⟨d1, d2, d3, d4, d5⟩ := m.g_dvd
  exact ⟨h1.le (abs_div hp d1), h2.le (abs_div hp d2), h3.le (abs_div hp d3), h4.le (abs_div hp d4), h5.le (abs_div hp d5)⟩
theorem dvd_bd {k : Nat} {x g : Int} (hx : 0 < x) (hg : 0 < g) (h : g ∣ x) (hb : Bd k x) : Bd k g := hb.le (by
  have := Int.le_of_dvd hx h
  omega)

/-! ### the matrices of the law -/
def lineM (t : Tn) : Mt := ⟨lA t, -lB t, lB t, lA t, lC t⟩
theorem cop_nat {x y : Int} (h : Int.gcd x y = 1) : Nat.Coprime x.natAbs y.natAbs := h
/-- coprime numbers of odd square sum: nothing divides both x x - y y and x x + y y -/
theorem prim {x y : Int} (h : Int.gcd x y = 1) (hodd : (x * x + y * y) % 2 = 1) {g : Nat} (h1 : (g : Int) ∣ x * x - y * y) (h2 : (g : Int) ∣ x * x + y * y) : g = 1 := by
  have a1 : (g : Int) ∣ 2 * (x * x) := by
    have := Int.dvd_add h1 h2
    have e : x * x - y * y + (x * x + y * y) = 2 * (x * x) := by omega
    rw [e] at this
    exact this
  have a2 : (g : Int) ∣ 2 * (y * y) := by
    have := Int.dvd_sub h2 h1
    have e : x * x + y * y - (x * x - y * y) = 2 * (y * y) := by omega
    rw [e] at this
    exact this
  have g2 : Nat.Coprime g 2 := by
    rw [Nat.coprime_comm]
    rcases Nat.mod_two_eq_zero_or_one g with z | z
    · have d2 : (2 : Int) ∣ g := by
        refine Int.dvd_of_emod_eq_zero ?_
        omega
      have := Int.emod_eq_zero_of_dvd (Int.dvd_trans d2 h2)
      omega
    · unfold Nat.Coprime
      rw [Nat.gcd_rec, z]
      decide
  have b1 : g ∣ x.natAbs * x.natAbs := by
    have := Int.natAbs_dvd_natAbs.mpr a1
    rw [Int.natAbs_mul, Int.natAbs_mul, Int.natAbs_natCast] at this
    exact Nat.Coprime.dvd_of_dvd_mul_left g2 this
  have b2 : g ∣ y.natAbs * y.natAbs := by
    have := Int.natAbs_dvd_natAbs.mpr a2
    rw [Int.natAbs_mul, Int.natAbs_mul, Int.natAbs_natCast] at this
    exact Nat.Coprime.dvd_of_dvd_mul_left g2 this
  have c : Nat.Coprime (x.natAbs * x.natAbs) (y.natAbs * y.natAbs) := by
    have := Nat.Coprime.pow 2 2 (cop_nat h)
    rwa [Nat.pow_two, Nat.pow_two] at this
  have := Nat.dvd_gcd b1 b2
  rw [c] at this
  exact Nat.dvd_one.mp this
theorem odd_sq {t : Tn} (h : TnOk t) : (t.1 * t.1 + t.2.1 * t.2.1) % 2 = 1 := by
  have := h.odd
  have k : ∀ x : Int, (x * x) % 2 = x % 2 := fun x => by
    rcases Int.emod_two_eq x with z | z
    · rw [Int.mul_emod, z]
      decide
    · rw [Int.mul_emod, z]
      decide
  rw [Int.add_emod, k, k, ← Int.add_emod]
  exact this
theorem odd_lC {t : Tn} (h : TnOk t) : lC t % 2 = 1 := odd_sq h
theorem legs_sq (t : Tn) : lA t * lA t + lB t * lB t = lC t * lC t := by
  unfold lA lB lC
  grind
theorem lineM_g {t : Tn} (h : TnOk t) : (lineM t).g = 1 := by
  have hd := (lineM t).g_dvd
  have e : (((lineM t).g.toNat : Nat) : Int) = (lineM t).g := Int.toNat_of_nonneg (Mt.g_nn _)
  rw [← e] at hd ⊢
  have := prim h.cop (odd_sq h) (g := (lineM t).g.toNat) hd.1 hd.2.2.2.2
  rw [this]
  rfl
/-- the legs have no common divisor -/
theorem legs_cop {t : Tn} (h : TnOk t) : Int.gcd (lA t) (lB t) = 1 := by
  have hA : ∀ {g : Nat}, (g : Int) ∣ lA t → (g : Int) ∣ t.1 → g = 1 := fun {g} h1 h2 => by
    have e : t.2.1 * t.2.1 = t.1 * t.1 - lA t := by unfold lA; omega
    have d : (g : Int) ∣ t.2.1 * t.2.1 := by rw [e]; exact Int.dvd_sub (Int.dvd_mul_of_dvd_left h2) h1
    have c : Nat.Coprime t.1.natAbs (t.2.1.natAbs * t.2.1.natAbs) := (cop_nat h.cop).mul_right (cop_nat h.cop)
    have d1 := Int.natAbs_dvd_natAbs.mpr h2
    have d2 := Int.natAbs_dvd_natAbs.mpr d
    rw [Int.natAbs_natCast] at d1 d2
    rw [Int.natAbs_mul] at d2
    have := Nat.dvd_gcd d1 d2
    rw [c] at this
    exact Nat.dvd_one.mp this
  have hB : ∀ {g : Nat}, (g : Int) ∣ lA t → (g : Int) ∣ t.2.1 → g = 1 := fun {g} h1 h2 => by
    have e : t.1 * t.1 = lA t + t.2.1 * t.2.1 := by unfold lA; omega
    have d : (g : Int) ∣ t.1 * t.1 := by rw [e]; exact Int.dvd_add h1 (Int.dvd_mul_of_dvd_left h2)
    have c : Nat.Coprime t.2.1.natAbs (t.1.natAbs * t.1.natAbs) := ((cop_nat h.cop).symm).mul_right ((cop_nat h.cop).symm)
    have d1 := Int.natAbs_dvd_natAbs.mpr h2
    have d2 := Int.natAbs_dvd_natAbs.mpr d
    rw [Int.natAbs_natCast] at d1 d2
    rw [Int.natAbs_mul] at d2
    have := Nat.dvd_gcd d1 d2
    rw [c] at this
    exact Nat.dvd_one.mp this
  have cp : Nat.Coprime (lA t).natAbs t.1.natAbs := by
    refine hA (g := Nat.gcd (lA t).natAbs t.1.natAbs) ?_ ?_
    · exact Int.ofNat_dvd_left.mpr (Nat.gcd_dvd_left _ _)
    · exact Int.ofNat_dvd_left.mpr (Nat.gcd_dvd_right _ _)
  have cq : Nat.Coprime (lA t).natAbs t.2.1.natAbs := by
    refine hB (g := Nat.gcd (lA t).natAbs t.2.1.natAbs) ?_ ?_
    · exact Int.ofNat_dvd_left.mpr (Nat.gcd_dvd_left _ _)
    · exact Int.ofNat_dvd_left.mpr (Nat.gcd_dvd_right _ _)
  have c2 : Nat.Coprime (lA t).natAbs 2 := by
    have ho := odd_sq h
    have : (lA t) % 2 = 1 := by
      unfold lA
      omega
    rw [Nat.coprime_comm]
    unfold Nat.Coprime
    rw [Nat.gcd_rec]
    have : (lA t).natAbs % 2 = 1 := by omega
    rw [this]
    decide
  have e : (lB t).natAbs = 2 * t.1.natAbs * t.2.1.natAbs := by
    unfold lB
    rw [Int.natAbs_mul, Int.natAbs_mul]
    rfl
  show Nat.gcd (lA t).natAbs (lB t).natAbs = 1
  rw [e]
  exact (c2.mul_right cp).mul_right cq
def twiceM (t : Tn) : Mt := ⟨lA t * lA t - lB t * lB t, -2 * lA t * lB t, 2 * lA t * lB t, lA t * lA t - lB t * lB t, lC t * lC t⟩
theorem twiceM_g {t : Tn} (h : TnOk t) : (twiceM t).g = 1 := by
  have hd := (twiceM t).g_dvd
  have e : (((twiceM t).g.toNat : Nat) : Int) = (twiceM t).g := Int.toNat_of_nonneg (Mt.g_nn _)
  rw [← e] at hd ⊢
  have ho : (lA t * lA t + lB t * lB t) % 2 = 1 := by
    rw [legs_sq, Int.mul_emod, odd_lC h]
    decide
  have h5 := hd.2.2.2.2
  have h5' : (((twiceM t).g.toNat : Nat) : Int) ∣ lA t * lA t + lB t * lB t := by
    rw [legs_sq]
    exact h5
  have := prim (legs_cop h) ho (g := (twiceM t).g.toNat) hd.1 h5'
  rw [this]
  rfl
theorem prod_chain (t : Tn) (o : Bool) : prodM (chainM t o) = (lineM t).sm (t.1 * t.1) := by
  cases o <;> simp only [prodM, chainM, if_true, Bool.false_eq_true, if_false, List.foldl, Mt.st, Mt.sm, Mt.one, lineM, lA, lB, lC, Mt.mk.injEq] <;> refine ⟨?_, ?_, ?_, ?_, ?_⟩ <;> grind
theorem prod_append (ss rs : List Stp) : prodM (ss ++ rs) = rs.foldl (fun m s => m.st s) (prodM ss) := List.foldl_append ..
theorem prod_twice (t : Tn) (o : Bool) : prodM (chainM t o ++ chainM t o) = (twiceM t).sm (t.1 * t.1 * (t.1 * t.1)) := by
  rw [prod_append, prod_chain]
  cases o <;> simp only [chainM, if_true, Bool.false_eq_true, if_false, List.foldl, Mt.st, Mt.sm, lineM, twiceM, lA, lB, lC, Mt.mk.injEq] <;> refine ⟨?_, ?_, ?_, ?_, ?_⟩ <;> grind
theorem prod_back (t : Tn) (o : Bool) : prodM (chainM t o ++ chainM (backT t) o) = Mt.one.sm (t.1 * t.1 * (t.1 * t.1) * (lC t * lC t)) := by
  rw [prod_append, prod_chain]
  cases o <;> simp only [chainM, backT, if_true, Bool.false_eq_true, if_false, List.foldl, Mt.st, Mt.sm, lineM, Mt.one, lA, lB, lC, Mt.mk.injEq] <;> refine ⟨?_, ?_, ?_, ?_, ?_⟩ <;> grind
theorem ok_pos {ss : List Stp} (h : ∀ s ∈ ss, StpOk s) : ∀ s ∈ ss, 0 < s.2.2 := fun s hs => (h s hs).d0
theorem mat_chain {t : Tn} (h : TnOk t) (o : Bool) : matM (chainM t o) = lineM t := matM_eq (ok_pos (chainM_ok h o)) (Int.mul_pos h.pos h.pos) (lineM_g h) (prod_chain t o)
theorem app_ok {ss rs : List Stp} (h : ∀ s ∈ ss, StpOk s) (h2 : ∀ s ∈ rs, StpOk s) : ∀ s ∈ ss ++ rs, StpOk s := fun s hs => (List.mem_append.mp hs).elim (h s) (h2 s)
theorem mat_twice {t : Tn} (h : TnOk t) (o : Bool) : matM (chainM t o ++ chainM t o) = twiceM t :=
  matM_eq (ok_pos (app_ok (chainM_ok h o) (chainM_ok h o))) (Int.mul_pos (Int.mul_pos h.pos h.pos) (Int.mul_pos h.pos h.pos)) (twiceM_g h) (prod_twice t o)
theorem mat_back {t : Tn} (h : TnOk t) (o : Bool) : matM (chainM t o ++ chainM (backT t) o) = Mt.one :=
  matM_eq (ok_pos (app_ok (chainM_ok h o) (chainM_ok h.back o))) (Int.mul_pos (Int.mul_pos (Int.mul_pos h.pos h.pos) (Int.mul_pos h.pos h.pos)) (Int.mul_pos h.c0 h.c0)) (by decide) (prod_back t o)
theorem lineM_back (t : Tn) : lineM (backT t) = ⟨lA t, lB t, -lB t, lA t, lC t⟩ := by
  simp only [lineM, backT, lA, lB, lC, Mt.mk.injEq]
  refine ⟨?_, ?_, ?_, ?_, ?_⟩ <;> grind
/-- a matrix that is one -/
structure MtOk (m : Mt) : Prop where
  e0 : 0 < m.e
  det : m.a * m.d - m.b * m.c = m.e * m.e
  g : m.g = 1
theorem lineM_ok {t : Tn} (h : TnOk t) : MtOk (lineM t) := ⟨h.c0, by
  have := legs_sq t
  show lA t * lA t - -lB t * lB t = lC t * lC t
  rw [← this, Int.neg_mul]
  omega, lineM_g h⟩
theorem low_of {m : Mt} (h : m.g = 1) : m.low = m := by
  unfold Mt.low
  rw [h]
  simp only [Int.ediv_one]
end TP

/-! K5: order of pairs, membership, sorting of pairs -/
namespace TP
open PySem PySem.Spec PyProof.Rows L2
def pxD (z : Px) : PyData := .tuple [.int z.1, .int z.2]
/-! ### order -/
def ltP2 (z w : Px) : Bool := SrtO.lexB z w
theorem ltP2_iff {z w : Px} : ltP2 z w = true ↔ z.1 < w.1 ∨ (z.1 = w.1 ∧ z.2 < w.2) := SrtO.lexB_iff
theorem dataLt_px (z w : Px) : PySem.W.dataLt (pxD z) (pxD w) = ltP2 z w := by
  show PyProof.Rows.lexLt PyProof.Rows.itemOrd [.inl 1, .inl z.1, .inl 1, .inl z.2, .inl 0] [.inl 1, .inl w.1, .inl 1, .inl w.2, .inl 0] = _
  have ne : ∀ {a b : Int}, a ≠ b → (Sum.inl a : Int ⊕ List Nat) ≠ Sum.inl b := fun h e => h (Sum.inl.inj e)
  rw [PyProof.Rows.lex_self (O := PyProof.Rows.itemOrd)]
  unfold ltP2 SrtO.lexB
  by_cases h : z.1 = w.1
  · rw [if_pos h, h, PyProof.Rows.lex_self (O := PyProof.Rows.itemOrd), PyProof.Rows.lex_self (O := PyProof.Rows.itemOrd)]
    by_cases h2 : z.2 = w.2
    · rw [h2, PyProof.Rows.lex_self (O := PyProof.Rows.itemOrd), PyProof.Rows.lex_self (O := PyProof.Rows.itemOrd)]
      rw [decide_eq_false (Int.lt_irrefl _)]
      rfl
    · rw [PyProof.Rows.lex_diff (O := PyProof.Rows.itemOrd) (ne h2)]
      rfl
  · rw [if_neg h, PyProof.Rows.lex_diff (O := PyProof.Rows.itemOrd) (ne h)]
    rfl
section
variable {G : Glb} {k : Nat} {N : List Str} {sc : Scope} {C : Ctx G k N sc} {M : Addr → Prop} {δ δ1 δ2 : DE}
variable {a b c e tg : Expr} {es : List Expr} {pos p p2 : Pos} {i j : Int} {d d1 d2 : PyData} {ds : List PyData} {o : Out} {body : List Stmt}
def rGtD (K : PySem.W.Frag) : R2 := fun x y H Q => ∃ d e, Dp K H x d ∧ Dp K H y e ∧ PySem.W.alike d e = true ∧ d ≠ .none ∧ min d.depth e.depth ≤ 64 ∧ Q (.bl (PySem.W.dataLt e d)) H
def rGeD (K : PySem.W.Frag) : R2 := fun x y H Q => ∃ d e, Dp K H x d ∧ Dp K H y e ∧ PySem.W.alike d e = true ∧ d ≠ .none ∧ min d.depth e.depth ≤ 64 ∧ Q (.bl (!PySem.W.dataLt d e)) H
theorem op_gtD {X : Cx} (hu : X.A.units + 64 < cLine) : OpR X (compareOp .Gt) (rGtD X.K) := by
  intro pins s σ H x y v u Q I rx ry h
  obtain ⟨d, e, hd, he, al, nn, dp, q⟩ := h
  obtain ⟨as, r1⟩ := Dp.reads I d x v hd rx
  obtain ⟨bs, r2⟩ := Dp.reads I e y u he ry
  exact PySem.W.gt_data r1 r2 al nn (by omega) ⟨.bl _, H, I, rfl, q⟩
theorem op_geD {X : Cx} (hu : X.A.units + 64 < cLine) : OpR X (compareOp .GtE) (rGeD X.K) := by
  intro pins s σ H x y v u Q I rx ry h
  obtain ⟨d, e, hd, he, al, nn, dp, q⟩ := h
  obtain ⟨as, r1⟩ := Dp.reads I d x v hd rx
  obtain ⟨bs, r2⟩ := Dp.reads I e y u he ry
  exact PySem.W.ge_data r1 r2 al nn (by omega) ⟨.bl _, H, I, rfl, q⟩
theorem px_alike (z w : Px) : PySem.W.alike (pxD z) (pxD w) = true := rfl
theorem rd_gtP {z w : Px} : RD G.K M (rGtD G.K) (pxD z) (pxD w) (.bool (ltP2 w z)) := fun H v u tk h1 h2 Q q =>
  ⟨pxD z, pxD w, h1.dp rfl, h2.dp rfl, px_alike z w, (fun x => nomatch x), (by show min 1 1 ≤ 64; decide), by rw [dataLt_px]; exact q _ H (Same.refl H) (.bl _)⟩
theorem rd_geP {z w : Px} : RD G.K M (rGeD G.K) (pxD z) (pxD w) (.bool (!ltP2 z w)) := fun H v u tk h1 h2 Q q =>
  ⟨pxD z, pxD w, h1.dp rfl, h2.dp rfl, px_alike z w, (fun x => nomatch x), (by show min 1 1 ≤ 64; decide), by rw [dataLt_px]; exact q _ H (Same.refl H) (.bl _)⟩
theorem ptd_gtP {z w : Px} (ha : PV C M δ a (pxD z)) (hb : PV C M δ b (pxD w)) : PTD C M δ (.Compare a [.Gt] [b] pos) (ltP2 w z) :=
  ptd_cmp (r := rGtD G.K) (fun n => by
    have h := op_gtD (hu_ctx (C := C) n)
    rw [C.hK n] at h
    exact h) (nomark b) rd_gtP ha hb
theorem ptd_geP {z w : Px} (ha : PV C M δ a (pxD z)) (hb : PV C M δ b (pxD w)) : PTD C M δ (.Compare a [.GtE] [b] pos) (!ltP2 z w) :=
  ptd_cmp (r := rGeD G.K) (fun n => by
    have h := op_geD (hu_ctx (C := C) n)
    rw [C.hK n] at h
    exact h) (nomark b) rd_geP ha hb
/-! ### x not in a written tuple of texts -/
theorem dn_strs {K : PySem.W.Frag} {H : Hp} : ∀ {xs : List V} {ss : List Str}, DnAll K M H xs (ss.map PyData.str) → xs = ss.map V.str
  | _, [], .nil => rfl
  | _, s :: ss, .cons (.str _) t => by rw [List.map_cons, dn_strs t]
theorem flat_strs : ∀ ss : List Str, (ss.map V.str).all flatV = true
  | [] => rfl
  | s :: ss => by
    rw [List.map_cons, List.all_cons, flat_strs ss]
    rfl
theorem ptd_notIn {s : Str} {ss : List Str} {v : Bool} (hv : inV (.str s) (ss.map V.str) = v) (ha : PV C M δ a (.str s)) (hb : PV C M δ b (.tuple (ss.map .str))) (hm : behindInMarks .NotIn b = false := by with_unfolding_all rfl) : PTD C M δ (.Compare a [.NotIn] [b] pos) (!v) :=
  ptd_cmp (r := rIn G.K true) (fun n => by
    have h := op_notIn_seq (X := C.X n)
    rw [C.hK n] at h
    exact h) hm (fun H x u tk h1 h2 Q q => by
    cases h1
    cases h2 with
    | tup hT m hd =>
      rw [dn_strs hd] at hT
      refine ⟨_, _, rfl, .inr (.inl (.inl hT)), rfl, flat_strs ss, ?_⟩
      rw [if_pos rfl, hv]
      exact q _ H (Same.refl H) (.bl _)) ha hb

/-! ### sorting -/
def sortP (l : List Px) : List Px := l.mergeSort fun z w => !ltP2 w z
theorem leP_trans (x y z : Px) (h1 : (!ltP2 y x) = true) (h2 : (!ltP2 z y) = true) : (!ltP2 z x) = true := by
  have e : ∀ {z w : Px}, (!ltP2 z w) = true ↔ ¬ (z.1 < w.1 ∨ (z.1 = w.1 ∧ z.2 < w.2)) := fun {z w} => by
    rw [← ltP2_iff]
    cases ltP2 z w <;> simp
  rw [e] at *
  omega
theorem leP_total (x y : Px) : ((!ltP2 y x) || (!ltP2 x y)) = true := by
  have e : ∀ {z w : Px}, (!ltP2 z w) = true ↔ ¬ (z.1 < w.1 ∨ (z.1 = w.1 ∧ z.2 < w.2)) := fun {z w} => by
    rw [← ltP2_iff]
    cases ltP2 z w <;> simp
  rw [Bool.or_eq_true, e, e]
  omega
theorem sortP_perm (l : List Px) : (sortP l).Perm l := List.mergeSort_perm ..
theorem sortP_srt (l : List Px) : (sortP l).Pairwise fun z w => ltP2 w z = false := by
  refine (List.pairwise_mergeSort (le := fun z w => !ltP2 w z) (fun a b c => leP_trans a b c) (fun a b => leP_total a b) l).imp fun {z w} h => ?_
  cases hq : ltP2 w z with
  | false => rfl
  | true => rw [hq] at h; cases h
theorem ltP2_anti {z w : Px} (h1 : ltP2 z w = false) (h2 : ltP2 w z = false) : z = w := by
  have e : ∀ {z w : Px}, ltP2 z w = false → ¬ (z.1 < w.1 ∨ (z.1 = w.1 ∧ z.2 < w.2)) := fun {z w} h => by
    rw [← ltP2_iff, h]
    decide
  have a := e h1
  have b := e h2
  exact Prod.ext (by omega) (by omega)
theorem srt_uniq : ∀ {l m : List Px}, (l.Pairwise fun z w => ltP2 w z = false) → (m.Pairwise fun z w => ltP2 w z = false) → l.Perm m → l = m
  | [], m, _, _, h => (List.Perm.eq_nil h.symm).symm
  | x :: l, [], _, _, h => absurd h.length_eq (by simp)
  | x :: l, y :: m, hl, hm, h => by
    have hl' := List.pairwise_cons.mp hl
    have hm' := List.pairwise_cons.mp hm
    have e : x = y := by
      rcases List.mem_cons.mp (h.mem_iff.mp (List.mem_cons_self (a := x) (l := l))) with e | hx
      · exact e
      · rcases List.mem_cons.mp (h.mem_iff.mpr (List.mem_cons_self (a := y) (l := m))) with e | hy
        · exact e.symm
        · exact ltP2_anti (hm'.1 x hx) (hl'.1 y hy)
    subst e
    rw [srt_uniq hl'.2 hm'.2 h.cons_inv]
/-- the pair that stands at x -/
def kAt (H : Hp) : V → Int × Int
  | .ref t => match H t with
    | some (.tup [.int i, .int j]) => (i, j)
    | _ => (0, 0)
  | _ => (0, 0)
theorem kAt_dn {K : PySem.W.Frag} {H : Hp} {x : V} {z : Px} (h : Dn K M H x (pxD z)) : ∃ t, x = .ref t ∧ H t = some (.tup [.int z.1, .int z.2]) ∧ kAt H x = z ∧ ¬ M t := by
  cases h with
  | tup hT m hd =>
    cases hd with
    | cons h1 h2 =>
      cases h1
      cases h2 with
      | cons h2 h3 =>
        cases h2
        cases h3
        refine ⟨_, rfl, hT, ?_, m⟩
        unfold kAt
        simp only [hT]
theorem kAt_all {K : PySem.W.Frag} {H : Hp} : ∀ {xs : List V} {ps : List Px}, DnAll K M H xs (ps.map pxD) → xs.map (kAt H) = ps ∧ ∀ x ∈ xs, ∃ t, x = V.ref t ∧ H t = some (.tup [.int (kAt H x).1, .int (kAt H x).2]) ∧ ¬ M t
  | _, [], .nil => ⟨rfl, fun x h => absurd h List.not_mem_nil⟩
  | _, p :: ps, .cons h t => by
    obtain ⟨h1, h2⟩ := kAt_all t
    obtain ⟨r, e1, e2, e3, e4⟩ := kAt_dn h
    refine ⟨by rw [List.map_cons, h1, e3], fun x hx => ?_⟩
    rcases List.mem_cons.mp hx with rfl | hx
    · exact ⟨r, e1, by rw [e3]; exact e2, e4⟩
    · exact h2 x hx
theorem dn_kAt {K : PySem.W.Frag} {H : Hp} : ∀ {ys : List V}, (∀ x ∈ ys, ∃ t, x = V.ref t ∧ H t = some (.tup [.int (kAt H x).1, .int (kAt H x).2]) ∧ ¬ M t) → DnAll K M H ys ((ys.map (kAt H)).map pxD)
  | [], _ => .nil
  | y :: ys, h => by
    obtain ⟨t, e1, e2, e3⟩ := h y List.mem_cons_self
    refine .cons ?_ (dn_kAt fun x hx => h x (List.mem_cons_of_mem _ hx))
    rw [e1] at e2 ⊢
    exact .tup e2 e3 (.cons (.int _) (.cons (.int _) .nil))
theorem rcd_sorted {ps : List Px} : RCD G.K M (rSortedPO G.K) [.list (ps.map pxD)] (.list ((sortP ps).map pxD)) := fun H vs tk h Q q => by
  cases h with
  | cons h1 h2 =>
    cases h2
    cases h1 with
    | lst hT m hd =>
      rename_i ad xs
      obtain ⟨e1, e2⟩ := kAt_all hd
      refine ⟨ad, xs, kAt H, rfl, .inl hT, fun x hx => ?_, fun ys r hs hb hr => ?_⟩
      · obtain ⟨t, a1, a2, _⟩ := e2 x hx
        exact ⟨t, a1, a2⟩
      · refine q _ _ (same_new hr) (dn_newL tk ?_ hr)
        have hy := dn_kAt (K := G.K) (M := M) (H := H) (ys := ys) fun x hx => e2 x (hb.perm.mem_iff.mp hx)
        have e3 : ys.map (kAt H) = sortP ps := by
          refine srt_uniq ?_ (sortP_srt ps) ?_
          · exact List.pairwise_map.mpr (hs.imp fun {z w} h => h)
          · have := (hb.perm.map (kAt H)).trans (List.Perm.of_eq e1)
            exact this.trans (sortP_perm ps).symm
        rw [e3] at hy
        exact hy
theorem pv_sortedP {ps : List Px} (ha : PV C M δ e (.list (ps.map pxD))) (hm : G.mg "sorted" = none) (hg : GLx sc "sorted" := by rfl) (hs : NoStar e := by intro _; rfl) : PV C M δ (.Call (.Name "sorted" p) [e] [] pos) (.list ((sortP ps).map pxD)) :=
  pv_callB (r := rSortedPO G.K) (fun n => by
    have h := cr_sortedPO (X := C.X n)
    rw [C.hK n] at h
    exact h) PyProof.Rows.boot_sorted hm hg (pad_one ha hs) rcd_sorted (by decide) (by decide) hs.cons (nostar_nil pos)
end
end TP

/-! KT: the text by places -/
namespace TP
open PySem PySem.Spec PyProof.Rows L2
def top (i : Nat) : Stmt := PySem.Challenge.pw_turnedpixels_k78_whole_shears_as_chains.main.body.getD i (.Pass ⟨0, 0, 0, 0⟩)
abbrev s_is_integer : Stmt := top 12
theorem sc_is_integer : FnScope ["value"] ["value"] (defScope s_is_integer) := ⟨rfl, rfl, rfl, by decide +kernel, rfl, by decide +kernel, by decide +kernel⟩
abbrev s_are_integers : Stmt := top 13
theorem sc_are_integers : FnScope ["value", "many", "one"] ["value", "many"] (defScope s_are_integers) := ⟨rfl, rfl, rfl, by decide +kernel, rfl, by decide +kernel, by decide +kernel⟩
abbrev s_common : Stmt := top 14
theorem sc_common : FnScope ["one", "other"] ["one", "other"] (defScope s_common) := ⟨rfl, rfl, rfl, by decide +kernel, rfl, by decide +kernel, by decide +kernel⟩
abbrev s_is_pixel : Stmt := top 15
theorem sc_is_pixel : FnScope ["value"] ["value"] (defScope s_is_pixel) := ⟨rfl, rfl, rfl, by decide +kernel, rfl, by decide +kernel, by decide +kernel⟩
abbrev s_is_turn : Stmt := top 16
theorem sc_is_turn : FnScope ["value", "p", "q", "quarters"] ["value"] (defScope s_is_turn) := ⟨rfl, rfl, rfl, by decide +kernel, rfl, by decide +kernel, by decide +kernel⟩
abbrev s_need_turn : Stmt := top 17
theorem sc_need_turn : FnScope ["turn"] ["turn"] (defScope s_need_turn) := ⟨rfl, rfl, rfl, by decide +kernel, rfl, by decide +kernel, by decide +kernel⟩
abbrev s_need_pixel : Stmt := top 18
theorem sc_need_pixel : FnScope ["pixel"] ["pixel"] (defScope s_need_pixel) := ⟨rfl, rfl, rfl, by decide +kernel, rfl, by decide +kernel, by decide +kernel⟩
abbrev s_need_number : Stmt := top 19
theorem sc_need_number : FnScope ["number", "most"] ["number", "most"] (defScope s_need_number) := ⟨rfl, rfl, rfl, by decide +kernel, rfl, by decide +kernel, by decide +kernel⟩
abbrev s_need_pixels : Stmt := top 20
theorem sc_need_pixels : FnScope ["pixels", "index", "pixel"] ["pixels"] (defScope s_need_pixels) := ⟨rfl, rfl, rfl, by decide +kernel, rfl, by decide +kernel, by decide +kernel⟩
abbrev s_need_turn_and_pixel : Stmt := top 21
theorem sc_need_turn_and_pixel : FnScope ["turn", "pixel"] ["turn", "pixel"] (defScope s_need_turn_and_pixel) := ⟨rfl, rfl, rfl, by decide +kernel, rfl, by decide +kernel, by decide +kernel⟩
abbrev s_size_of : Stmt := top 22
theorem sc_size_of : FnScope ["turn"] ["turn"] (defScope s_size_of) := ⟨rfl, rfl, rfl, by decide +kernel, rfl, by decide +kernel, by decide +kernel⟩
abbrev s_plain_legs : Stmt := top 23
theorem sc_plain_legs : FnScope ["turn", "p", "q"] ["turn"] (defScope s_plain_legs) := ⟨rfl, rfl, rfl, by decide +kernel, rfl, by decide +kernel, by decide +kernel⟩
abbrev s_quartered : Stmt := top 24
theorem sc_quartered : FnScope ["pixel", "times", "x", "y", "step"] ["pixel", "times"] (defScope s_quartered) := ⟨rfl, rfl, rfl, by decide +kernel, rfl, by decide +kernel, by decide +kernel⟩
abbrev s_nearest : Stmt := top 25
theorem sc_nearest : FnScope ["number", "bottom"] ["number", "bottom"] (defScope s_nearest) := ⟨rfl, rfl, rfl, by decide +kernel, rfl, by decide +kernel, by decide +kernel⟩
abbrev s_plain_place : Stmt := top 26
theorem sc_plain_place : FnScope ["turn", "pixel", "a", "b", "x", "y"] ["turn", "pixel"] (defScope s_plain_place) := ⟨rfl, rfl, rfl, by decide +kernel, rfl, by decide +kernel, by decide +kernel⟩
abbrev s_plain_image : Stmt := top 27
theorem sc_plain_image : FnScope ["turn", "pixel", "c", "part"] ["turn", "pixel"] (defScope s_plain_image) := ⟨rfl, rfl, rfl, by decide +kernel, rfl, by decide +kernel, by decide +kernel⟩
abbrev s_image_in : Stmt := top 28
theorem sc_image_in : FnScope ["turn", "pixel"] ["turn", "pixel"] (defScope s_image_in) := ⟨rfl, rfl, rfl, by decide +kernel, rfl, by decide +kernel, by decide +kernel⟩
abbrev s_back_of : Stmt := top 29
theorem sc_back_of : FnScope ["turn"] ["turn"] (defScope s_back_of) := ⟨rfl, rfl, rfl, by decide +kernel, rfl, by decide +kernel, by decide +kernel⟩
abbrev s_whole_legs : Stmt := top 30
theorem sc_whole_legs : FnScope ["turn", "a", "b", "c"] ["turn"] (defScope s_whole_legs) := ⟨rfl, rfl, rfl, by decide +kernel, rfl, by decide +kernel, by decide +kernel⟩
abbrev s_legs_of : Stmt := top 31
theorem sc_legs_of : FnScope ["turn"] ["turn"] (defScope s_legs_of) := ⟨rfl, rfl, rfl, by decide +kernel, rfl, by decide +kernel, by decide +kernel⟩
abbrev s_image : Stmt := top 32
theorem sc_image : FnScope ["turn", "pixel"] ["turn", "pixel"] (defScope s_image) := ⟨rfl, rfl, rfl, by decide +kernel, rfl, by decide +kernel, by decide +kernel⟩
abbrev s_back : Stmt := top 33
theorem sc_back : FnScope ["turn"] ["turn"] (defScope s_back) := ⟨rfl, rfl, rfl, by decide +kernel, rfl, by decide +kernel, by decide +kernel⟩
abbrev s_is_step : Stmt := top 37
theorem sc_is_step : FnScope ["value"] ["value"] (defScope s_is_step) := ⟨rfl, rfl, rfl, by decide +kernel, rfl, by decide +kernel, by decide +kernel⟩
abbrev s_need_chain : Stmt := top 38
theorem sc_need_chain : FnScope ["chain", "index", "step"] ["chain"] (defScope s_need_chain) := ⟨rfl, rfl, rfl, by decide +kernel, rfl, by decide +kernel, by decide +kernel⟩
abbrev s_is_chain : Stmt := top 39
theorem sc_is_chain : FnScope ["value", "step"] ["value"] (defScope s_is_chain) := ⟨rfl, rfl, rfl, by decide +kernel, rfl, by decide +kernel, by decide +kernel⟩
abbrev s_is_matrix : Stmt := top 40
theorem sc_is_matrix : FnScope ["value"] ["value"] (defScope s_is_matrix) := ⟨rfl, rfl, rfl, by decide +kernel, rfl, by decide +kernel, by decide +kernel⟩
abbrev s_need_matrix : Stmt := top 41
theorem sc_need_matrix : FnScope ["matrix"] ["matrix"] (defScope s_need_matrix) := ⟨rfl, rfl, rfl, by decide +kernel, rfl, by decide +kernel, by decide +kernel⟩
abbrev s_lowest_matrix : Stmt := top 42
theorem sc_lowest_matrix : FnScope ["numbers", "least", "number"] ["numbers"] (defScope s_lowest_matrix) := ⟨rfl, rfl, rfl, by decide +kernel, rfl, by decide +kernel, by decide +kernel⟩
abbrev s_stepped : Stmt := top 43
theorem sc_stepped : FnScope ["step", "pixel", "word", "top", "bottom", "x", "y"] ["step", "pixel"] (defScope s_stepped) := ⟨rfl, rfl, rfl, by decide +kernel, rfl, by decide +kernel, by decide +kernel⟩
abbrev s_stepped_back : Stmt := top 44
theorem sc_stepped_back : FnScope ["step", "pixel", "word", "top", "bottom", "x", "y"] ["step", "pixel"] (defScope s_stepped_back) := ⟨rfl, rfl, rfl, by decide +kernel, rfl, by decide +kernel, by decide +kernel⟩
abbrev s_after_steps : Stmt := top 45
theorem sc_after_steps : FnScope ["chain", "pixel", "step"] ["chain", "pixel"] (defScope s_after_steps) := ⟨rfl, rfl, rfl, by decide +kernel, rfl, by decide +kernel, by decide +kernel⟩
abbrev s_before_steps : Stmt := top 46
theorem sc_before_steps : FnScope ["chain", "pixel", "step"] ["chain", "pixel"] (defScope s_before_steps) := ⟨rfl, rfl, rfl, by decide +kernel, rfl, by decide +kernel, by decide +kernel⟩
abbrev s_matrix_of_steps : Stmt := top 47
theorem sc_matrix_of_steps : FnScope ["chain", "found", "word", "top", "bottom", "a", "b", "c", "d", "e"] ["chain"] (defScope s_matrix_of_steps) := ⟨rfl, rfl, rfl, by decide +kernel, rfl, by decide +kernel, by decide +kernel⟩
abbrev s_after_chain : Stmt := top 48
theorem sc_after_chain : FnScope ["chain", "pixel"] ["chain", "pixel"] (defScope s_after_chain) := ⟨rfl, rfl, rfl, by decide +kernel, rfl, by decide +kernel, by decide +kernel⟩
abbrev s_before_chain : Stmt := top 49
theorem sc_before_chain : FnScope ["chain", "pixel"] ["chain", "pixel"] (defScope s_before_chain) := ⟨rfl, rfl, rfl, by decide +kernel, rfl, by decide +kernel, by decide +kernel⟩
abbrev s_matrix_of : Stmt := top 50
theorem sc_matrix_of : FnScope ["chain"] ["chain"] (defScope s_matrix_of) := ⟨rfl, rfl, rfl, by decide +kernel, rfl, by decide +kernel, by decide +kernel⟩
abbrev s_fewest_shears : Stmt := top 51
theorem sc_fewest_shears : FnScope ["matrix"] ["matrix"] (defScope s_fewest_shears) := ⟨rfl, rfl, rfl, by decide +kernel, rfl, by decide +kernel, by decide +kernel⟩
abbrev s_lowest_step : Stmt := top 52
theorem sc_lowest_step : FnScope ["word", "top", "bottom", "least"] ["word", "top", "bottom"] (defScope s_lowest_step) := ⟨rfl, rfl, rfl, by decide +kernel, rfl, by decide +kernel, by decide +kernel⟩
abbrev s_chain_with : Stmt := top 53
theorem sc_chain_with : FnScope ["matrix", "a", "b", "c", "d", "e", "found", "word", "top", "bottom"] ["matrix"] (defScope s_chain_with) := ⟨rfl, rfl, rfl, by decide +kernel, rfl, by decide +kernel, by decide +kernel⟩
abbrev s_chain_for : Stmt := top 54
theorem sc_chain_for : FnScope ["matrix"] ["matrix"] (defScope s_chain_for) := ⟨rfl, rfl, rfl, by decide +kernel, rfl, by decide +kernel, by decide +kernel⟩
abbrev s_shows_chain : Stmt := top 55
theorem sc_shows_chain : FnScope ["matrix", "value"] ["matrix", "value"] (defScope s_shows_chain) := ⟨rfl, rfl, rfl, by decide +kernel, rfl, by decide +kernel, by decide +kernel⟩
abbrev s_first_parting : Stmt := top 56
theorem sc_first_parting : FnScope ["chain", "second", "reach", "x", "y"] ["chain", "second", "reach"] (defScope s_first_parting) := ⟨rfl, rfl, rfl, by decide +kernel, rfl, by decide +kernel, by decide +kernel⟩
abbrev s_need_order : Stmt := top 58
theorem sc_need_order : FnScope ["order"] ["order"] (defScope s_need_order) := ⟨rfl, rfl, rfl, by decide +kernel, rfl, by decide +kernel, by decide +kernel⟩
abbrev s_need_sheared : Stmt := top 59
theorem sc_need_sheared : FnScope ["turn", "order", "pixel"] ["turn", "order", "pixel"] (defScope s_need_sheared) := ⟨rfl, rfl, rfl, by decide +kernel, rfl, by decide +kernel, by decide +kernel⟩
abbrev s_chain_in : Stmt := top 60
theorem sc_chain_in : FnScope ["turn", "order", "p", "q", "b", "c"] ["turn", "order"] (defScope s_chain_in) := ⟨rfl, rfl, rfl, by decide +kernel, rfl, by decide +kernel, by decide +kernel⟩
abbrev s_shear_chain : Stmt := top 61
theorem sc_shear_chain : FnScope ["turn", "order"] ["turn", "order"] (defScope s_shear_chain) := ⟨rfl, rfl, rfl, by decide +kernel, rfl, by decide +kernel, by decide +kernel⟩
abbrev s_sheared : Stmt := top 62
theorem sc_sheared : FnScope ["turn", "order", "pixel"] ["turn", "order", "pixel"] (defScope s_sheared) := ⟨rfl, rfl, rfl, by decide +kernel, rfl, by decide +kernel, by decide +kernel⟩
abbrev s_unsheared : Stmt := top 63
theorem sc_unsheared : FnScope ["turn", "order", "pixel"] ["turn", "order", "pixel"] (defScope s_unsheared) := ⟨rfl, rfl, rfl, by decide +kernel, rfl, by decide +kernel, by decide +kernel⟩
abbrev s_sheared_picture : Stmt := top 65
theorem sc_sheared_picture : FnScope ["turn", "order", "pixels", "pixel"] ["turn", "order", "pixels"] (defScope s_sheared_picture) := ⟨rfl, rfl, rfl, by decide +kernel, rfl, by decide +kernel, by decide +kernel⟩
abbrev s_law_source : Stmt := top 67
theorem sc_law_source : FnScope ["_law_entry", "_law_k", "_law_great"] ["_law_entry", "_law_k"] (defScope s_law_source) := ⟨rfl, rfl, rfl, by decide +kernel, rfl, by decide +kernel, by decide +kernel⟩
abbrev s_law_draw : Stmt := top 68
theorem sc_law_draw : FnScope ["_law_source_here", "_law_count", "_law_digit", "_law_mixed"] ["_law_source_here", "_law_count"] (defScope s_law_draw) := ⟨rfl, rfl, rfl, by decide +kernel, rfl, by decide +kernel, by decide +kernel⟩
abbrev s_law_common : Stmt := top 69
theorem sc_law_common : FnScope ["_law_one", "_law_two"] ["_law_one", "_law_two"] (defScope s_law_common) := ⟨rfl, rfl, rfl, by decide +kernel, rfl, by decide +kernel, by decide +kernel⟩
abbrev s_law_spin : Stmt := top 70
theorem sc_law_spin : FnScope ["_law_source_here", "_law_most", "_law_p", "_law_sort", "_law_q"] ["_law_source_here", "_law_most"] (defScope s_law_spin) := ⟨rfl, rfl, rfl, by decide +kernel, rfl, by decide +kernel, by decide +kernel⟩
abbrev s_law_dot : Stmt := top 71
theorem sc_law_dot : FnScope ["_law_source_here", "_law_wide", "_law_spots", "_law_k"] ["_law_source_here", "_law_wide"] (defScope s_law_dot) := ⟨rfl, rfl, rfl, by decide +kernel, rfl, by decide +kernel, by decide +kernel⟩
abbrev s_law_dots : Stmt := top 72
theorem sc_law_dots : FnScope ["_law_source_here", "_law_many", "_law_wide", "_law_found", "_law_k", "_law_dot_here", "_law_spot"] ["_law_source_here", "_law_many", "_law_wide"] (defScope s_law_dots) := ⟨rfl, rfl, rfl, by decide +kernel, rfl, by decide +kernel, by decide +kernel⟩
abbrev s_law_swung : Stmt := top 73
theorem sc_law_swung : FnScope ["_law_dot_here", "_law_many"] ["_law_dot_here", "_law_many"] (defScope s_law_swung) := ⟨rfl, rfl, rfl, by decide +kernel, rfl, by decide +kernel, by decide +kernel⟩
abbrev s_law_lines_right : Stmt := top 74
theorem sc_law_lines_right : FnScope ["_law_spin_here", "_law_sort", "_law_a", "_law_b", "_law_c", "_law_links", "_law_lines", "_law_again"] ["_law_spin_here", "_law_sort"] (defScope s_law_lines_right) := ⟨rfl, rfl, rfl, by decide +kernel, rfl, by decide +kernel, by decide +kernel⟩
abbrev s_law_dots_right : Stmt := top 75
theorem sc_law_dots_right : FnScope ["_law_spin_here", "_law_sort", "_law_dots_here", "_law_links", "_law_dot_here"] ["_law_spin_here", "_law_sort", "_law_dots_here"] (defScope s_law_dots_right) := ⟨rfl, rfl, rfl, by decide +kernel, rfl, by decide +kernel, by decide +kernel⟩
abbrev s_law_parted_right : Stmt := top 76
theorem sc_law_parted_right : FnScope ["_law_spin_here", "_law_far", "_law_links", "_law_found", "_law_x", "_law_y", "_law_is_parted", "_law_sort"] ["_law_spin_here", "_law_far"] (defScope s_law_parted_right) := ⟨rfl, rfl, rfl, by decide +kernel, rfl, by decide +kernel, by decide +kernel⟩
abbrev s_law : Stmt := top 77
theorem sc_law : FnScope ["_law_script", "_law_k", "_law_cell", "_law_source_here", "_law_wide", "_law_spin_here", "_law_sort", "_law_dots_here", "_law_some", "_law_far", "_law_dot_here"] ["_law_script"] (defScope s_law) := ⟨rfl, rfl, rfl, by decide +kernel, rfl, by decide +kernel, by decide +kernel⟩
end TP

/-! K4: the first defs -/
namespace TP
open PySem PySem.Spec PyProof.Rows L2
/-! ### data of the program -/
def tnD (t : Tn) : PyData := .tuple [.int t.1, .int t.2.1, .int t.2.2]
def wd (b : Bool) : Str := if b = true then "x" else "y"
def stD (s : Stp) : PyData := .tuple [.str (wd s.1), .int s.2.1, .int s.2.2]
def chD (ss : List Stp) : PyData := .list (ss.map stD)
def mtD (m : Mt) : PyData := .tuple [.int m.a, .int m.b, .int m.c, .int m.d, .int m.e]
def odW (o : Bool) : Str := if o = true then "xyx" else "yxy"
/-- what the top leaves unbound -/
structure Free (G : Glb) : Prop where
  isi : G.mg "isinstance" = none
  int : G.mg "int" = none
  bool : G.mg "bool" = none
  tuple : G.mg "tuple" = none
  list : G.mg "list" = none
  str : G.mg "str" = none
  len : G.mg "len" = none
  all : G.mg "all" = none
  abs : G.mg "abs" = none
  range : G.mg "range" = none
  enum : G.mg "enumerate" = none
  sorted : G.mg "sorted" = none
  set : G.mg "set" = none
  max : G.mg "max" = none
  min : G.mg "min" = none
  mostP : ∃ t, G.mg "MOST_P" = some (.int 1000000000000000 t)
  mostX : ∃ t, G.mg "MOST_PIXELS" = some (.int 400 t)
  mostS : ∃ t, G.mg "MOST_STEPS" = some (.int 8 t)
  mostR : ∃ t, G.mg "MOST_REACH" = some (.int 30 t)
theorem kb_ii : kitB "int" "int" = some true := by decide +kernel
theorem kb_ib : kitB "int" "bool" = some false := by decide +kernel
theorem kb_tt : kitB "tuple" "tuple" = some true := by decide +kernel
theorem kb_ll : kitB "list" "list" = some true := by decide +kernel
theorem kb_ss : kitB "str" "str" = some true := by decide +kernel
section
variable {G : Glb} {k : Nat} {N : List Str} {sc : Scope} {C : Ctx G k N sc} {M : Addr → Prop} {δ δ1 : DE} {e : Expr} {d d' : PyData}
theorem PV.is (h : PV C M δ e d) (q : d = d') : PV C M δ e d' := q ▸ h
theorem PTD.is {v v' : Bool} (h : PTD C M δ e v) (q : v = v') : PTD C M δ e v' := q ▸ h
end
section
variable {G : Glb}
/-! ### is_integer -/
def FIsInt : List PyData → PyData → Prop := fun ds d => ∃ n : Int, ds = [.int n] ∧ d = .bool true
theorem ok_is_integer (Z : Free G) (R : Raw G "is_integer" s_is_integer) : Def G "is_integer" 1 ["value"] (SpD G.K FIsInt) := by
  refine def_mk R sc_is_integer (by rintro ds d ⟨n, rfl, rfl⟩; rfl) (fun _ _ _ _ _ _ us hl => match us, hl with | [_], _ => rfl) fun C M hc ds d hF => .inl ?_
  obtain ⟨n, rfl, rfl⟩ := hF
  exact sd_ret (s1_ret (pv_and_t (pv_isi kb_ii PyProof.Rows.boot_int (pv_var 0 rfl rfl) Z.isi Z.int) (pv_one (pv_not (pv_isi kb_ib PyProof.Rows.boot_bool (pv_var 0 rfl rfl) Z.isi Z.bool)))))
/-! ### are_integers -/
def FAreInt : List PyData → PyData → Prop := fun ds d => ∃ ns : List Int, ds = [.tuple (ns.map .int), .int (ns.length : Int)] ∧ ns.length < 1000 ∧ d = .bool true
theorem made_true (f : Nat → PyData) : ∀ n, made (fun _ => true) f n = (List.range n).map f
  | 0 => rfl
  | n + 1 => by
    unfold made
    rw [if_pos rfl, made_true f n, List.range_succ, List.map_append]
    rfl
theorem made_const (d : PyData) (n : Nat) : made (fun _ => true) (fun _ => d) n = List.replicate n d := by
  rw [made_true]
  induction n with
  | zero => rfl
  | succ n ih => rw [List.range_succ, List.map_append, ih, List.replicate_succ']; rfl
theorem nth_map {α : Type} (f : α → PyData) {xs : List α} {i : Nat} (h : i < xs.length) : nth (xs.map f) i = f xs[i] := by
  unfold nth
  rw [List.getD_eq_getElem?_getD, List.getElem?_map, List.getElem?_eq_getElem h] <;> rfl
theorem ok_are_integers (Z : Free G) (R : Raw G "are_integers" s_are_integers) (D1 : Def G "is_integer" 1 ["value"] (SpD G.K FIsInt)) : Def G "are_integers" 2 ["value", "many"] (SpD G.K FAreInt) := by
  refine def_mk R sc_are_integers (by rintro ds d ⟨n, rfl, _, rfl⟩; rfl) (fun _ _ _ _ _ _ us hl => match us, hl with | [_, _], _ => rfl) fun C M hc ds d hF => .inl ?_
  obtain ⟨ns, rfl, hl, rfl⟩ := hF
  have e1 : (List.map PyData.int ns).length = ns.length := List.length_map ..
  refine sd_ret (s1_ret (pv_and_t (pv_isi kb_tt PyProof.Rows.boot_tuple (pv_var 0 rfl rfl) Z.isi Z.tuple) (pv_and_t (PV.is (pv_eq rfl rfl (pv_lenT (pv_var 0 rfl rfl) Z.len) (pv_var 1 rfl rfl)) (by rw [e1]; simp [PyData.eqv])) (pv_one (PV.is (pv_all (bs := List.replicate ns.length true) ?lc Z.all) (by simp))))))
  refine PV.is (pv_lc1 2 (keep := fun _ => true) (out := fun _ => .bool true) pi_tupC (blkOk_by (by decide +kernel)) rfl rfl (by rw [e1]; omega) (wlk_tup (pv_var 0 rfl rfl)) (fun i hi M' => ptsd_nil)
      fun i hi _ M' => pv_call D1 ⟨ns[i]'(by rw [e1] at hi; exact hi), rfl, rfl⟩ (pad_cons (pv_var 2 rfl (by rw [nth_map _ (by rw [e1] at hi; exact hi)]; rfl)) pad_nil)) ?_
  rw [made_const, e1, List.map_replicate]
end
end TP

/-! K6: turns -/
namespace TP
open PySem PySem.Spec PyProof.Rows L2
theorem cmul {m n : Nat} {i j : Int} (h : Bd m i) (h2 : Bd n j) (hmn : m + n + 2 ≤ 1000000 := by decide) : CMulW i j :=
  wide_mul (a := m + 1) (b := n + 1) (h.mono (Nat.le_succ _)) (h2.mono (Nat.le_succ _)) (Nat.succ_pos _) (Nat.succ_pos _) (by omega)
theorem cdiv {n : Nat} {i j : Int} (h : 0 < j) (h2 : Bd n j) (hn : n + 1 ≤ 9000 := by decide) : CDivW i j := wide_div (b := n + 1) h (h2.mono (Nat.le_succ _)) (Nat.succ_pos _) hn
theorem band_true {a b : Prop} [Decidable a] [Decidable b] (h1 : a) (h2 : b) : PyData.bool (decide a && decide b) = .bool true := by
  rw [decide_eq_true h1, decide_eq_true h2]
  rfl
theorem eqI_true {x y : Int} (h : x = y) : PyData.eqv (.int x) (.int y) = true := by
  subst h
  simp [PyData.eqv]
theorem eqI_false {x y : Int} (h : x ≠ y) : PyData.eqv (.int x) (.int y) = false := by
  simp [PyData.eqv, h]
section
variable {G : Glb}
/-! ### common -/
def FCommon : List PyData → PyData → Prop := fun ds d => ∃ i j : Int, ds = [.int i, .int j] ∧ d = .int (Int.gcd i j : Int)
theorem ok_common (Z : Free G) (R : Raw G "common" s_common) : Def G "common" 1 ["one", "other"] (SpD G.K FCommon) := by
  refine def_mk R sc_common (by rintro ds d ⟨n, m, rfl, rfl⟩; rfl) (fun _ _ _ _ _ _ us hl => match us, hl with | [_, _], _ => rfl) fun C M hc ds d hF => .inl ?_
  obtain ⟨i, j, rfl, rfl⟩ := hF
  obtain ⟨n, p1, p2, p3⟩ := euclid j.natAbs (i.natAbs : Int) (Int.natCast_nonneg _)
  refine sd_cons (s1_par 0 1 (pad_cons (pv_abs (pv_var 0 rfl rfl) Z.abs) (pad_cons (pv_abs (pv_var 1 rfl rfl) Z.abs) pad_nil))) (sd_cons (s1_while (n := n) (fun l => [some (.int (eSeq ((i.natAbs : Int), (j.natAbs : Int)) l).1), some (.int (eSeq ((i.natAbs : Int), (j.natAbs : Int)) l).2)]) rfl
    (fun l hl => PTD.is (ptd_gt (pv_var 1 rfl rfl) pv_int) (decide_eq_true (p1 l hl))) (fun l hl => sd_cons (s1_par 0 1 (pad_cons ((pv_var 1 rfl rfl)) (pad_cons (pv_mod (p1 l hl) (pv_var 0 rfl rfl) (pv_var 1 rfl rfl)) pad_nil))) sd_nil) (PTD.is (ptd_gt (pv_var 1 rfl rfl) pv_int) ?_)) (sd_ret (s1_ret (PV.is (pv_var 0 rfl rfl) ?_))))
  · rw [p2]
    rfl
  · rw [p3]
    show PyData.int (Int.gcd (i.natAbs : Int) (j.natAbs : Int) : Int) = _
    rw [show Int.gcd (i.natAbs : Int) (j.natAbs : Int) = Int.gcd i j by simp [Int.gcd]]
/-! ### is_pixel, is_turn, need_turn, need_pixel -/
def FIsPx : List PyData → PyData → Prop := fun ds d => ∃ z : Px, ds = [pxD z] ∧ d = .bool true
theorem areI_px (z : Px) : FAreInt [pxD z, .int 2] (.bool true) := ⟨[z.1, z.2], rfl, (by show 2 < 1000; decide), rfl⟩
theorem areI_tn (t : Tn) : FAreInt [tnD t, .int 3] (.bool true) := ⟨[t.1, t.2.1, t.2.2], rfl, (by show 3 < 1000; decide), rfl⟩
theorem areI_mt (m : Mt) : FAreInt [mtD m, .int 5] (.bool true) := ⟨m.L, rfl, by show 5 < 1000; decide, rfl⟩
theorem ok_is_pixel (R : Raw G "is_pixel" s_is_pixel) (D1 : Def G "are_integers" 2 ["value", "many"] (SpD G.K FAreInt)) : Def G "is_pixel" 3 ["value"] (SpD G.K FIsPx) := by
  refine def_mk R sc_is_pixel (by rintro ds d ⟨n, rfl, rfl⟩; rfl) (fun _ _ _ _ _ _ us hl => match us, hl with | [_], _ => rfl) fun C M hc ds d hF => .inl ?_
  obtain ⟨z, rfl, rfl⟩ := hF
  exact sd_ret (s1_ret (pv_call D1 (areI_px z) (pad_cons ((pv_var 0 rfl rfl)) (pad_cons (pv_int) pad_nil))))
def FIsTn : List PyData → PyData → Prop := fun ds d => ∃ t : Tn, ds = [tnD t] ∧ TnOk t ∧ d = .bool true
theorem ok_is_turn (Z : Free G) (R : Raw G "is_turn" s_is_turn) (D1 : Def G "are_integers" 2 ["value", "many"] (SpD G.K FAreInt)) (D2 : Def G "common" 1 ["one", "other"] (SpD G.K FCommon)) : Def G "is_turn" 3 ["value"] (SpD G.K FIsTn) := by
  refine def_mk R sc_is_turn (by rintro ds d ⟨n, rfl, _, rfl⟩; rfl) (fun _ _ _ _ _ _ us hl => match us, hl with | [_], _ => rfl) fun C M hc ds d hF => .inl ?_
  obtain ⟨t, rfl, ht, rfl⟩ := hF
  obtain ⟨tP, hP⟩ := Z.mostP
  refine sd_cons (s1_ifF (ptd_not (ptd_val (pv_call D1 (areI_tn t) (pad_cons ((pv_var 0 rfl rfl)) (pad_cons (pv_int) pad_nil))))) sd_nil) (sd_cons (s1_unp (pgs_consC 1 rfl (.inl rfl) (.inr rfl) (pgs_consC 2 rfl (.inl rfl) (.inr rfl) (pgs_consC 3 rfl (.inl rfl) (.inr rfl) pgs_nilC))) rfl rfl (pv_var 0 rfl rfl)) (sd_ret (s1_ret (pv_and_t (PV.is (pv_chain (fun _ => op_lt) (fun _ => op_le) (pv_abs (pv_var 2 rfl rfl) Z.abs) (pv_var 1 rfl rfl) (pv_globI hP)) (band_true ht.hq ht.hp))
    (pv_and_t (PV.is (pv_chain (fun _ => op_le) (fun _ => op_le) pv_int (pv_var 3 rfl rfl) pv_int) (band_true ht.k0 ht.k3)) (pv_and_t (PV.is (pv_eq rfl rfl (pv_mod (by decide) (pv_add (pv_var 1 rfl rfl) (pv_var 2 rfl rfl)) pv_int) pv_int) (congrArg _ (eqI_true ht.odd))) (pv_one (PV.is (pv_eq rfl rfl (pv_call D2 ⟨_, _, rfl, rfl⟩ (pad_cons ((pv_var 1 rfl rfl)) (pad_cons ((pv_var 2 rfl rfl)) pad_nil))) pv_int) (congrArg _ (eqI_true (by rw [ht.cop]; rfl))))))))))) 
def FNeedTn : List PyData → PyData → Prop := fun ds d => ∃ t : Tn, ds = [tnD t] ∧ TnOk t ∧ d = .none
theorem ok_need_turn (R : Raw G "need_turn" s_need_turn) (D1 : Def G "is_turn" 3 ["value"] (SpD G.K FIsTn)) : Def G "need_turn" 4 ["turn"] (SpD G.K FNeedTn) := by
  refine def_mk R sc_need_turn (by rintro ds d ⟨n, rfl, _, rfl⟩; rfl) (fun _ _ _ _ _ _ us hl => match us, hl with | [_], _ => rfl) fun C M hc ds d hF => .inr ?_
  obtain ⟨t, rfl, ht, rfl⟩ := hF
  exact ⟨rfl, _, sd_cons (s1_ifF (ptd_not (ptd_val (pv_call D1 ⟨t, rfl, ht, rfl⟩ (pad_cons ((pv_var 0 rfl rfl)) pad_nil)))) sd_nil) sd_nil⟩
def FNeedPx : List PyData → PyData → Prop := fun ds d => ∃ z : Px, ds = [pxD z] ∧ d = .none
theorem ok_need_pixel (R : Raw G "need_pixel" s_need_pixel) (D1 : Def G "is_pixel" 3 ["value"] (SpD G.K FIsPx)) : Def G "need_pixel" 4 ["pixel"] (SpD G.K FNeedPx) := by
  refine def_mk R sc_need_pixel (by rintro ds d ⟨n, rfl, rfl⟩; rfl) (fun _ _ _ _ _ _ us hl => match us, hl with | [_], _ => rfl) fun C M hc ds d hF => .inr ?_
  obtain ⟨z, rfl, rfl⟩ := hF
  exact ⟨rfl, _, sd_cons (s1_ifF (ptd_not (ptd_val (pv_call D1 ⟨z, rfl, rfl⟩ (pad_cons ((pv_var 0 rfl rfl)) pad_nil)))) sd_nil) sd_nil⟩
def FNeedNum : List PyData → PyData → Prop := fun ds d => ∃ n m : Int, ds = [.int n, .int m] ∧ 0 ≤ n ∧ n ≤ m ∧ d = .none
theorem ok_need_number (R : Raw G "need_number" s_need_number) (D1 : Def G "is_integer" 1 ["value"] (SpD G.K FIsInt)) : Def G "need_number" 2 ["number", "most"] (SpD G.K FNeedNum) := by
  refine def_mk R sc_need_number (by rintro ds d ⟨n, m, rfl, _, _, rfl⟩; rfl) (fun _ _ _ _ _ _ us hl => match us, hl with | [_, _], _ => rfl) fun C M hc ds d hF => .inr ?_
  obtain ⟨n, m, rfl, h0, hm, rfl⟩ := hF
  exact ⟨rfl, _, sd_cons (s1_ifF (PWD.ptd (pwd_or_f (ptd_not (ptd_val (pv_call D1 ⟨n, rfl, rfl⟩ (pad_cons ((pv_var 0 rfl rfl)) pad_nil)))) (pwd_or_f (PTD.is (ptd_lt (pv_var 0 rfl rfl) pv_int) (decide_eq_false (by omega))) (pwd_or1 (PWD.ptd (pwd_and_t (PTD.is (ptd_notN (pv_var 1 rfl rfl) pv_non) rfl) (pwd_and1 (PTD.is (ptd_gt (pv_var 0 rfl rfl) (pv_var 1 rfl rfl)) (decide_eq_false (by omega)))))))))) sd_nil) sd_nil⟩
def FNeedTP : List PyData → PyData → Prop := fun ds d => ∃ (t : Tn) (z : Px), ds = [tnD t, pxD z] ∧ TnOk t ∧ d = .none
theorem ok_need_turn_and_pixel (R : Raw G "need_turn_and_pixel" s_need_turn_and_pixel) (D1 : Def G "need_turn" 4 ["turn"] (SpD G.K FNeedTn)) (D2 : Def G "need_pixel" 4 ["pixel"] (SpD G.K FNeedPx)) : Def G "need_turn_and_pixel" 5 ["turn", "pixel"] (SpD G.K FNeedTP) := by
  refine def_mk R sc_need_turn_and_pixel (by rintro ds d ⟨n, m, rfl, _, rfl⟩; rfl) (fun _ _ _ _ _ _ us hl => match us, hl with | [_, _], _ => rfl) fun C M hc ds d hF => .inr ?_
  obtain ⟨t, z, rfl, ht, rfl⟩ := hF
  exact ⟨rfl, _, sd_cons (s1_expr (pv_call D1 ⟨t, rfl, ht, rfl⟩ (pad_cons ((pv_var 0 rfl rfl)) pad_nil))) (sd_cons (s1_expr (pv_call D2 ⟨z, rfl, rfl⟩ (pad_cons ((pv_var 1 rfl rfl)) pad_nil))) sd_nil)⟩
/-! ### need_pixels -/
def AscP (ps : List Px) : Prop := ∀ (i : Nat) (z w : Px), ps[i]? = some z → ps[i + 1]? = some w → ltP2 z w = true
def FNeedPxs : List PyData → PyData → Prop := fun ds d => ∃ ps : List Px, ds = [.list (ps.map pxD)] ∧ ps.length ≤ 400 ∧ AscP ps ∧ d = .none
theorem atI_pre {ds : List PyData} {i : Int} {j : Nat} {d : PyData} (e : i = (j : Int)) (h : ds[j]? = some d) : atI ds i = some d := by
  rw [e]
  exact atI_nat h
theorem ok_need_pixels (Z : Free G) (R : Raw G "need_pixels" s_need_pixels) (D1 : Def G "is_pixel" 3 ["value"] (SpD G.K FIsPx)) : Def G "need_pixels" 4 ["pixels"] (SpD G.K FNeedPxs) := by
  refine def_mk R sc_need_pixels (by rintro ds d ⟨n, rfl, _, _, rfl⟩; rfl) (fun _ _ _ _ _ _ us hl => match us, hl with | [_], _ => rfl) fun C M hc ds d hF => .inr ?_
  obtain ⟨ps, rfl, hl, ha, rfl⟩ := hF
  obtain ⟨tX, hX⟩ := Z.mostX
  have e1 : (ps.map pxD).length = ps.length := List.length_map ..
  refine ⟨rfl, _, sd_cons (s1_ifF (PWD.ptd (pwd_or_f (ptd_not (ptd_val (pv_isi kb_ll PyProof.Rows.boot_list (pv_var 0 rfl rfl) Z.isi Z.list))) (pwd_or1 (PTD.is (ptd_gt (pv_lenL (pv_var 0 rfl rfl) Z.len) (pv_globI hX)) (decide_eq_false (by rw [e1]; omega)))))) sd_nil)
    (sd_cons (s1_for (n := (ps.map pxD).length) (items := fun i => .tuple [.int (i : Int), nth (ps.map pxD) i]) (g := gTup G.K 2 (gNames [1, 2])) (fun i => if i = 0 then [some (.list (ps.map pxD)), none, none] else [some (.list (ps.map pxD)), some (.int ((i : Int) - 1)), some (nth (ps.map pxD) (i - 1))])
      (fun i => [some (.list (ps.map pxD)), some (.int (i : Int)), some (nth (ps.map pxD) i)]) (pi_enumC Z.enum) (wlk_enum (pad_cons ((pv_var 0 rfl rfl)) pad_nil)) (pg_tupC (pgs_consC 1 rfl (.inl rfl) (.inr rfl) (pgs_consC 2 rfl (.inl rfl) (.inr rfl) pgs_nilC)) (fun _ => rfl) (fun _ => rfl)) rfl (fun i hi => ?_) (fun i hi => ?_)) sd_nil)⟩
  · by_cases h : i = 0
    · subst h
      exact tg_tup rfl rfl
    · rw [if_neg h]
      exact tg_tup rfl rfl
  · rw [if_neg (Nat.succ_ne_zero i)]
    rw [e1] at hi
    have hz : (ps.map pxD)[i]? = some (pxD ps[i]) := by rw [List.getElem?_map, List.getElem?_eq_getElem hi]; rfl
    rw [nth_get hz]
    refine sd_cons (s1_ifF (PWD.ptd (pwd_or_f (ptd_not (ptd_val (pv_call D1 ⟨ps[i], rfl, rfl⟩ (pad_cons ((pv_var 2 rfl rfl)) pad_nil)))) (pwd_or1 (PWD.ptd ?_)))) sd_nil) ?_
    · by_cases h : i = 0
      · subst h
        exact pwd_and_f (PTD.is (ptd_gt (pv_var 1 rfl rfl) pv_int) (decide_eq_false (by decide)))
      · have hi' : i - 1 < ps.length := by omega
        have hz' : (ps.map pxD)[i - 1]? = some (pxD ps[i - 1]) := by rw [List.getElem?_map, List.getElem?_eq_getElem hi']; rfl
        refine pwd_and_t (PTD.is (ptd_gt (pv_var 1 rfl rfl) pv_int) (decide_eq_true (by omega))) (pwd_and1 (PTD.is (ptd_geP (z := ps[i - 1]) (w := ps[i]) (pv_ixL (pv_var 0 rfl rfl) (pv_sub (pv_var 1 rfl rfl) pv_int) (atI_pre (j := i - 1) (by omega) hz')) (pv_var 2 rfl rfl)) ?_))
        have := ha (i - 1) ps[i - 1] ps[i] (List.getElem?_eq_getElem hi') (by rw [show i - 1 + 1 = i by omega]; exact List.getElem?_eq_getElem hi)
        rw [this]
        rfl
    · have e2 : ((i + 1 : Nat) : Int) - 1 = (i : Int) := by omega
      have e3 : i + 1 - 1 = i := rfl
      rw [e2, e3, nth_get hz]
      exact sd_nil
end
end TP

/-! K7: turns, images -/
namespace TP
open PySem PySem.Spec PyProof.Rows L2
section
variable {G : Glb}
def FSize : List PyData → PyData → Prop := fun ds d => ∃ t : Tn, ds = [tnD t] ∧ TnOk t ∧ d = .int (lC t)
theorem ok_size_of (R : Raw G "size_of" s_size_of) : Def G "size_of" 1 ["turn"] (SpD G.K FSize) := by
  refine def_mk R sc_size_of (by rintro ds d ⟨t, rfl, _, rfl⟩; rfl) (fun _ _ _ _ _ _ us hl => match us, hl with | [_], _ => rfl) fun C M hc ds d hF => .inl ?_
  obtain ⟨t, rfl, ht, rfl⟩ := hF
  exact sd_ret (s1_ret (pv_add (i := t.1 * t.1) (j := t.2.1 * t.2.1) (pv_mul (cmul ht.bp ht.bp) (pv_ixT (pv_var 0 rfl rfl) pv_int rfl) (pv_ixT (pv_var 0 rfl rfl) pv_int rfl)) (pv_mul (cmul ht.bq ht.bq) (pv_ixT (pv_var 0 rfl rfl) pv_int rfl) (pv_ixT (pv_var 0 rfl rfl) pv_int rfl))))
def lgD (t : Tn) : PyData := .tuple [.int (lA t), .int (lB t), .int (lC t)]
def FLegs : List PyData → PyData → Prop := fun ds d => ∃ t : Tn, ds = [tnD t] ∧ TnOk t ∧ d = lgD t
theorem ok_plain_legs (R : Raw G "plain_legs" s_plain_legs) : Def G "plain_legs" 1 ["turn"] (SpD G.K FLegs) := by
  refine def_mk R sc_plain_legs (by rintro ds d ⟨t, rfl, _, rfl⟩; rfl) (fun _ _ _ _ _ _ us hl => match us, hl with | [_], _ => rfl) fun C M hc ds d hF => .inl ?_
  obtain ⟨t, rfl, ht, rfl⟩ := hF
  exact sd_cons (s1_unp (ds := [.int t.1, .int t.2.1]) (pgs_consC 1 rfl (.inl rfl) (.inr rfl) (pgs_consC 2 rfl (.inl rfl) (.inr rfl) pgs_nilC)) rfl rfl (PV.is (pv_slT_hi (by show ¬ (0 = 0 ∧ HT.sIx 3 3 (some 2) = 3); decide) (pv_var 0 rfl rfl) pv_int) rfl)) (sd_ret (s1_ret (pv_tup (pad_cons (pv_sub (i := t.1 * t.1) (j := t.2.1 * t.2.1) (pv_mul (cmul ht.bp ht.bp) (pv_var 1 rfl rfl) (pv_var 1 rfl rfl)) (pv_mul (cmul ht.bq ht.bq) (pv_var 2 rfl rfl) (pv_var 2 rfl rfl))) (pad_cons (pv_mul (i := 2 * t.1) (cmul (bd2.mul ht.bp) ht.bq) (pv_mul (cmul bd2 ht.bp) pv_int (pv_var 1 rfl rfl)) (pv_var 2 rfl rfl)) (pad_cons (pv_add (i := t.1 * t.1) (j := t.2.1 * t.2.1) (pv_mul (cmul ht.bp ht.bp) (pv_var 1 rfl rfl) (pv_var 1 rfl rfl)) (pv_mul (cmul ht.bq ht.bq) (pv_var 2 rfl rfl) (pv_var 2 rfl rfl))) pad_nil))))))
def FQuart : List PyData → PyData → Prop := fun ds d => ∃ (z : Px) (n : Int), ds = [pxD z, .int n] ∧ d = pxD (quart z n)
theorem ok_quartered (Z : Free G) (R : Raw G "quartered" s_quartered) : Def G "quartered" 1 ["pixel", "times"] (SpD G.K FQuart) := by
  refine def_mk R sc_quartered (by rintro ds d ⟨t, n, rfl, rfl⟩; rfl) (fun _ _ _ _ _ _ us hl => match us, hl with | [_, _], _ => rfl) fun C M hc ds d hF => .inl ?_
  obtain ⟨z, n, rfl, rfl⟩ := hF
  have h0 := Int.emod_nonneg n (show (4 : Int) ≠ 0 by decide)
  have h4 := Int.emod_lt_of_pos n (show (0 : Int) < 4 by decide)
  refine sd_cons (s1_unp (pgs_consC 2 rfl (.inl rfl) (.inr rfl) (pgs_consC 3 rfl (.inl rfl) (.inr rfl) pgs_nilC)) rfl rfl (pv_var 0 rfl rfl)) (sd_cons (s1_for (n := (n % 4).toNat) (items := fun i => .int (0 + (i : Int))) (g := gName 4) (fun i => [some (pxD z), some (.int n), some (.int (rotN i z).1), some (.int (rotN i z).2), none]) (fun i => [some (pxD z), some (.int n), some (.int (rotN i z).1), some (.int (rotN i z).2), some (.int (0 + (i : Int)))])
    (pi_range1C Z.range) (wlk_range1 (pad_cons (pv_mod (by decide) (pv_var 1 rfl rfl) pv_int) pad_nil) ⟨by omega, by omega⟩) (pg_nameC 4 rfl (.inl rfl) (.inr rfl)) rfl (fun i hi => tg_name 4) (fun i hi => ?_)) (sd_ret (s1_ret (pv_tup (pad_cons ((pv_var 2 rfl rfl)) (pad_cons ((pv_var 3 rfl rfl)) pad_nil))))))
  exact SD.weak (sd_cons (s1_par 2 3 (pad_cons (pv_neg (pv_var 3 rfl rfl)) (pad_cons ((pv_var 2 rfl rfl)) pad_nil))) sd_nil) (wk_same (wk_same (wk_same (wk_same (wk_none wk_nil)))))
def FNear : List PyData → PyData → Prop := fun ds d => ∃ n b : Int, ds = [.int n, .int b] ∧ 0 < b ∧ Bd 6000 n ∧ Bd 3000 b ∧ d = .int (rnd n b)
theorem ok_nearest (R : Raw G "nearest" s_nearest) : Def G "nearest" 1 ["number", "bottom"] (SpD G.K FNear) := by
  refine def_mk R sc_nearest (by rintro ds d ⟨n, b, rfl, _, _, _, rfl⟩; rfl) (fun _ _ _ _ _ _ us hl => match us, hl with | [_, _], _ => rfl) fun C M hc ds d hF => .inl ?_
  obtain ⟨n, b, rfl, h0, hn, hb, rfl⟩ := hF
  exact sd_ret (s1_ret (pv_fdiv (i := 2 * n + b) (j := 2 * b) (cdiv (by omega) (bd2.mul hb)) (pv_add (pv_mul (cmul bd2 hn) pv_int (pv_var 0 rfl rfl)) (pv_var 1 rfl rfl)) (pv_mul (cmul bd2 hb) pv_int (pv_var 1 rfl rfl))))
def plc (t : Tn) (z : Px) : Px := (lA t * z.1 - lB t * z.2, lB t * z.1 + lA t * z.2)
def FPlace : List PyData → PyData → Prop := fun ds d => ∃ (t : Tn) (z : Px), ds = [tnD t, pxD z] ∧ TnOk t ∧ PxB 4000 z ∧ d = pxD (plc t z)
theorem ok_plain_place (R : Raw G "plain_place" s_plain_place) (D1 : Def G "plain_legs" 1 ["turn"] (SpD G.K FLegs)) : Def G "plain_place" 2 ["turn", "pixel"] (SpD G.K FPlace) := by
  refine def_mk R sc_plain_place (by rintro ds d ⟨t, z, rfl, _, _, rfl⟩; rfl) (fun _ _ _ _ _ _ us hl => match us, hl with | [_, _], _ => rfl) fun C M hc ds d hF => .inl ?_
  obtain ⟨t, z, rfl, ht, hz, rfl⟩ := hF
  exact sd_cons (s1_unp (ds := [.int (lA t), .int (lB t)]) (pgs_consC 2 rfl (.inl rfl) (.inr rfl) (pgs_consC 3 rfl (.inl rfl) (.inr rfl) pgs_nilC)) rfl rfl (PV.is (pv_slT_hi (by show ¬ (0 = 0 ∧ HT.sIx 3 3 (some 2) = 3); decide) (pv_call D1 ⟨t, rfl, ht, rfl⟩ (pad_cons ((pv_var 0 rfl rfl)) pad_nil)) pv_int) rfl)) (sd_cons (s1_unp (pgs_consC 4 rfl (.inl rfl) (.inr rfl) (pgs_consC 5 rfl (.inl rfl) (.inr rfl) pgs_nilC)) rfl rfl (pv_var 1 rfl rfl)) (sd_ret (s1_ret (pv_tup (pad_cons (pv_sub (i := lA t * z.1) (j := lB t * z.2) (pv_mul (cmul ht.bA hz.1) (pv_var 2 rfl rfl) (pv_var 4 rfl rfl)) (pv_mul (cmul ht.bB hz.2) (pv_var 3 rfl rfl) (pv_var 5 rfl rfl))) (pad_cons (pv_add (i := lB t * z.1) (j := lA t * z.2) (pv_mul (cmul ht.bB hz.1) (pv_var 3 rfl rfl) (pv_var 4 rfl rfl)) (pv_mul (cmul ht.bA hz.2) (pv_var 2 rfl rfl) (pv_var 5 rfl rfl))) pad_nil))))))
theorem plc_bd {t : Tn} {z : Px} (ht : TnOk t) (hz : PxB 4000 z) : PxB 4200 (plc t z) :=
  ⟨(((ht.bA.mul hz.1).mono (show 101 + 4000 ≤ 4102 by decide)).sub (ht.bB.mul hz.2)).mono (by decide), ((ht.bB.mul hz.1).add ((ht.bA.mul hz.2).mono (show 101 + 4000 ≤ 4102 by decide))).mono (by decide)⟩
def img (t : Tn) (z : Px) : Px := (rnd (plc t z).1 (lC t), rnd (plc t z).2 (lC t))
def FImg0 : List PyData → PyData → Prop := fun ds d => ∃ (t : Tn) (z : Px), ds = [tnD t, pxD z] ∧ TnOk t ∧ PxB 4000 z ∧ d = pxD (img t z)
theorem ok_plain_image (Z : Free G) (R : Raw G "plain_image" s_plain_image) (D1 : Def G "size_of" 1 ["turn"] (SpD G.K FSize)) (D2 : Def G "plain_place" 2 ["turn", "pixel"] (SpD G.K FPlace)) (D3 : Def G "nearest" 1 ["number", "bottom"] (SpD G.K FNear)) : Def G "plain_image" 3 ["turn", "pixel"] (SpD G.K FImg0) := by
  refine def_mk R sc_plain_image (by rintro ds d ⟨t, z, rfl, _, _, rfl⟩; rfl) (fun _ _ _ _ _ _ us hl => match us, hl with | [_, _], _ => rfl) fun C M hc ds d hF => .inl ?_
  obtain ⟨t, z, rfl, ht, hz, rfl⟩ := hF
  have hp := plc_bd ht hz
  refine sd_cons (s1_asg 2 (pv_call D1 ⟨t, rfl, ht, rfl⟩ (pad_cons ((pv_var 0 rfl rfl)) pad_nil)) rfl (.inr rfl) (.inl hc)) (sd_ret (s1_ret (pv_tupleL (ds := [.int (img t z).1, .int (img t z).2]) ?_ Z.tuple)))
  refine PV.is (pv_lc1 (m := 2) 3 (keep := fun _ => true) (items := nth [.int (plc t z).1, .int (plc t z).2]) (out := nth [.int (img t z).1, .int (img t z).2]) pi_tupC (blkOk_by (by decide +kernel)) rfl rfl (by decide) (wlk_tup (pv_call D2 ⟨t, z, rfl, ht, hz, rfl⟩ (pad_cons ((pv_var 0 rfl rfl)) (pad_cons ((pv_var 1 rfl rfl)) pad_nil)))) (fun i hi M' => ptsd_nil) fun i hi _ M' => ?_) rfl
  match i, hi with
  | 0, _ => exact pv_call D3 ⟨_, _, rfl, ht.c0, hp.1.mono (by decide), ht.bC.mono (by decide), rfl⟩ (pad_cons ((pv_var 3 rfl rfl)) (pad_cons ((pv_var 2 rfl rfl)) pad_nil))
  | 1, _ => exact pv_call D3 ⟨_, _, rfl, ht.c0, hp.2.mono (by decide), ht.bC.mono (by decide), rfl⟩ (pad_cons ((pv_var 3 rfl rfl)) (pad_cons ((pv_var 2 rfl rfl)) pad_nil))
def imgQ (t : Tn) (z : Px) : Px := quart (img t z) t.2.2
def FImg : List PyData → PyData → Prop := fun ds d => ∃ (t : Tn) (z : Px), ds = [tnD t, pxD z] ∧ TnOk t ∧ PxB 4000 z ∧ d = pxD (imgQ t z)
theorem ok_image_in (R : Raw G "image_in" s_image_in) (D1 : Def G "plain_image" 3 ["turn", "pixel"] (SpD G.K FImg0)) (D2 : Def G "quartered" 1 ["pixel", "times"] (SpD G.K FQuart)) : Def G "image_in" 4 ["turn", "pixel"] (SpD G.K FImg) := by
  refine def_mk R sc_image_in (by rintro ds d ⟨t, z, rfl, _, _, rfl⟩; rfl) (fun _ _ _ _ _ _ us hl => match us, hl with | [_, _], _ => rfl) fun C M hc ds d hF => .inl ?_
  obtain ⟨t, z, rfl, ht, hz, rfl⟩ := hF
  exact sd_ret (s1_ret (pv_call D2 ⟨img t z, t.2.2, rfl, rfl⟩ (pad_cons (pv_call D1 ⟨t, z, rfl, ht, hz, rfl⟩ (pad_cons ((pv_var 0 rfl rfl)) (pad_cons ((pv_var 1 rfl rfl)) pad_nil))) (pad_cons (pv_ixT (pv_var 0 rfl rfl) pv_int rfl) pad_nil))))
theorem ok_image (R : Raw G "image" s_image) (D1 : Def G "need_turn_and_pixel" 5 ["turn", "pixel"] (SpD G.K FNeedTP)) (D2 : Def G "image_in" 4 ["turn", "pixel"] (SpD G.K FImg)) : Def G "image" 6 ["turn", "pixel"] (SpD G.K FImg) := by
  refine def_mk R sc_image (by rintro ds d ⟨t, z, rfl, _, _, rfl⟩; rfl) (fun _ _ _ _ _ _ us hl => match us, hl with | [_, _], _ => rfl) fun C M hc ds d hF => .inl ?_
  obtain ⟨t, z, rfl, ht, hz, rfl⟩ := hF
  exact sd_cons (s1_expr (pv_call D1 ⟨t, z, rfl, ht, rfl⟩ (pad_cons ((pv_var 0 rfl rfl)) (pad_cons ((pv_var 1 rfl rfl)) pad_nil)))) (sd_ret (s1_ret (pv_call D2 ⟨t, z, rfl, ht, hz, rfl⟩ (pad_cons ((pv_var 0 rfl rfl)) (pad_cons ((pv_var 1 rfl rfl)) pad_nil)))))
def FBack : List PyData → PyData → Prop := fun ds d => ∃ t : Tn, ds = [tnD t] ∧ TnOk t ∧ d = tnD (backT t)
theorem ok_back_of (R : Raw G "back_of" s_back_of) : Def G "back_of" 1 ["turn"] (SpD G.K FBack) := by
  refine def_mk R sc_back_of (by rintro ds d ⟨t, rfl, _, rfl⟩; rfl) (fun _ _ _ _ _ _ us hl => match us, hl with | [_], _ => rfl) fun C M hc ds d hF => .inl ?_
  obtain ⟨t, rfl, ht, rfl⟩ := hF
  exact sd_ret (s1_ret (pv_tup (pad_cons (pv_ixT (d := .int t.1) (pv_var 0 rfl rfl) pv_int rfl) (pad_cons (pv_neg (i := t.2.1) (pv_ixT (pv_var 0 rfl rfl) pv_int rfl)) (pad_cons (pv_mod (i := -t.2.2) (by decide) (pv_neg (pv_ixT (pv_var 0 rfl rfl) pv_int rfl)) pv_int) pad_nil)))))
theorem ok_back (R : Raw G "back" s_back) (D1 : Def G "need_turn" 4 ["turn"] (SpD G.K FNeedTn)) (D2 : Def G "back_of" 1 ["turn"] (SpD G.K FBack)) : Def G "back" 5 ["turn"] (SpD G.K FBack) := by
  refine def_mk R sc_back (by rintro ds d ⟨t, rfl, _, rfl⟩; rfl) (fun _ _ _ _ _ _ us hl => match us, hl with | [_], _ => rfl) fun C M hc ds d hF => .inl ?_
  obtain ⟨t, rfl, ht, rfl⟩ := hF
  exact sd_cons (s1_expr (pv_call D1 ⟨t, rfl, ht, rfl⟩ (pad_cons ((pv_var 0 rfl rfl)) pad_nil))) (sd_ret (s1_ret (pv_call D2 ⟨t, rfl, ht, rfl⟩ (pad_cons ((pv_var 0 rfl rfl)) pad_nil))))
def wlD (t : Tn) : PyData := .tuple [.int (quart (lA t, lB t) t.2.2).1, .int (quart (lA t, lB t) t.2.2).2, .int (lC t)]
def FWhole : List PyData → PyData → Prop := fun ds d => ∃ t : Tn, ds = [tnD t] ∧ TnOk t ∧ d = wlD t
theorem ok_whole_legs (R : Raw G "whole_legs" s_whole_legs) (D1 : Def G "plain_legs" 1 ["turn"] (SpD G.K FLegs)) (D2 : Def G "quartered" 1 ["pixel", "times"] (SpD G.K FQuart)) : Def G "whole_legs" 2 ["turn"] (SpD G.K FWhole) := by
  refine def_mk R sc_whole_legs (by rintro ds d ⟨t, rfl, _, rfl⟩; rfl) (fun _ _ _ _ _ _ us hl => match us, hl with | [_], _ => rfl) fun C M hc ds d hF => .inl ?_
  obtain ⟨t, rfl, ht, rfl⟩ := hF
  exact sd_cons (s1_unp (pgs_consC 1 rfl (.inl rfl) (.inr rfl) (pgs_consC 2 rfl (.inl rfl) (.inr rfl) (pgs_consC 3 rfl (.inl rfl) (.inr rfl) pgs_nilC))) rfl rfl (pv_call D1 ⟨t, rfl, ht, rfl⟩ (pad_cons ((pv_var 0 rfl rfl)) pad_nil))) (sd_ret (s1_ret (pv_tup (pad_star (ds1 := [.int (quart (lA t, lB t) t.2.2).1, .int (quart (lA t, lB t) t.2.2).2]) (pv_call D2 ⟨(lA t, lB t), t.2.2, rfl, rfl⟩ (pad_cons (pv_tup (pad_cons ((pv_var 1 rfl rfl)) (pad_cons ((pv_var 2 rfl rfl)) pad_nil))) (pad_cons (pv_ixT (pv_var 0 rfl rfl) pv_int rfl) pad_nil))) (pad_cons ((pv_var 3 rfl rfl)) pad_nil)))))
theorem ok_legs_of (R : Raw G "legs_of" s_legs_of) (D1 : Def G "need_turn" 4 ["turn"] (SpD G.K FNeedTn)) (D2 : Def G "whole_legs" 2 ["turn"] (SpD G.K FWhole)) : Def G "legs_of" 5 ["turn"] (SpD G.K FWhole) := by
  refine def_mk R sc_legs_of (by rintro ds d ⟨t, rfl, _, rfl⟩; rfl) (fun _ _ _ _ _ _ us hl => match us, hl with | [_], _ => rfl) fun C M hc ds d hF => .inl ?_
  obtain ⟨t, rfl, ht, rfl⟩ := hF
  exact sd_cons (s1_expr (pv_call D1 ⟨t, rfl, ht, rfl⟩ (pad_cons ((pv_var 0 rfl rfl)) pad_nil))) (sd_ret (s1_ret (pv_call D2 ⟨t, rfl, ht, rfl⟩ (pad_cons ((pv_var 0 rfl rfl)) pad_nil))))
end
end TP

/-! K8: chains -/
namespace TP
open PySem PySem.Spec PyProof.Rows L2
/-- // by any divisor but 0 -/
def CDivZ (_ j : Int) : Prop := j ≠ 0 ∧ j.natAbs.log2 < 9000
theorem op_fdivZ {X : Cx} : OpR X (binaryOp .FloorDiv) (rI CDivZ fun i j => .int (i.fdiv j)) := opI fun i j _ _ _ _ _ hc q => floordiv_int hc.1 q (.inl (PyProof.noPylong_of_log2 hc.2))
theorem cdivZ {n : Nat} {i j : Int} (h : j ≠ 0) (h2 : Bd n j) (hn : n + 1 ≤ 9000 := by decide) : CDivZ i j := ⟨h, Nat.lt_of_lt_of_le (PySem.Flt.log2_lt_of (Nat.succ_pos n) (h2.mono (Nat.le_succ _))) hn⟩
theorem wd_shaped (b : Bool) : SeqAt.shaped (.str (wd b)) = true := by cases b <;> decide +kernel
theorem wd_eq (b : Bool) : PyData.eqv (.str (wd b)) (.str "x") = b := by cases b <;> decide +kernel
theorem x_shaped : SeqAt.shaped (.str "x") = true := by decide +kernel
theorem wd_in (b : Bool) : inV (.str (wd b)) ((["x", "y"] : List Str).map V.str) = true := by cases b <;> decide +kernel
section
variable {G : Glb} {k : Nat} {N : List Str} {sc : Scope} {C : Ctx G k N sc} {M : Addr → Prop} {δ δ1 δ2 : DE}
variable {a b c e tg : Expr} {es : List Expr} {pos p p2 : Pos} {i j : Int} {d d1 d2 : PyData} {ds : List PyData}
theorem pv_fdivZ (hc : CDivZ i j) (ha : PV C M δ a (.int i)) (hb : PV C M δ b (.int j)) : PV C M δ (.BinOp a .FloorDiv b pos) (.int (i.fdiv j)) := pv_op (fun _ => op_fdivZ) (rd_I hc) ha hb
/-- a tuple of names for a target -/
theorem pv_lcT {wi : TI} {m n : Nat} {dsi : Nat → List PyData} {out : Nat → PyData} {keep : Nat → Bool} {kk : Nat} (own : List (Str × Nat)) {elt iter : Expr} {ifs : List Expr} {scope : Scope} (hi : ∀ m, PI (C.X m) (.Tuple es kk p) iter wi) (ok : BlkOk N sc scope own) (hg : ∀ m, PGs ((C.blk scope).X m) es (gNames (own.map (·.2)))) (hn : m < 1000000) (hw : Wlk G.K M wi δ m (fun i => .tuple (dsi i)))
    (hl : ∀ i, i < m → (own.map (·.2)).length = (dsi i).length) (hln : ∀ i, i < m → (dsi i).length = n)
    (hk : ∀ i, i < m → ∀ M', PTsD (C.blk scope) M' (setAll (wipeD δ (own.map (·.2))) (own.map (·.2)) (dsi i)) ifs (keep i))
    (he : ∀ i, i < m → keep i = true → ∀ M', PV (C.blk scope) M' (setAll (wipeD δ (own.map (·.2))) (own.map (·.2)) (dsi i)) elt (out i))
    (hne : ∀ env, (assignEach es env).length = n := by intro _; rfl) (hst : ∀ env, (assignEach es env).findIdx? (·.1) = none := by intro _; rfl) (hs : NoFold iter := by intro _ _; rfl) : PV C M δ (.ListComp elt [⟨.Tuple es kk p, iter, ifs, 0⟩] scope pos) (.list (made keep out m)) :=
  pv_lc own (fun i => setAll (wipeD δ (own.map (·.2))) (own.map (·.2)) (dsi i)) hi ok (pg_tupC hg hne hst) hn hw (fun i hi M' => tw_tup (hl i hi) (hln i hi) (fun n h => h)) hk he hs
end
section
variable {G : Glb}
/-! ### steps and chains that are ones -/
def FIsStep : List PyData → PyData → Prop := fun ds d => ∃ s : Stp, ds = [stD s] ∧ 0 < s.2.2 ∧ d = .bool true
theorem ok_is_step (Z : Free G) (R : Raw G "is_step" s_is_step) (D1 : Def G "is_integer" 1 ["value"] (SpD G.K FIsInt)) : Def G "is_step" 2 ["value"] (SpD G.K FIsStep) := by
  refine def_mk R sc_is_step (by rintro ds d ⟨t, rfl, _, rfl⟩; rfl) (fun _ _ _ _ _ _ us hl => match us, hl with | [_], _ => rfl) fun C M hc ds d hF => .inl ?_
  obtain ⟨s, rfl, h0, rfl⟩ := hF
  refine sd_cons (s1_ifF (PWD.ptd (pwd_or_f (ptd_not (ptd_val (pv_isi kb_tt PyProof.Rows.boot_tuple (pv_var 0 rfl rfl) Z.isi Z.tuple))) (pwd_or_f (PTD.is (ptd_ne rfl rfl (pv_lenT (pv_var 0 rfl rfl) Z.len) pv_int) rfl) (pwd_or_f (ptd_not (ptd_val (pv_isi (d := .str (wd s.1)) kb_ss PyProof.Rows.boot_str (pv_ixT (pv_var 0 rfl rfl) pv_int rfl) Z.isi Z.str)))
    (pwd_or1 (PTD.is (ptd_notIn (ss := ["x", "y"]) (wd_in s.1) (pv_ixT (pv_var 0 rfl rfl) pv_int rfl) (pv_tup (pad_cons (pv_str) (pad_cons (pv_str) pad_nil)))) rfl)))))) sd_nil) (sd_ret (s1_ret (pv_and_t (pv_call D1 ⟨s.2.1, rfl, rfl⟩ (pad_cons (pv_ixT (pv_var 0 rfl rfl) pv_int rfl) pad_nil)) (pv_and_t (pv_call D1 ⟨s.2.2, rfl, rfl⟩ (pad_cons (pv_ixT (pv_var 0 rfl rfl) pv_int rfl) pad_nil)) (pv_one (PV.is (pv_gt (i := s.2.2) (pv_ixT (pv_var 0 rfl rfl) pv_int rfl) pv_int) (congrArg _ (decide_eq_true h0))))))))
def ChOk (ss : List Stp) : Prop := ss.length ≤ 8 ∧ ∀ s ∈ ss, StpOk s
theorem nth_st {ss : List Stp} {i : Nat} (h : i < (ss.map stD).length) : ∃ s, ss[i]? = some s ∧ s ∈ ss ∧ nth (ss.map stD) i = stD s := by
  rw [List.length_map] at h
  exact ⟨ss[i], List.getElem?_eq_getElem h, List.getElem_mem h, nth_map stD h⟩
def FNeedCh : List PyData → PyData → Prop := fun ds d => ∃ ss : List Stp, ds = [chD ss] ∧ ChOk ss ∧ d = .none
theorem ok_need_chain (Z : Free G) (R : Raw G "need_chain" s_need_chain) (D1 : Def G "is_step" 2 ["value"] (SpD G.K FIsStep)) : Def G "need_chain" 3 ["chain"] (SpD G.K FNeedCh) := by
  refine def_mk R sc_need_chain (by rintro ds d ⟨n, rfl, _, rfl⟩; rfl) (fun _ _ _ _ _ _ us hl => match us, hl with | [_], _ => rfl) fun C M hc ds d hF => .inr ?_
  obtain ⟨ss, rfl, ⟨hl, ho⟩, rfl⟩ := hF
  obtain ⟨tX, hX⟩ := Z.mostS
  have e1 : (ss.map stD).length = ss.length := List.length_map ..
  refine ⟨rfl, _, sd_cons (s1_ifF (PWD.ptd (pwd_or_f (ptd_not (ptd_val (pv_isi kb_ll PyProof.Rows.boot_list (pv_var 0 rfl rfl) Z.isi Z.list))) (pwd_or1 (PTD.is (ptd_gt (pv_lenL (ds := ss.map stD) (pv_var 0 rfl rfl) Z.len) (pv_globI hX)) (decide_eq_false (by rw [e1]; omega)))))) sd_nil)
    (sd_cons (s1_for (n := (ss.map stD).length) (items := fun i => .tuple [.int (i : Int), nth (ss.map stD) i]) (g := gTup G.K 2 (gNames [1, 2])) (fun i => [some (chD ss), none, none])
      (fun i => [some (chD ss), some (.int (i : Int)), some (nth (ss.map stD) i)]) (pi_enumC Z.enum) (wlk_enum (pad_cons ((pv_var 0 rfl rfl)) pad_nil)) (pg_tupC (pgs_consC 1 rfl (.inl rfl) (.inr rfl) (pgs_consC 2 rfl (.inl rfl) (.inr rfl) pgs_nilC)) (fun _ => rfl) (fun _ => rfl)) rfl (fun i hi => tg_tup rfl rfl) (fun i hi => ?_)) sd_nil)⟩
  obtain ⟨s, h1, h2, h3⟩ := nth_st hi
  rw [h3]
  exact SD.weak (sd_cons (s1_ifF (ptd_not (ptd_val (pv_call D1 ⟨s, rfl, (ho s h2).d0, rfl⟩ (pad_cons ((pv_var 2 rfl rfl)) pad_nil)))) sd_nil) sd_nil) (wk_same (wk_none (wk_none wk_nil)))
def FIsCh : List PyData → PyData → Prop := fun ds d => ∃ ss : List Stp, ds = [chD ss] ∧ ChOk ss ∧ d = .bool true
theorem ok_is_chain (Z : Free G) (R : Raw G "is_chain" s_is_chain) (D1 : Def G "is_step" 2 ["value"] (SpD G.K FIsStep)) : Def G "is_chain" 3 ["value"] (SpD G.K FIsCh) := by
  refine def_mk R sc_is_chain (by rintro ds d ⟨n, rfl, _, rfl⟩; rfl) (fun _ _ _ _ _ _ us hl => match us, hl with | [_], _ => rfl) fun C M hc ds d hF => .inl ?_
  obtain ⟨ss, rfl, ⟨hl, ho⟩, rfl⟩ := hF
  obtain ⟨tX, hX⟩ := Z.mostS
  have e1 : (ss.map stD).length = ss.length := List.length_map ..
  refine sd_ret (s1_ret (pv_and_t (pv_isi kb_ll PyProof.Rows.boot_list (pv_var 0 rfl rfl) Z.isi Z.list) (pv_and_t (PV.is (pv_le (pv_lenL (ds := ss.map stD) (pv_var 0 rfl rfl) Z.len) (pv_globI hX)) (congrArg _ (decide_eq_true (by rw [e1]; omega)))) (pv_one (PV.is (pv_all (bs := List.replicate ss.length true) ?lc Z.all) (by simp))))))
  refine PV.is (pv_lc1 (m := (ss.map stD).length) 1 (keep := fun _ => true) (items := nth (ss.map stD)) (out := fun _ => .bool true) pi_listC (blkOk_by (by decide +kernel)) rfl rfl (by rw [e1]; omega) (wlk_list (pv_var 0 rfl rfl)) (fun i hi M' => ptsd_nil) fun i hi _ M' => ?_) ?_
  · obtain ⟨s, h1, h2, h3⟩ := nth_st hi
    rw [h3]
    exact pv_call D1 ⟨s, rfl, (ho s h2).d0, rfl⟩ (pad_cons ((pv_var 1 rfl rfl)) pad_nil)
  · rw [made_const, e1, List.map_replicate]
/-! ### one step -/
def FStepped : List PyData → PyData → Prop := fun ds d => ∃ (s : Stp) (z : Px), ds = [stD s, pxD z] ∧ StpOk s ∧ PxB 3000 z ∧ d = pxD (stepM s z)
theorem ok_stepped (R : Raw G "stepped" s_stepped) (D1 : Def G "nearest" 1 ["number", "bottom"] (SpD G.K FNear)) : Def G "stepped" 2 ["step", "pixel"] (SpD G.K FStepped) := by
  refine def_mk R sc_stepped (by rintro ds d ⟨s, z, rfl, _, _, rfl⟩; rfl) (fun _ _ _ _ _ _ us hl => match us, hl with | [_, _], _ => rfl) fun C M hc ds d hF => .inl ?_
  obtain ⟨⟨w, n, q⟩, z, rfl, hs, hz, rfl⟩ := hF
  refine sd_cons (s1_unp (pgs_consC 2 rfl (.inl rfl) (.inr rfl) (pgs_consC 3 rfl (.inl rfl) (.inr rfl) (pgs_consC 4 rfl (.inl rfl) (.inr rfl) pgs_nilC))) rfl rfl (pv_var 0 rfl rfl)) (sd_cons (s1_unp (pgs_consC 5 rfl (.inl rfl) (.inr rfl) (pgs_consC 6 rfl (.inl rfl) (.inr rfl) pgs_nilC)) rfl rfl (pv_var 1 rfl rfl)) (sd_ret (s1_ret ?_)))
  cases w with
  | true => exact pv_ifT (PTD.is (ptd_eq (wd_shaped true) x_shaped (pv_var 2 rfl rfl) pv_str) (wd_eq true)) (pv_tup (pad_cons (pv_add (i := z.1) (j := rnd (n * z.2) q) (pv_var 5 rfl rfl) (pv_call D1 ⟨n * z.2, q, rfl, hs.d0, (hs.n.mul hz.2).mono (by decide), hs.d.mono (by decide), rfl⟩ (pad_cons (pv_mul (cmul hs.n hz.2) (pv_var 3 rfl rfl) (pv_var 6 rfl rfl)) (pad_cons ((pv_var 4 rfl rfl)) pad_nil)))) (pad_cons (pv_var 6 rfl rfl) pad_nil)))
  | false => exact pv_ifF (PTD.is (ptd_eq (wd_shaped false) x_shaped (pv_var 2 rfl rfl) pv_str) (wd_eq false)) (pv_tup (pad_cons (pv_var 5 rfl rfl) (pad_cons (pv_add (i := z.2) (j := rnd (n * z.1) q) (pv_var 6 rfl rfl) (pv_call D1 ⟨n * z.1, q, rfl, hs.d0, (hs.n.mul hz.1).mono (by decide), hs.d.mono (by decide), rfl⟩ (pad_cons (pv_mul (cmul hs.n hz.1) (pv_var 3 rfl rfl) (pv_var 5 rfl rfl)) (pad_cons ((pv_var 4 rfl rfl)) pad_nil)))) pad_nil)))
def FSteppedB : List PyData → PyData → Prop := fun ds d => ∃ (s : Stp) (z : Px), ds = [stD s, pxD z] ∧ StpOk s ∧ PxB 3000 z ∧ d = pxD (stepB s z)
theorem ok_stepped_back (R : Raw G "stepped_back" s_stepped_back) (D1 : Def G "nearest" 1 ["number", "bottom"] (SpD G.K FNear)) : Def G "stepped_back" 2 ["step", "pixel"] (SpD G.K FSteppedB) := by
  refine def_mk R sc_stepped_back (by rintro ds d ⟨s, z, rfl, _, _, rfl⟩; rfl) (fun _ _ _ _ _ _ us hl => match us, hl with | [_, _], _ => rfl) fun C M hc ds d hF => .inl ?_
  obtain ⟨⟨w, n, q⟩, z, rfl, hs, hz, rfl⟩ := hF
  refine sd_cons (s1_unp (pgs_consC 2 rfl (.inl rfl) (.inr rfl) (pgs_consC 3 rfl (.inl rfl) (.inr rfl) (pgs_consC 4 rfl (.inl rfl) (.inr rfl) pgs_nilC))) rfl rfl (pv_var 0 rfl rfl)) (sd_cons (s1_unp (pgs_consC 5 rfl (.inl rfl) (.inr rfl) (pgs_consC 6 rfl (.inl rfl) (.inr rfl) pgs_nilC)) rfl rfl (pv_var 1 rfl rfl)) (sd_ret (s1_ret ?_)))
  cases w with
  | true => exact pv_ifT (PTD.is (ptd_eq (wd_shaped true) x_shaped (pv_var 2 rfl rfl) pv_str) (wd_eq true)) (pv_tup (pad_cons (pv_sub (i := z.1) (j := rnd (n * z.2) q) (pv_var 5 rfl rfl) (pv_call D1 ⟨n * z.2, q, rfl, hs.d0, (hs.n.mul hz.2).mono (by decide), hs.d.mono (by decide), rfl⟩ (pad_cons (pv_mul (cmul hs.n hz.2) (pv_var 3 rfl rfl) (pv_var 6 rfl rfl)) (pad_cons ((pv_var 4 rfl rfl)) pad_nil)))) (pad_cons (pv_var 6 rfl rfl) pad_nil)))
  | false => exact pv_ifF (PTD.is (ptd_eq (wd_shaped false) x_shaped (pv_var 2 rfl rfl) pv_str) (wd_eq false)) (pv_tup (pad_cons (pv_var 5 rfl rfl) (pad_cons (pv_sub (i := z.2) (j := rnd (n * z.1) q) (pv_var 6 rfl rfl) (pv_call D1 ⟨n * z.1, q, rfl, hs.d0, (hs.n.mul hz.1).mono (by decide), hs.d.mono (by decide), rfl⟩ (pad_cons (pv_mul (cmul hs.n hz.1) (pv_var 3 rfl rfl) (pv_var 5 rfl rfl)) (pad_cons ((pv_var 4 rfl rfl)) pad_nil)))) pad_nil)))
/-! ### a chain's steps one after the other -/
theorem foldl_take {β : Type} (f : β → Stp → β) (z : β) {ss : List Stp} {i : Nat} {s : Stp} (h : ss[i]? = some s) : (ss.take (i + 1)).foldl f z = f ((ss.take i).foldl f z) s := by
  rw [List.take_succ, h, List.foldl_append]
  rfl
def FAfter : List PyData → PyData → Prop := fun ds d => ∃ (ss : List Stp) (z : Px), ds = [chD ss, pxD z] ∧ ChOk ss ∧ PxB 1000 z ∧ d = pxD (afterM ss z)
theorem take_mem {ss : List Stp} {i : Nat} (h : ∀ s ∈ ss, StpOk s) : ∀ s ∈ ss.take i, StpOk s := fun s hs => h s (List.mem_of_mem_take hs)
theorem ok_after_steps (R : Raw G "after_steps" s_after_steps) (D1 : Def G "stepped" 2 ["step", "pixel"] (SpD G.K FStepped)) : Def G "after_steps" 3 ["chain", "pixel"] (SpD G.K FAfter) := by
  refine def_mk R sc_after_steps (by rintro ds d ⟨s, z, rfl, _, _, rfl⟩; rfl) (fun _ _ _ _ _ _ us hl => match us, hl with | [_, _], _ => rfl) fun C M hc ds d hF => .inl ?_
  obtain ⟨ss, z, rfl, ⟨hl, ho⟩, hz, rfl⟩ := hF
  have e1 : (ss.map stD).length = ss.length := List.length_map ..
  refine sd_cons (s1_for (n := (ss.map stD).length) (items := nth (ss.map stD)) (g := gName 2) (fun i => [some (chD ss), some (pxD (afterM (ss.take i) z)), none]) (fun i => [some (chD ss), some (pxD (afterM (ss.take i) z)), some (nth (ss.map stD) i)])
    pi_listC (wlk_list (pv_var 0 rfl rfl)) (pg_nameC 2 rfl (.inl rfl) (.inr rfl)) rfl (fun i hi => tg_name 2) (fun i hi => ?_)) (sd_ret (s1_ret (PV.is (pv_var 1 rfl rfl) ?_)))
  · obtain ⟨s, h1, h2, h3⟩ := nth_st hi
    rw [h3]
    have e2 : afterM (ss.take (i + 1)) z = stepM s (afterM (ss.take i) z) := foldl_take (fun z s => stepM s z) z h1
    rw [e2]
    refine SD.weak (sd_cons (s1_asg 1 (pv_call D1 ⟨s, afterM (ss.take i) z, rfl, ho s h2, (afterM_bd (take_mem ho) hz).mono ?_, rfl⟩ (pad_cons ((pv_var 2 rfl rfl)) (pad_cons ((pv_var 1 rfl rfl)) pad_nil)))) sd_nil) (wk_same (wk_same (wk_none wk_nil)))
    rw [e1] at hi
    have : (ss.take i).length ≤ 8 := by
      rw [List.length_take]
      omega
    omega
  · rw [e1, List.take_length]
def FBefore : List PyData → PyData → Prop := fun ds d => ∃ (ss : List Stp) (z : Px), ds = [chD ss, pxD z] ∧ ChOk ss ∧ PxB 1000 z ∧ d = pxD (beforeM ss z)
theorem ok_before_steps (R : Raw G "before_steps" s_before_steps) (D1 : Def G "stepped_back" 2 ["step", "pixel"] (SpD G.K FSteppedB)) : Def G "before_steps" 3 ["chain", "pixel"] (SpD G.K FBefore) := by
  refine def_mk R sc_before_steps (by rintro ds d ⟨s, z, rfl, _, _, rfl⟩; rfl) (fun _ _ _ _ _ _ us hl => match us, hl with | [_, _], _ => rfl) fun C M hc ds d hF => .inl ?_
  obtain ⟨ss, z, rfl, ⟨hl, ho⟩, hz, rfl⟩ := hF
  have e1 : (ss.reverse.map stD).length = ss.length := by rw [List.length_map, List.length_reverse]
  have ho' : ∀ s ∈ ss.reverse, StpOk s := fun s hs => ho s (List.mem_reverse.mp hs)
  refine sd_cons (s1_for (n := (ss.reverse.map stD).length) (items := nth (ss.reverse.map stD)) (g := gName 2) (fun i => [some (chD ss), some (pxD ((ss.reverse.take i).foldl (fun z s => stepB s z) z)), none]) (fun i => [some (chD ss), some (pxD ((ss.reverse.take i).foldl (fun z s => stepB s z) z)), some (nth (ss.reverse.map stD) i)])
    pi_listC (wlk_list (PV.is (pv_revL (ds := ss.map stD) (pv_var 0 rfl rfl)) (by rw [List.map_reverse]))) (pg_nameC 2 rfl (.inl rfl) (.inr rfl)) rfl (fun i hi => tg_name 2) (fun i hi => ?_)) (sd_ret (s1_ret (PV.is (pv_var 1 rfl rfl) ?_)))
  · obtain ⟨s, h1, h2, h3⟩ := nth_st hi
    rw [h3]
    have e2 := foldl_take (fun z s => stepB s z) z h1
    rw [e2]
    refine SD.weak (sd_cons (s1_asg 1 (pv_call D1 ⟨s, _, rfl, ho' s h2, (foldl_bd (fun s z m a b => stepB_bd a b) _ z _ (take_mem ho') hz).mono ?_, rfl⟩ (pad_cons ((pv_var 2 rfl rfl)) (pad_cons ((pv_var 1 rfl rfl)) pad_nil)))) sd_nil) (wk_same (wk_same (wk_none wk_nil)))
    rw [e1] at hi
    have : (ss.reverse.take i).length ≤ 8 := by
      rw [List.length_take]
      omega
    omega
  · rw [e1, ← List.length_reverse, List.take_length]
    rfl
theorem ok_after_chain (R : Raw G "after_chain" s_after_chain) (D1 : Def G "need_chain" 3 ["chain"] (SpD G.K FNeedCh)) (D2 : Def G "need_pixel" 4 ["pixel"] (SpD G.K FNeedPx)) (D3 : Def G "after_steps" 3 ["chain", "pixel"] (SpD G.K FAfter)) : Def G "after_chain" 5 ["chain", "pixel"] (SpD G.K FAfter) := by
  refine def_mk R sc_after_chain (by rintro ds d ⟨s, z, rfl, _, _, rfl⟩; rfl) (fun _ _ _ _ _ _ us hl => match us, hl with | [_, _], _ => rfl) fun C M hc ds d hF => .inl ?_
  obtain ⟨ss, z, rfl, ho, hz, rfl⟩ := hF
  exact sd_cons (s1_expr (pv_call D1 ⟨ss, rfl, ho, rfl⟩ (pad_cons ((pv_var 0 rfl rfl)) pad_nil))) (sd_cons (s1_expr (pv_call D2 ⟨z, rfl, rfl⟩ (pad_cons ((pv_var 1 rfl rfl)) pad_nil))) (sd_ret (s1_ret (pv_call D3 ⟨ss, z, rfl, ho, hz, rfl⟩ (pad_cons ((pv_var 0 rfl rfl)) (pad_cons ((pv_var 1 rfl rfl)) pad_nil))))))
theorem ok_before_chain (R : Raw G "before_chain" s_before_chain) (D1 : Def G "need_chain" 3 ["chain"] (SpD G.K FNeedCh)) (D2 : Def G "need_pixel" 4 ["pixel"] (SpD G.K FNeedPx)) (D3 : Def G "before_steps" 3 ["chain", "pixel"] (SpD G.K FBefore)) : Def G "before_chain" 5 ["chain", "pixel"] (SpD G.K FBefore) := by
  refine def_mk R sc_before_chain (by rintro ds d ⟨s, z, rfl, _, _, rfl⟩; rfl) (fun _ _ _ _ _ _ us hl => match us, hl with | [_, _], _ => rfl) fun C M hc ds d hF => .inl ?_
  obtain ⟨ss, z, rfl, ho, hz, rfl⟩ := hF
  exact sd_cons (s1_expr (pv_call D1 ⟨ss, rfl, ho, rfl⟩ (pad_cons ((pv_var 0 rfl rfl)) pad_nil))) (sd_cons (s1_expr (pv_call D2 ⟨z, rfl, rfl⟩ (pad_cons ((pv_var 1 rfl rfl)) pad_nil))) (sd_ret (s1_ret (pv_call D3 ⟨ss, z, rfl, ho, hz, rfl⟩ (pad_cons ((pv_var 0 rfl rfl)) (pad_cons ((pv_var 1 rfl rfl)) pad_nil))))))
end
end TP

/-! K9: matrices of chains -/
namespace TP
open PySem PySem.Spec PyProof.Rows L2
theorem mt_shaped (m : Mt) : SeqAt.shaped (mtD m) = true := rfl
theorem mt_eqv (m : Mt) : PyData.eqv (mtD m) (mtD m) = true := SeqAt.eqv_refl _ rfl
section
variable {G : Glb}
/-! ### lowest_matrix -/
def FLow : List PyData → PyData → Prop := fun ds d => ∃ m : Mt, ds = [mtD m] ∧ 0 < m.e ∧ MtB 6000 m ∧ d = mtD m.low
def gs (m : Mt) : Nat → Int
  | 0 => 0
  | i + 1 => (Int.gcd (gs m i) (m.L.getD i 0) : Int)
theorem ok_lowest_matrix (Z : Free G) (R : Raw G "lowest_matrix" s_lowest_matrix) (D1 : Def G "common" 1 ["one", "other"] (SpD G.K FCommon)) : Def G "lowest_matrix" 2 ["numbers"] (SpD G.K FLow) := by
  refine def_mk R sc_lowest_matrix (by rintro ds d ⟨s, rfl, _, _, rfl⟩; rfl) (fun _ _ _ _ _ _ us hl => match us, hl with | [_], _ => rfl) fun C M hc ds d hF => .inl ?_
  obtain ⟨m, rfl, h0, hb, rfl⟩ := hF
  have hp := Mt.g_pos h0
  have hg := cdiv (i := m.a) hp (dvd_bd h0 hp m.g_dvd.2.2.2.2 hb.2.2.2.2)
  have hgs : ∀ i, CDivW i m.g := fun i => hg
  refine sd_cons (s1_asg 1 pv_int rfl (.inr rfl) (.inl hc)) (sd_cons (s1_for (n := 5) (items := nth [.int m.a, .int m.b, .int m.c, .int m.d, .int m.e]) (g := gName 2) (fun i => [some (mtD m), some (.int (gs m i)), none]) (fun i => [some (mtD m), some (.int (gs m i)), some (nth [.int m.a, .int m.b, .int m.c, .int m.d, .int m.e] i)])
    pi_tupC (wlk_tup (ds := [.int m.a, .int m.b, .int m.c, .int m.d, .int m.e]) (pv_var 0 rfl rfl)) (pg_nameC 2 rfl (.inl rfl) (.inr rfl)) rfl (fun i hi => tg_name 2) (fun i hi => SD.weak (δ1 := [some (mtD m), some (.int (gs m (i + 1))), some (nth [.int m.a, .int m.b, .int m.c, .int m.d, .int m.e] i)]) ?_ (wk_same (wk_same (wk_none wk_nil))))) (sd_ret (s1_ret (pv_tupleL (ds := [.int (m.a / m.g), .int (m.b / m.g), .int (m.c / m.g), .int (m.d / m.g), .int (m.e / m.g)]) ?_ Z.tuple))))
  · match i, hi with
    | 0, _ => exact sd_cons (s1_asg 1 (pv_call D1 ⟨_, _, rfl, rfl⟩ (pad_cons ((pv_var 1 rfl rfl)) (pad_cons ((pv_var 2 rfl rfl)) pad_nil))) rfl (.inr rfl) (.inl hc)) sd_nil
    | 1, _ => exact sd_cons (s1_asg 1 (pv_call D1 ⟨_, _, rfl, rfl⟩ (pad_cons ((pv_var 1 rfl rfl)) (pad_cons ((pv_var 2 rfl rfl)) pad_nil))) rfl (.inr rfl) (.inl hc)) sd_nil
    | 2, _ => exact sd_cons (s1_asg 1 (pv_call D1 ⟨_, _, rfl, rfl⟩ (pad_cons ((pv_var 1 rfl rfl)) (pad_cons ((pv_var 2 rfl rfl)) pad_nil))) rfl (.inr rfl) (.inl hc)) sd_nil
    | 3, _ => exact sd_cons (s1_asg 1 (pv_call D1 ⟨_, _, rfl, rfl⟩ (pad_cons ((pv_var 1 rfl rfl)) (pad_cons ((pv_var 2 rfl rfl)) pad_nil))) rfl (.inr rfl) (.inl hc)) sd_nil
    | 4, _ => exact sd_cons (s1_asg 1 (pv_call D1 ⟨_, _, rfl, rfl⟩ (pad_cons ((pv_var 1 rfl rfl)) (pad_cons ((pv_var 2 rfl rfl)) pad_nil))) rfl (.inr rfl) (.inl hc)) sd_nil
  · refine PV.is (pv_lc1 (m := 5) 2 (keep := fun _ => true) (items := nth [.int m.a, .int m.b, .int m.c, .int m.d, .int m.e]) (out := nth [.int (m.a / m.g), .int (m.b / m.g), .int (m.c / m.g), .int (m.d / m.g), .int (m.e / m.g)]) pi_tupC (blkOk_by (by decide +kernel)) rfl rfl (by decide) (wlk_tup (ds := [.int m.a, .int m.b, .int m.c, .int m.d, .int m.e]) (pv_var 0 rfl rfl)) (fun i hi M' => ptsd_nil) fun i hi _ M' => ?_) rfl
    match i, hi with
    | 0, _ => exact pv_fdiv (i := m.a) (j := m.g) (hgs _) (pv_var 2 rfl rfl) (pv_var 1 rfl rfl)
    | 1, _ => exact pv_fdiv (i := m.b) (j := m.g) (hgs _) (pv_var 2 rfl rfl) (pv_var 1 rfl rfl)
    | 2, _ => exact pv_fdiv (i := m.c) (j := m.g) (hgs _) (pv_var 2 rfl rfl) (pv_var 1 rfl rfl)
    | 3, _ => exact pv_fdiv (i := m.d) (j := m.g) (hgs _) (pv_var 2 rfl rfl) (pv_var 1 rfl rfl)
    | 4, _ => exact pv_fdiv (i := m.e) (j := m.g) (hgs _) (pv_var 2 rfl rfl) (pv_var 1 rfl rfl)
/-! ### is_matrix -/
def FIsMt : List PyData → PyData → Prop := fun ds d => ∃ m : Mt, ds = [mtD m] ∧ MtOk m ∧ MtB 5000 m ∧ d = .bool true
theorem ok_is_matrix (R : Raw G "is_matrix" s_is_matrix) (D1 : Def G "are_integers" 2 ["value", "many"] (SpD G.K FAreInt)) (D2 : Def G "lowest_matrix" 2 ["numbers"] (SpD G.K FLow)) : Def G "is_matrix" 3 ["value"] (SpD G.K FIsMt) := by
  refine def_mk R sc_is_matrix (by rintro ds d ⟨s, rfl, _, _, rfl⟩; rfl) (fun _ _ _ _ _ _ us hl => match us, hl with | [_], _ => rfl) fun C M hc ds d hF => .inl ?_
  obtain ⟨m, rfl, ho, ⟨b1, b2, b3, b4, b5⟩, rfl⟩ := hF
  refine sd_cons (s1_ifF (PWD.ptd (pwd_or_f (ptd_not (ptd_val (pv_call D1 (areI_mt m) (pad_cons ((pv_var 0 rfl rfl)) (pad_cons (pv_int) pad_nil))))) (pwd_or_f (PTD.is (ptd_lt (i := m.e) (pv_ixT (pv_var 0 rfl rfl) pv_int rfl) pv_int) (decide_eq_false (by have := ho.e0; omega)))
    (pwd_or1 (PTD.is (ptd_ne (d1 := .int (m.a * m.d - m.b * m.c)) (d2 := .int (m.e * m.e)) rfl rfl (pv_sub (pv_mul (cmul b1 b4) (pv_ixT (pv_var 0 rfl rfl) pv_int rfl) (pv_ixT (pv_var 0 rfl rfl) pv_int rfl)) (pv_mul (cmul b2 b3) (pv_ixT (pv_var 0 rfl rfl) pv_int rfl) (pv_ixT (pv_var 0 rfl rfl) pv_int rfl))) (pv_mul (cmul b5 b5) (pv_ixT (pv_var 0 rfl rfl) pv_int rfl) (pv_ixT (pv_var 0 rfl rfl) pv_int rfl))) (by rw [eqI_true ho.det]; rfl)))))) sd_nil) (sd_ret (s1_ret ?_))
  refine PV.is (pv_eq (mt_shaped _) (mt_shaped m) (pv_call D2 ⟨m, rfl, ho.e0, MtB.mono ⟨b1, b2, b3, b4, b5⟩ (by decide), rfl⟩ (pad_cons ((pv_var 0 rfl rfl)) pad_nil)) (pv_var 0 rfl rfl)) ?_
  rw [low_of ho.g, mt_eqv]
def FNeedMt : List PyData → PyData → Prop := fun ds d => ∃ m : Mt, ds = [mtD m] ∧ MtOk m ∧ MtB 5000 m ∧ d = .none
theorem ok_need_matrix (R : Raw G "need_matrix" s_need_matrix) (D1 : Def G "is_matrix" 3 ["value"] (SpD G.K FIsMt)) : Def G "need_matrix" 4 ["matrix"] (SpD G.K FNeedMt) := by
  refine def_mk R sc_need_matrix (by rintro ds d ⟨n, rfl, _, _, rfl⟩; rfl) (fun _ _ _ _ _ _ us hl => match us, hl with | [_], _ => rfl) fun C M hc ds d hF => .inr ?_
  obtain ⟨t, rfl, ht, hb, rfl⟩ := hF
  exact ⟨rfl, _, sd_cons (s1_ifF (ptd_not (ptd_val (pv_call D1 ⟨t, rfl, ht, hb, rfl⟩ (pad_cons ((pv_var 0 rfl rfl)) pad_nil)))) sd_nil) sd_nil⟩
/-! ### matrix_of -/
def FMat : List PyData → PyData → Prop := fun ds d => ∃ ss : List Stp, ds = [chD ss] ∧ ChOk ss ∧ d = mtD (matM ss)
def matT (ss : List Stp) (i : Nat) : Mt := (ss.take i).foldl (fun m s => (m.st s).low) Mt.one
theorem matT_ok {ss : List Stp} (h : ∀ s ∈ ss, StpOk s) : ∀ i, 0 < (matT ss i).e ∧ MtB (2 + 201 * (ss.take i).length) (matT ss i) := by
  have key : ∀ (rs : List Stp) (m : Mt) (k : Nat), (∀ s ∈ rs, StpOk s) → 0 < m.e → MtB k m → 0 < (rs.foldl (fun m s => (m.st s).low) m).e ∧ MtB (k + 201 * rs.length) (rs.foldl (fun m s => (m.st s).low) m) := by
    intro rs
    induction rs with
    | nil => exact fun m k _ h1 h2 => ⟨h1, h2⟩
    | cons s rs ih =>
      intro m k hs h1 h2
      have hs0 := hs s List.mem_cons_self
      have he : 0 < (m.st s).e := by
        rw [Mt.st_e]
        exact Int.mul_pos hs0.d0 h1
      have := ih (m.st s).low (k + 201) (fun t ht => hs t (List.mem_cons_of_mem _ ht)) (Mt.low_e he) ((h2.st hs0).low he)
      refine ⟨this.1, this.2.mono ?_⟩
      rw [List.length_cons]
      omega
  intro i
  exact key (ss.take i) Mt.one 2 (take_mem h) (by decide) ⟨by unfold Bd; decide, by unfold Bd; decide, by unfold Bd; decide, by unfold Bd; decide, by unfold Bd; decide⟩
def sAt (ss : List Stp) (i : Nat) : Stp := ss.getD i (true, 0, 1)
theorem sAt_eq {ss : List Stp} {i : Nat} {s : Stp} (h : ss[i]? = some s) : sAt ss i = s := by
  unfold sAt
  rw [List.getD_eq_getElem?_getD, h]
  rfl
theorem ok_matrix_of_steps (R : Raw G "matrix_of_steps" s_matrix_of_steps) (D1 : Def G "lowest_matrix" 2 ["numbers"] (SpD G.K FLow)) : Def G "matrix_of_steps" 3 ["chain"] (SpD G.K FMat) := by
  refine def_mk R sc_matrix_of_steps (by rintro ds d ⟨n, rfl, _, rfl⟩; rfl) (fun _ _ _ _ _ _ us hl => match us, hl with | [_], _ => rfl) fun C M hc ds d hF => .inl ?_
  obtain ⟨ss, rfl, ⟨hl, ho⟩, rfl⟩ := hF
  have e1 : (ss.map stD).length = ss.length := List.length_map ..
  refine sd_cons (s1_asg 1 (pv_tup (pad_cons (pv_int) (pad_cons (pv_int) (pad_cons (pv_int) (pad_cons (pv_int) (pad_cons (pv_int) pad_nil))))))) (sd_cons (s1_for (n := (ss.map stD).length) (items := nth (ss.map stD)) (g := gTup G.K 3 (gNames [2, 3, 4])) (fun i => [some (chD ss), some (mtD (matT ss i)), none, none, none, none, none, none, none, none])
    (fun i => [some (chD ss), some (mtD (matT ss i)), some (.str (wd (sAt ss i).1)), some (.int (sAt ss i).2.1), some (.int (sAt ss i).2.2), none, none, none, none, none]) pi_listC (wlk_list (pv_var 0 rfl rfl)) (pg_tupC (pgs_consC 2 rfl (.inl rfl) (.inr rfl) (pgs_consC 3 rfl (.inl rfl) (.inr rfl) (pgs_consC 4 rfl (.inl rfl) (.inr rfl) pgs_nilC))) (fun _ => rfl) (fun _ => rfl)) rfl (fun i hi => ?_) (fun i hi => ?_)) (sd_ret (s1_ret (PV.is (pv_var 1 rfl rfl) ?_))))
  · obtain ⟨s, h1, h2, h3⟩ := nth_st hi
    rw [h3, sAt_eq h1]
    exact tg_tup (ds := [.str (wd s.1), .int s.2.1, .int s.2.2]) rfl rfl
  · obtain ⟨⟨w, n, q⟩, h1, h2, h3⟩ := nth_st hi
    rw [sAt_eq h1]
    have hs := ho _ h2
    obtain ⟨t1, t2⟩ := matT_ok ho i
    have e2 : matT ss (i + 1) = ((matT ss i).st (w, n, q)).low := foldl_take (fun (m : Mt) (s : Stp) => (m.st s).low) Mt.one h1
    rw [e2]
    rw [e1] at hi
    have hb : MtB 1700 (matT ss i) := t2.mono (by
      have : (ss.take i).length ≤ 8 := by
        rw [List.length_take]
        omega
      omega)
    have he : 0 < ((matT ss i).st (w, n, q)).e := by
      rw [Mt.st_e]
      exact Int.mul_pos hs.d0 t1
    have hb2 : MtB 6000 ((matT ss i).st (w, n, q)) := (hb.st hs).mono (by decide)
    obtain ⟨b1, b2, b3, b4, b5⟩ := hb
    generalize matT ss i = F at *
    have U : ∀ {x : Int}, Bd 1700 x → CMulW q x := fun h => cmul hs.d h
    have T : ∀ {x : Int}, Bd 1700 x → CMulW n x := fun h => cmul hs.n h
    refine SD.weak (δ1 := [some (chD ss), some (mtD (F.st (w, n, q)).low), some (.str (wd w)), some (.int n), some (.int q), some (.int (F.st (w, n, q)).a), some (.int (F.st (w, n, q)).b), some (.int (F.st (w, n, q)).c), some (.int (F.st (w, n, q)).d), some (.int F.e)]) ?_ (wk_same (wk_same (wk_none (wk_none (wk_none (wk_none (wk_none (wk_none (wk_none (wk_none wk_nil))))))))))
    refine sd_cons (s1_unp (pgs_consC 5 rfl (.inl rfl) (.inr rfl) (pgs_consC 6 rfl (.inl rfl) (.inr rfl) (pgs_consC 7 rfl (.inl rfl) (.inr rfl) (pgs_consC 8 rfl (.inl rfl) (.inr rfl) (pgs_consC 9 rfl (.inl rfl) (.inr rfl) pgs_nilC))))) rfl rfl (pv_var 1 rfl rfl)) ?_
    cases w with
    | true =>
      exact sd_cons (s1_ifT (PTD.is (ptd_eq (wd_shaped true) x_shaped (pv_var 2 rfl rfl) pv_str) (wd_eq true)) (sd_cons (s1_par 5 6 (pad_cons (pv_add (i := q * F.a) (j := n * F.c) (pv_mul (U b1) (pv_var 4 rfl rfl) (pv_var 5 rfl rfl)) (pv_mul (T b3) (pv_var 3 rfl rfl) (pv_var 7 rfl rfl))) (pad_cons (pv_add (i := q * F.b) (j := n * F.d) (pv_mul (U b2) (pv_var 4 rfl rfl) (pv_var 6 rfl rfl)) (pv_mul (T b4) (pv_var 3 rfl rfl) (pv_var 8 rfl rfl))) pad_nil))) (sd_cons (s1_par 7 8 (pad_cons (pv_mul (i := q) (j := F.c) (U b3) (pv_var 4 rfl rfl) (pv_var 7 rfl rfl)) (pad_cons (pv_mul (i := q) (j := F.d) (U b4) (pv_var 4 rfl rfl) (pv_var 8 rfl rfl)) pad_nil))) sd_nil)))
        (sd_cons (s1_asg 1 (pv_call D1 ⟨F.st (true, n, q), rfl, he, hb2, rfl⟩ (pad_cons (pv_tup (pad_cons ((pv_var 5 rfl rfl)) (pad_cons ((pv_var 6 rfl rfl)) (pad_cons ((pv_var 7 rfl rfl)) (pad_cons ((pv_var 8 rfl rfl)) (pad_cons (pv_mul (i := q) (j := F.e) (U b5) (pv_var 4 rfl rfl) (pv_var 9 rfl rfl)) pad_nil)))))) pad_nil))) sd_nil)
    | false =>
      exact sd_cons (s1_ifF (PTD.is (ptd_eq (wd_shaped false) x_shaped (pv_var 2 rfl rfl) pv_str) (wd_eq false)) (sd_cons (s1_par 7 8 (pad_cons (pv_add (i := q * F.c) (j := n * F.a) (pv_mul (U b3) (pv_var 4 rfl rfl) (pv_var 7 rfl rfl)) (pv_mul (T b1) (pv_var 3 rfl rfl) (pv_var 5 rfl rfl))) (pad_cons (pv_add (i := q * F.d) (j := n * F.b) (pv_mul (U b4) (pv_var 4 rfl rfl) (pv_var 8 rfl rfl)) (pv_mul (T b2) (pv_var 3 rfl rfl) (pv_var 6 rfl rfl))) pad_nil))) (sd_cons (s1_par 5 6 (pad_cons (pv_mul (i := q) (j := F.a) (U b1) (pv_var 4 rfl rfl) (pv_var 5 rfl rfl)) (pad_cons (pv_mul (i := q) (j := F.b) (U b2) (pv_var 4 rfl rfl) (pv_var 6 rfl rfl)) pad_nil))) sd_nil)))
        (sd_cons (s1_asg 1 (pv_call D1 ⟨F.st (false, n, q), rfl, he, hb2, rfl⟩ (pad_cons (pv_tup (pad_cons ((pv_var 5 rfl rfl)) (pad_cons ((pv_var 6 rfl rfl)) (pad_cons ((pv_var 7 rfl rfl)) (pad_cons ((pv_var 8 rfl rfl)) (pad_cons (pv_mul (i := q) (j := F.e) (U b5) (pv_var 4 rfl rfl) (pv_var 9 rfl rfl)) pad_nil)))))) pad_nil))) sd_nil)
  · rw [e1]
    unfold matT
    rw [List.take_length]
    rfl
theorem ok_matrix_of (R : Raw G "matrix_of" s_matrix_of) (D1 : Def G "need_chain" 3 ["chain"] (SpD G.K FNeedCh)) (D2 : Def G "matrix_of_steps" 3 ["chain"] (SpD G.K FMat)) : Def G "matrix_of" 4 ["chain"] (SpD G.K FMat) := by
  refine def_mk R sc_matrix_of (by rintro ds d ⟨n, rfl, _, rfl⟩; rfl) (fun _ _ _ _ _ _ us hl => match us, hl with | [_], _ => rfl) fun C M hc ds d hF => .inl ?_
  obtain ⟨ss, rfl, ho, rfl⟩ := hF
  exact sd_cons (s1_expr (pv_call D1 ⟨ss, rfl, ho, rfl⟩ (pad_cons ((pv_var 0 rfl rfl)) pad_nil))) (sd_ret (s1_ret (pv_call D2 ⟨ss, rfl, ho, rfl⟩ (pad_cons ((pv_var 0 rfl rfl)) pad_nil))))
def FShows : List PyData → PyData → Prop := fun ds d => ∃ (m : Mt) (ss : List Stp), ds = [mtD m, chD ss] ∧ MtOk m ∧ MtB 5000 m ∧ ChOk ss ∧ matM ss = m ∧ d = .bool true
theorem ok_shows_chain (R : Raw G "shows_chain" s_shows_chain) (D1 : Def G "need_matrix" 4 ["matrix"] (SpD G.K FNeedMt)) (D2 : Def G "is_chain" 3 ["value"] (SpD G.K FIsCh)) (D3 : Def G "matrix_of_steps" 3 ["chain"] (SpD G.K FMat)) : Def G "shows_chain" 5 ["matrix", "value"] (SpD G.K FShows) := by
  refine def_mk R sc_shows_chain (by rintro ds d ⟨m, n, rfl, _, _, _, _, rfl⟩; rfl) (fun _ _ _ _ _ _ us hl => match us, hl with | [_, _], _ => rfl) fun C M hc ds d hF => .inl ?_
  obtain ⟨m, ss, rfl, ho, hb, hs, hm, rfl⟩ := hF
  exact sd_cons (s1_expr (pv_call D1 ⟨m, rfl, ho, hb, rfl⟩ (pad_cons ((pv_var 0 rfl rfl)) pad_nil))) (sd_ret (s1_ret (pv_and_t (pv_call D2 ⟨ss, rfl, hs, rfl⟩ (pad_cons ((pv_var 1 rfl rfl)) pad_nil)) (pv_one (PV.is (pv_eq (mt_shaped (matM ss)) (mt_shaped m) (pv_call D3 ⟨ss, rfl, hs, rfl⟩ (pad_cons ((pv_var 1 rfl rfl)) pad_nil)) (pv_var 0 rfl rfl)) (by rw [hm, mt_eqv]))))))
/-! ### chain_with -/
def lsG (t b : Int) : Int := if b < 0 then -(Int.gcd t b : Int) else (Int.gcd t b : Int)
def lsD (w : Str) (t b : Int) : PyData := .tuple [.str w, .int (t.fdiv (lsG t b)), .int (b.fdiv (lsG t b))]
def FLs : List PyData → PyData → Prop := fun ds d => ∃ (w : Str) (t b : Int), ds = [.str w, .int t, .int b] ∧ b ≠ 0 ∧ Bd 6000 b ∧ d = lsD w t b
theorem gcd_pos' {t b : Int} (hb : b ≠ 0) : 0 < (Int.gcd t b : Int) := by
  have : Int.gcd t b ≠ 0 := fun h => hb (Int.gcd_eq_zero_iff.mp h).2
  omega
theorem gcd_bd {t b : Int} {k : Nat} (hb : b ≠ 0) (h : Bd k b) : Bd k (Int.gcd t b : Int) := h.le (by
  have h1 := Int.gcd_dvd_right t b
  have := Int.natAbs_dvd_natAbs.mpr h1
  exact Nat.le_of_dvd (by omega) this)
theorem ok_lowest_step (R : Raw G "lowest_step" s_lowest_step) (D1 : Def G "common" 1 ["one", "other"] (SpD G.K FCommon)) : Def G "lowest_step" 2 ["word", "top", "bottom"] (SpD G.K FLs) := by
  refine def_mk R sc_lowest_step (by rintro ds d ⟨m, n, l, rfl, _, _, rfl⟩; rfl) (fun _ _ _ _ _ _ us hl => match us, hl with | [_, _, _], _ => rfl) fun C M hc ds d hF => .inl ?_
  obtain ⟨w, t, b, rfl, h0, hb, rfl⟩ := hF
  have g0 := gcd_pos' (t := t) h0
  have gb := gcd_bd (t := t) h0 hb
  refine sd_cons (s1_asg 3 (pv_call D1 ⟨t, b, rfl, rfl⟩ (pad_cons ((pv_var 1 rfl rfl)) (pad_cons ((pv_var 2 rfl rfl)) pad_nil)))) (sd_cons (δ1 := [some (.str w), some (.int t), some (.int b), some (.int (lsG t b))]) ?_ (sd_ret (s1_ret ?_)))
  · unfold lsG
    by_cases h : b < 0
    · rw [if_pos h]
      exact s1_ifT (PTD.is (ptd_lt (i := b) (pv_var 2 rfl rfl) pv_int) (decide_eq_true h)) (sd_cons (s1_asg 3 (pv_neg (pv_var 3 rfl rfl))) sd_nil)
    · rw [if_neg h]
      exact s1_ifF (PTD.is (ptd_lt (i := b) (pv_var 2 rfl rfl) pv_int) (decide_eq_false h)) sd_nil
  · have hz : ∀ i, CDivZ i (lsG t b) := fun i => by
      unfold lsG
      by_cases h : b < 0
      · rw [if_pos h]
        exact cdivZ (by omega) gb.neg
      · rw [if_neg h]
        exact cdivZ (by omega) gb
    exact pv_tup (pad_cons (pv_var 0 rfl rfl) (pad_cons (pv_fdivZ (hz t) (pv_var 1 rfl rfl) (pv_var 3 rfl rfl)) (pad_cons (pv_fdivZ (hz b) (pv_var 2 rfl rfl) (pv_var 3 rfl rfl)) pad_nil)))
/-- what is found, ahead of the sieve -/
def cwF (m : Mt) : List (Str × Int × Int) := if m.d = m.e then [("y", m.c, m.e), ("x", m.b, m.e)] else [("x", m.d - m.e, m.c), ("y", m.c, m.e), ("x", m.a - m.e, m.c)]
def trL (s : Str × Int × Int) : List PyData := [.str s.1, .int s.2.1, .int s.2.2]
def fAt (l : List (Str × Int × Int)) (i : Nat) : Str × Int × Int := l.getD i ("x", 0, 1)
def cwL (m : Mt) : List PyData := made (fun i => decide ((fAt (cwF m) i).2.1 ≠ 0)) (fun i => lsD (fAt (cwF m) i).1 (fAt (cwF m) i).2.1 (fAt (cwF m) i).2.2) (cwF m).length
/-- the matrices that are asked -/
structure CwOk (m : Mt) : Prop where
  e0 : 0 < m.e
  b : MtB 5000 m
  c : m.d = m.e ∨ (m.d ≠ m.e ∧ m.a ≠ m.e ∧ m.c ≠ 0)
def FCw : List PyData → PyData → Prop := fun ds d => ∃ m : Mt, ds = [mtD m] ∧ CwOk m ∧ d = .list (cwL m)
theorem cwF_ok {m : Mt} (h : CwOk m) : ∀ s ∈ cwF m, s.2.2 ≠ 0 ∧ Bd 6000 s.2.2 := by
  have he : m.e ≠ 0 := Int.ne_of_gt h.e0
  have be : Bd 6000 m.e := h.b.2.2.2.2.mono (by decide)
  have bc : Bd 6000 m.c := h.b.2.2.1.mono (by decide)
  intro s hs
  unfold cwF at hs
  by_cases hd : m.d = m.e
  · rw [if_pos hd] at hs
    simp only [List.mem_cons, List.not_mem_nil, or_false] at hs
    rcases hs with rfl | rfl
    · exact ⟨he, be⟩
    · exact ⟨he, be⟩
  · rw [if_neg hd] at hs
    obtain ⟨_, _, hc⟩ := h.c.resolve_left hd
    simp only [List.mem_cons, List.not_mem_nil, or_false] at hs
    rcases hs with rfl | rfl | rfl
    · exact ⟨hc, bc⟩
    · exact ⟨he, be⟩
    · exact ⟨hc, bc⟩
theorem fAt_mem {l : List (Str × Int × Int)} {i : Nat} (h : i < l.length) : fAt l i ∈ l := by
  unfold fAt
  rw [List.getD_eq_getElem?_getD, List.getElem?_eq_getElem h]
  exact List.getElem_mem h
theorem nth_tr {l : List (Str × Int × Int)} {i : Nat} (h : i < l.length) : nth (l.map fun s => .tuple (trL s)) i = .tuple (trL (fAt l i)) := by
  rw [nth_map _ h]
  unfold fAt
  rw [List.getD_eq_getElem?_getD, List.getElem?_eq_getElem h]
  rfl
theorem Wlk.congr {K : PySem.W.Frag} {M : Addr → Prop} {wi : TI} {δ : DE} {n : Nat} {f g : Nat → PyData} (h : Wlk K M wi δ n f) (e : ∀ i, i < n → f i = g i) : Wlk K M wi δ n g := fun H σ tk ev R q => h H σ tk ev R fun J H' s go yl stp => q J H' s go (fun M' hM i H2 x H3 s2 tk2 hi y => by
  have z := yl M' hM i H2 x H3 s2 tk2 hi y
  rw [e i hi] at z
  exact z) stp
theorem ok_chain_with (R : Raw G "chain_with" s_chain_with) (D1 : Def G "lowest_step" 2 ["word", "top", "bottom"] (SpD G.K FLs)) : Def G "chain_with" 3 ["matrix"] (SpD G.K FCw) := by
  refine def_mk R sc_chain_with (by rintro ds d ⟨m, rfl, _, rfl⟩; rfl) (fun _ _ _ _ _ _ us hl => match us, hl with | [_], _ => rfl) fun C M hc ds d hF => .inl ?_
  obtain ⟨m, rfl, ho, rfl⟩ := hF
  have hF := cwF_ok ho
  refine sd_cons (s1_unp (pgs_consC 1 rfl (.inl rfl) (.inr rfl) (pgs_consC 2 rfl (.inl rfl) (.inr rfl) (pgs_consC 3 rfl (.inl rfl) (.inr rfl) (pgs_consC 4 rfl (.inl rfl) (.inr rfl) (pgs_consC 5 rfl (.inl rfl) (.inr rfl) pgs_nilC))))) rfl rfl (pv_var 0 rfl rfl)) (sd_cons (δ1 := [some (mtD m), some (.int m.a), some (.int m.b), some (.int m.c), some (.int m.d), some (.int m.e), some (.list ((cwF m).map fun s => .tuple (trL s))), none, none, none]) ?_ (sd_ret (s1_ret ?_)))
  · unfold cwF
    by_cases hd : m.d = m.e
    · rw [if_pos hd]
      exact s1_ifT (PTD.is (ptd_eq (d1 := .int m.d) (d2 := .int m.e) rfl rfl (pv_var 4 rfl rfl) (pv_var 5 rfl rfl)) (eqI_true hd)) (sd_cons (s1_asg 6 (pv_lst (pad_cons (pv_tup (pad_cons (pv_str) (pad_cons ((pv_var 3 rfl rfl)) (pad_cons ((pv_var 5 rfl rfl)) pad_nil)))) (pad_cons (pv_tup (pad_cons (pv_str) (pad_cons ((pv_var 2 rfl rfl)) (pad_cons ((pv_var 5 rfl rfl)) pad_nil)))) pad_nil)))) sd_nil)
    · obtain ⟨_, ha, hc0⟩ := ho.c.resolve_left hd
      rw [if_neg hd]
      refine s1_ifF (PTD.is (ptd_eq (d1 := .int m.d) (d2 := .int m.e) rfl rfl (pv_var 4 rfl rfl) (pv_var 5 rfl rfl)) (eqI_false hd)) (sd_cons (s1_ifF (PTD.is (ptd_eq (d1 := .int m.a) (d2 := .int m.e) rfl rfl (pv_var 1 rfl rfl) (pv_var 5 rfl rfl)) (eqI_false ha)) (sd_cons (s1_ifT (PTD.is (ptd_ne (d1 := .int m.c) (d2 := .int 0) rfl rfl (pv_var 3 rfl rfl) pv_int) (by rw [eqI_false hc0]; rfl)) (sd_cons (s1_asg 6 (pv_lst (pad_cons (pv_tup (pad_cons (pv_str) (pad_cons (pv_sub (pv_var 4 rfl rfl) (pv_var 5 rfl rfl)) (pad_cons ((pv_var 3 rfl rfl)) pad_nil)))) (pad_cons (pv_tup (pad_cons (pv_str) (pad_cons ((pv_var 3 rfl rfl)) (pad_cons ((pv_var 5 rfl rfl)) pad_nil)))) (pad_cons (pv_tup (pad_cons (pv_str) (pad_cons (pv_sub (pv_var 1 rfl rfl) (pv_var 5 rfl rfl)) (pad_cons ((pv_var 3 rfl rfl)) pad_nil)))) pad_nil))))) sd_nil)) sd_nil)) sd_nil)
  · have hl : (cwF m).length ≤ 3 := by
      unfold cwF
      by_cases hd : m.d = m.e
      · rw [if_pos hd]
        exact (by decide : 2 ≤ 3)
      · rw [if_neg hd]
        exact Nat.le_refl 3
    unfold cwL
    generalize cwF m = l at *
    have e1 : (l.map fun s => PyData.tuple (trL s)).length = l.length := List.length_map ..
    have hw : ∀ {C : Ctx G 2 ["matrix", "a", "b", "c", "d", "e", "found", "word", "top", "bottom"] (defScope s_chain_with)} {e : Expr} {δ : DE}, PV C M δ e (.list (l.map fun s => .tuple (trL s))) → Wlk G.K M (iList G.K (eM C e)) δ l.length (fun i => .tuple (trL (fAt l i))) := fun {C e δ} h => by
      have z := wlk_list h
      rw [e1] at z
      exact z.congr fun i hi => nth_tr hi
    refine pv_lcT (m := l.length) (n := 3) (dsi := fun i => trL (fAt l i)) [("word", 7), ("top", 8), ("bottom", 9)] pi_listC (blkOk_by (by decide +kernel)) (pgs_consC 7 rfl (.inl rfl) (.inr rfl) (pgs_consC 8 rfl (.inl rfl) (.inr rfl) (pgs_consC 9 rfl (.inl rfl) (.inr rfl) pgs_nilC))) (by omega) (hw (pv_var 6 rfl rfl)) (fun i hi => rfl) (fun i hi => rfl) (fun i hi M' => ?_) (fun i hi hk M' => ?_)
    · refine ptsd_one (PTD.is (ptd_ne (d1 := .int (fAt l i).2.1) (d2 := .int 0) rfl rfl (pv_var 8 rfl rfl) pv_int) ?_)
      show (!PyData.eqv (.int (fAt l i).2.1) (.int 0)) = decide ((fAt l i).2.1 ≠ 0)
      by_cases h : (fAt l i).2.1 = 0
      · rw [eqI_true h, decide_eq_false (fun z => z h)]
        rfl
      · rw [eqI_false h, decide_eq_true h]
        rfl
    · obtain ⟨b0, bb⟩ := hF _ (fAt_mem hi)
      exact pv_call D1 ⟨_, _, _, rfl, b0, bb, rfl⟩ (pad_cons ((pv_var 7 rfl rfl)) (pad_cons ((pv_var 8 rfl rfl)) (pad_cons ((pv_var 9 rfl rfl)) pad_nil)))
/-! ### chain_for, fewest_shears -/
def FChFor : List PyData → PyData → Prop := fun ds d => ∃ m : Mt, ds = [mtD m] ∧ CwOk m ∧ MtOk m ∧ d = .list (cwL m)
theorem ok_chain_for (R : Raw G "chain_for" s_chain_for) (D1 : Def G "need_matrix" 4 ["matrix"] (SpD G.K FNeedMt)) (D2 : Def G "chain_with" 3 ["matrix"] (SpD G.K FCw)) : Def G "chain_for" 5 ["matrix"] (SpD G.K FChFor) := by
  refine def_mk R sc_chain_for (by rintro ds d ⟨m, rfl, _, _, rfl⟩; rfl) (fun _ _ _ _ _ _ us hl => match us, hl with | [_], _ => rfl) fun C M hc ds d hF => .inl ?_
  obtain ⟨m, rfl, ho, hm, rfl⟩ := hF
  exact sd_cons (s1_expr (pv_call D1 ⟨m, rfl, hm, ho.b, rfl⟩ (pad_cons ((pv_var 0 rfl rfl)) pad_nil))) (sd_ret (s1_ret (pv_call D2 ⟨m, rfl, ho, rfl⟩ (pad_cons ((pv_var 0 rfl rfl)) pad_nil))))
def FFew : List PyData → PyData → Prop := fun ds d => ∃ m : Mt, ds = [mtD m] ∧ CwOk m ∧ MtOk m ∧ d = .int ((cwL m).length : Int)
theorem ok_fewest_shears (Z : Free G) (R : Raw G "fewest_shears" s_fewest_shears) (D1 : Def G "need_matrix" 4 ["matrix"] (SpD G.K FNeedMt)) (D2 : Def G "chain_with" 3 ["matrix"] (SpD G.K FCw)) : Def G "fewest_shears" 5 ["matrix"] (SpD G.K FFew) := by
  refine def_mk R sc_fewest_shears (by rintro ds d ⟨m, rfl, _, _, rfl⟩; rfl) (fun _ _ _ _ _ _ us hl => match us, hl with | [_], _ => rfl) fun C M hc ds d hF => .inl ?_
  obtain ⟨m, rfl, ho, hm, rfl⟩ := hF
  exact sd_cons (s1_expr (pv_call D1 ⟨m, rfl, hm, ho.b, rfl⟩ (pad_cons ((pv_var 0 rfl rfl)) pad_nil))) (sd_ret (s1_ret (pv_lenL (pv_call D2 ⟨m, rfl, ho, rfl⟩ (pad_cons ((pv_var 0 rfl rfl)) pad_nil)) Z.len)))
/-- three steps for a turn that turns, none else -/
theorem line_cw {t : Tn} (h : TnOk t) : CwOk (lineM t) ∧ (cwL (lineM t)).length = if t.2.1 = 0 then 0 else 3 := by
  have hb : MtB 5000 (lineM t) := ⟨h.bA.mono (by decide), h.bB.neg.mono (by decide), h.bB.mono (by decide), h.bA.mono (by decide), h.bC.mono (by decide)⟩
  have hp := h.pos
  by_cases hq : t.2.1 = 0
  · have eA : lA t = lC t := by
      unfold lA lC
      rw [hq]
      omega
    have eB : lB t = 0 := by
      unfold lB
      rw [hq, Int.mul_zero]
    refine ⟨⟨h.c0, hb, .inl eA⟩, ?_⟩
    rw [if_pos hq]
    unfold cwL cwF
    rw [if_pos (show (lineM t).d = (lineM t).e from eA)]
    have k1 : decide (lB t ≠ 0) = false := decide_eq_false (fun z => z eB)
    have k2 : decide (-lB t ≠ 0) = false := decide_eq_false (fun z => z (by rw [eB]; rfl))
    show (made _ _ 2).length = 0
    have a1 : decide ((fAt [("y", (lineM t).c, (lineM t).e), ("x", (lineM t).b, (lineM t).e)] 0).2.1 ≠ 0) = false := k1
    have a2 : decide ((fAt [("y", (lineM t).c, (lineM t).e), ("x", (lineM t).b, (lineM t).e)] 1).2.1 ≠ 0) = false := k2
    simp only [made, a1, a2, Bool.false_eq_true, if_false]
    rfl
  · have q2 : 0 < t.2.1 * t.2.1 := by
      rcases Int.lt_or_gt_of_ne hq with z | z
      · exact Int.mul_pos_of_neg_of_neg z z
      · exact Int.mul_pos z z
    have nA : lA t ≠ lC t := by
      unfold lA lC
      omega
    have nB : lB t ≠ 0 := by
      unfold lB
      exact Int.mul_ne_zero (Int.mul_ne_zero (by decide) (by omega)) hq
    refine ⟨⟨h.c0, hb, .inr ⟨nA, nA, nB⟩⟩, ?_⟩
    rw [if_neg hq]
    unfold cwL cwF
    rw [if_neg (show ¬ (lineM t).d = (lineM t).e from nA)]
    show (made _ _ 3).length = 3
    have a0 : decide ((fAt [("x", (lineM t).d - (lineM t).e, (lineM t).c), ("y", (lineM t).c, (lineM t).e), ("x", (lineM t).a - (lineM t).e, (lineM t).c)] 0).2.1 ≠ 0) = true := decide_eq_true (show lA t - lC t ≠ 0 by omega)
    have a1 : decide ((fAt [("x", (lineM t).d - (lineM t).e, (lineM t).c), ("y", (lineM t).c, (lineM t).e), ("x", (lineM t).a - (lineM t).e, (lineM t).c)] 1).2.1 ≠ 0) = true := decide_eq_true nB
    have a2 : decide ((fAt [("x", (lineM t).d - (lineM t).e, (lineM t).c), ("y", (lineM t).c, (lineM t).e), ("x", (lineM t).a - (lineM t).e, (lineM t).c)] 2).2.1 ≠ 0) = true := decide_eq_true (show lA t - lC t ≠ 0 by omega)
    simp only [made, a0, a1, a2, if_true]
    rfl
end
end TP

/-! K10: where two chains part -/
namespace TP
open PySem PySem.Spec PyProof.Rows L2
section
variable {G : Glb}
/-! ### first_parting -/
theorem least_of {P : Nat → Prop} : ∀ n, (∃ i, i < n ∧ P i) → ∃ i, i < n ∧ P i ∧ ∀ j, j < i → ¬ P j := by
  intro n ⟨i, hi, hp⟩
  induction i using Nat.strongRecOn with
  | _ i ih =>
    by_cases h : ∃ j, j < i ∧ P j
    · obtain ⟨j, hj, pj⟩ := h
      exact ih j hj (by omega) pj
    · exact ⟨i, hi, hp, fun j hj pj => h ⟨j, hj, pj⟩⟩
/-- the pixel at the i-th column, the j-th row of the square of reach r -/
def at2 (r : Int) (i j : Nat) : Px := (-r + (i : Int), -r + (j : Int))
def sideN (r : Int) : Nat := (r + 1 - -r).toNat
def Parts (ss rs : List Stp) (z : Px) : Prop := afterM ss z ≠ afterM rs z
/-- what is to be found -/
def IsPart (ss rs : List Stp) (r : Int) (d : PyData) : Prop :=
  (d = .none ∧ ∀ i j, i < sideN r → j < sideN r → ¬ Parts ss rs (at2 r i j)) ∨
  ∃ i j, i < sideN r ∧ j < sideN r ∧ d = pxD (at2 r i j) ∧ Parts ss rs (at2 r i j) ∧ (∀ i' j', i' < i → j' < sideN r → ¬ Parts ss rs (at2 r i' j')) ∧ ∀ j', j' < j → ¬ Parts ss rs (at2 r i j')
theorem part_ex (ss rs : List Stp) (r : Int) : ∃ d, IsPart ss rs r d := by
  by_cases h : ∃ i, i < sideN r ∧ ∃ j, j < sideN r ∧ Parts ss rs (at2 r i j)
  · obtain ⟨i, hi, ⟨hj, hm⟩⟩ := least_of _ h
    obtain ⟨j, hj, pj, hmj⟩ := least_of _ hj
    exact ⟨_, .inr ⟨i, j, hi, hj, rfl, pj, fun i' j' a b z => hm i' a ⟨j', b, z⟩, hmj⟩⟩
  · exact ⟨_, .inl ⟨rfl, fun i j a b z => h ⟨i, a, j, b, z⟩⟩⟩
theorem px_shaped (z : Px) : SeqAt.shaped (pxD z) = true := rfl
theorem px_eqv (z w : Px) : PyData.eqv (pxD z) (pxD w) = decide (z = w) := by
  have e : PyData.eqv (pxD z) (pxD w) = ((z.1 == w.1) && ((z.2 == w.2) && true)) := by
    simp only [pxD, PyData.eqv, PyData.eqvAll]
  rw [e]
  by_cases h : z = w
  · subst h
    simp
  · rw [decide_eq_false h]
    have : ¬ (z.1 = w.1 ∧ z.2 = w.2) := fun q => h (Prod.ext q.1 q.2)
    cases h1 : (z.1 == w.1) with
    | false => rfl
    | true =>
      cases h2 : (z.2 == w.2) with
      | false => rfl
      | true => exact absurd ⟨by simpa using h1, by simpa using h2⟩ this
def FPart : List PyData → PyData → Prop := fun ds d => ∃ (ss rs : List Stp) (r : Int), ds = [chD ss, chD rs, .int r] ∧ ChOk ss ∧ ChOk rs ∧ 0 ≤ r ∧ r ≤ 30 ∧ IsPart ss rs r d
theorem at2_bd {r : Int} (h0 : 0 ≤ r) (h : r ≤ 30) {i j : Nat} (hi : i < sideN r) (hj : j < sideN r) : PxB 1000 (at2 r i j) := by
  unfold sideN at hi hj
  have k : ∀ x : Int, x.natAbs ≤ 100 → Bd 1000 x := fun x hx => Bd.mono (m := 7) (Nat.lt_of_le_of_lt hx (by decide)) (by decide)
  exact ⟨k _ (by show (-r + (i : Int)).natAbs ≤ 100; omega), k _ (by show (-r + (j : Int)).natAbs ≤ 100; omega)⟩
theorem ok_first_parting (Z : Free G) (R : Raw G "first_parting" s_first_parting) (D1 : Def G "need_chain" 3 ["chain"] (SpD G.K FNeedCh)) (D2 : Def G "need_number" 2 ["number", "most"] (SpD G.K FNeedNum)) (D3 : Def G "after_steps" 3 ["chain", "pixel"] (SpD G.K FAfter)) : Def G "first_parting" 4 ["chain", "second", "reach"] (SpD G.K FPart) := by
  refine def_mk R sc_first_parting (by rintro ds d ⟨m, n, l, rfl, _⟩; rfl) (fun _ _ _ _ _ _ us hl => match us, hl with | [_, _, _], _ => rfl) fun C M hc ds d hF => .inl ?_
  obtain ⟨ss, rs, r, rfl, hs, hr, h0, h30, hp⟩ := hF
  obtain ⟨tR, hR⟩ := Z.mostR
  refine sd_cons (s1_expr (pv_call D1 ⟨ss, rfl, hs, rfl⟩ (pad_cons ((pv_var 0 rfl rfl)) pad_nil))) (sd_cons (s1_expr (pv_call D1 ⟨rs, rfl, hr, rfl⟩ (pad_cons ((pv_var 1 rfl rfl)) pad_nil))) (sd_cons (s1_expr (pv_call D2 ⟨r, 30, rfl, h0, h30, rfl⟩ (pad_cons ((pv_var 2 rfl rfl)) (pad_cons (pv_globI hR) pad_nil)))) ?_))
  have b1 : -(2 ^ 62) ≤ -r ∧ -r < 2 ^ 62 := ⟨by omega, by omega⟩
  have b2 : -(2 ^ 62) ≤ r + 1 ∧ r + 1 < 2 ^ 62 := ⟨by omega, by omega⟩
  have no : ∀ {z : Px}, ¬ Parts ss rs z → (!PyData.eqv (pxD (afterM ss z)) (pxD (afterM rs z))) = false := fun {z} h => by
    rw [px_eqv, decide_eq_true (Classical.not_not.mp h)]
    rfl
  have yes : ∀ {z : Px}, Parts ss rs z → (!PyData.eqv (pxD (afterM ss z)) (pxD (afterM rs z))) = true := fun {z} h => by
    rw [px_eqv, decide_eq_false h]
    rfl
  rcases hp with ⟨rfl, hp⟩ | ⟨i0, j0, hii0, hjj0, rfl, hP, hI, hJ⟩
  · refine sd_cons (s1_for (n := sideN r) (items := fun i => .int (-r + (i : Int))) (g := gName 3) (fun i => [some (chD ss), some (chD rs), some (.int r), none, none]) (fun i => [some (chD ss), some (chD rs), some (.int r), some (.int (-r + (i : Int))), none]) (pi_range2C Z.range) (wlk_range2 (pad_cons (pv_neg (pv_var 2 rfl rfl)) (pad_cons (pv_add (pv_var 2 rfl rfl) pv_int) pad_nil)) b1 b2) (pg_nameC 3 rfl (.inl rfl) (.inr rfl)) rfl (fun i hi => tg_name 3) (fun i hii => ?_)) (sd_ret (s1_ret pv_non))
    have np : ∀ j, j < sideN r → ¬ Parts ss rs (at2 r i j) := fun j hj => hp i j hii hj
    exact SD.weak (sd_cons (s1_for (n := sideN r) (items := fun j => .int (-r + (j : Int))) (g := gName 4) (fun j => [some (chD ss), some (chD rs), some (.int r), some (.int (-r + (i : Int))), none]) (fun j => [some (chD ss), some (chD rs), some (.int r), some (.int (-r + (i : Int))), some (.int (-r + (j : Int)))]) (pi_range2C Z.range) (wlk_range2 (pad_cons (pv_neg (pv_var 2 rfl rfl)) (pad_cons (pv_add (pv_var 2 rfl rfl) pv_int) pad_nil)) b1 b2) (pg_nameC 4 rfl (.inl rfl) (.inr rfl)) rfl (fun j hj => tg_name 4) (fun j hjj => SD.weak (sd_cons (s1_ifF (PTD.is (ptd_ne (px_shaped _) (px_shaped _) (pv_call D3 ⟨ss, at2 r i j, rfl, hs, at2_bd h0 h30 hii hjj, rfl⟩ (pad_cons ((pv_var 0 rfl rfl)) (pad_cons (pv_tup (pad_cons ((pv_var 3 rfl rfl)) (pad_cons ((pv_var 4 rfl rfl)) pad_nil))) pad_nil))) (pv_call D3 ⟨rs, at2 r i j, rfl, hr, at2_bd h0 h30 hii hjj, rfl⟩ (pad_cons ((pv_var 1 rfl rfl)) (pad_cons (pv_tup (pad_cons ((pv_var 3 rfl rfl)) (pad_cons ((pv_var 4 rfl rfl)) pad_nil))) pad_nil)))) (no (np j hjj))) sd_nil) sd_nil) (wk_same (wk_same (wk_same (wk_same (wk_none wk_nil))))))) sd_nil) (wk_same (wk_same (wk_same (wk_none (wk_none wk_nil)))))
  · refine sd_ret (s1_forR (n := sideN r) (l := i0) (items := fun i => .int (-r + (i : Int))) (g := gName 3) (fun i => [some (chD ss), some (chD rs), some (.int r), none, none]) (fun i => [some (chD ss), some (chD rs), some (.int r), some (.int (-r + (i : Int))), none]) hii0 (pi_range2C Z.range) (wlk_range2 (pad_cons (pv_neg (pv_var 2 rfl rfl)) (pad_cons (pv_add (pv_var 2 rfl rfl) pv_int) pad_nil)) b1 b2) (pg_nameC 3 rfl (.inl rfl) (.inr rfl)) rfl (fun i hi => tg_name 3) (fun i hil => ?_) ?_)
    · have hii : i < sideN r := Nat.lt_trans hil hii0
      have np : ∀ j, j < sideN r → ¬ Parts ss rs (at2 r i j) := fun j hj => hI i j hil hj
      exact SD.weak (sd_cons (s1_for (n := sideN r) (items := fun j => .int (-r + (j : Int))) (g := gName 4) (fun j => [some (chD ss), some (chD rs), some (.int r), some (.int (-r + (i : Int))), none]) (fun j => [some (chD ss), some (chD rs), some (.int r), some (.int (-r + (i : Int))), some (.int (-r + (j : Int)))]) (pi_range2C Z.range) (wlk_range2 (pad_cons (pv_neg (pv_var 2 rfl rfl)) (pad_cons (pv_add (pv_var 2 rfl rfl) pv_int) pad_nil)) b1 b2) (pg_nameC 4 rfl (.inl rfl) (.inr rfl)) rfl (fun j hj => tg_name 4) (fun j hjj => SD.weak (sd_cons (s1_ifF (PTD.is (ptd_ne (px_shaped _) (px_shaped _) (pv_call D3 ⟨ss, at2 r i j, rfl, hs, at2_bd h0 h30 hii hjj, rfl⟩ (pad_cons ((pv_var 0 rfl rfl)) (pad_cons (pv_tup (pad_cons ((pv_var 3 rfl rfl)) (pad_cons ((pv_var 4 rfl rfl)) pad_nil))) pad_nil))) (pv_call D3 ⟨rs, at2 r i j, rfl, hr, at2_bd h0 h30 hii hjj, rfl⟩ (pad_cons ((pv_var 1 rfl rfl)) (pad_cons (pv_tup (pad_cons ((pv_var 3 rfl rfl)) (pad_cons ((pv_var 4 rfl rfl)) pad_nil))) pad_nil)))) (no (np j hjj))) sd_nil) sd_nil) (wk_same (wk_same (wk_same (wk_same (wk_none wk_nil))))))) sd_nil) (wk_same (wk_same (wk_same (wk_none (wk_none wk_nil)))))
    · refine sd_ret (s1_forR (n := sideN r) (l := j0) (items := fun j => .int (-r + (j : Int))) (g := gName 4) (fun j => [some (chD ss), some (chD rs), some (.int r), some (.int (-r + (i0 : Int))), none]) (fun j => [some (chD ss), some (chD rs), some (.int r), some (.int (-r + (i0 : Int))), some (.int (-r + (j : Int)))]) hjj0 (pi_range2C Z.range) (wlk_range2 (pad_cons (pv_neg (pv_var 2 rfl rfl)) (pad_cons (pv_add (pv_var 2 rfl rfl) pv_int) pad_nil)) b1 b2) (pg_nameC 4 rfl (.inl rfl) (.inr rfl)) rfl (fun j hj => tg_name 4) (fun j hjl => ?_) ?_)
      · have hjj : j < sideN r := Nat.lt_trans hjl hjj0
        exact SD.weak (sd_cons (s1_ifF (PTD.is (ptd_ne (px_shaped _) (px_shaped _) (pv_call D3 ⟨ss, at2 r i0 j, rfl, hs, at2_bd h0 h30 hii0 hjj, rfl⟩ (pad_cons ((pv_var 0 rfl rfl)) (pad_cons (pv_tup (pad_cons ((pv_var 3 rfl rfl)) (pad_cons ((pv_var 4 rfl rfl)) pad_nil))) pad_nil))) (pv_call D3 ⟨rs, at2 r i0 j, rfl, hr, at2_bd h0 h30 hii0 hjj, rfl⟩ (pad_cons ((pv_var 1 rfl rfl)) (pad_cons (pv_tup (pad_cons ((pv_var 3 rfl rfl)) (pad_cons ((pv_var 4 rfl rfl)) pad_nil))) pad_nil)))) (no (hJ j hjl))) sd_nil) sd_nil) (wk_same (wk_same (wk_same (wk_same (wk_none wk_nil)))))
      · exact sd_ret (s1_ifT (PTD.is (ptd_ne (px_shaped _) (px_shaped _) (pv_call D3 ⟨ss, at2 r i0 j0, rfl, hs, at2_bd h0 h30 hii0 hjj0, rfl⟩ (pad_cons ((pv_var 0 rfl rfl)) (pad_cons (pv_tup (pad_cons ((pv_var 3 rfl rfl)) (pad_cons ((pv_var 4 rfl rfl)) pad_nil))) pad_nil))) (pv_call D3 ⟨rs, at2 r i0 j0, rfl, hr, at2_bd h0 h30 hii0 hjj0, rfl⟩ (pad_cons ((pv_var 1 rfl rfl)) (pad_cons (pv_tup (pad_cons ((pv_var 3 rfl rfl)) (pad_cons ((pv_var 4 rfl rfl)) pad_nil))) pad_nil)))) (yes hP)) (sd_ret (s1_ret (pv_tup (pad_cons ((pv_var 3 rfl rfl)) (pad_cons ((pv_var 4 rfl rfl)) pad_nil))))))
end
end TP

/-! K11: shears -/
namespace TP
open PySem PySem.Spec PyProof.Rows L2
theorem od_shaped (b : Bool) : SeqAt.shaped (.str (odW b)) = true := by cases b <;> decide +kernel
theorem od_eq (b : Bool) : PyData.eqv (.str (odW b)) (.str "xyx") = b := by cases b <;> decide +kernel
theorem xyx_shaped : SeqAt.shaped (.str "xyx") = true := by decide +kernel
theorem od_in (b : Bool) : inV (.str (odW b)) ((["xyx", "yxy"] : List Str).map V.str) = true := by cases b <;> decide +kernel
theorem chain_ChOk {t : Tn} (h : TnOk t) (o : Bool) : ChOk (chainM t o) := ⟨by rw [chainM_len]; decide, chainM_ok h o⟩
/-- the sheared pixel, and the one that is led there -/
def shM (t : Tn) (o : Bool) (z : Px) : Px := quart (afterM (chainM t o) z) t.2.2
def unM (t : Tn) (o : Bool) (z : Px) : Px := beforeM (chainM t o) (quart z (-t.2.2))
section
variable {G : Glb}
def FNeedOd : List PyData → PyData → Prop := fun ds d => ∃ o : Bool, ds = [.str (odW o)] ∧ d = .none
theorem ok_need_order (Z : Free G) (R : Raw G "need_order" s_need_order) : Def G "need_order" 1 ["order"] (SpD G.K FNeedOd) := by
  refine def_mk R sc_need_order (by rintro ds d ⟨o, rfl, rfl⟩; rfl) (fun _ _ _ _ _ _ us hl => match us, hl with | [_], _ => rfl) fun C M hc ds d hF => .inr ?_
  obtain ⟨o, rfl, rfl⟩ := hF
  exact ⟨rfl, _, sd_cons (s1_ifF (PWD.ptd (pwd_or_f (ptd_not (ptd_val (pv_isi kb_ss PyProof.Rows.boot_str (pv_var 0 rfl rfl) Z.isi Z.str))) (pwd_or1 (PTD.is (ptd_notIn (ss := ["xyx", "yxy"]) (od_in o) (pv_var 0 rfl rfl) (pv_tup (pad_cons (pv_str) (pad_cons (pv_str) pad_nil)))) rfl)))) sd_nil) sd_nil⟩
def FNeedSh : List PyData → PyData → Prop := fun ds d => ∃ (t : Tn) (o : Bool) (z : Px), ds = [tnD t, .str (odW o), pxD z] ∧ TnOk t ∧ d = .none
theorem ok_need_sheared (R : Raw G "need_sheared" s_need_sheared) (D1 : Def G "need_turn" 4 ["turn"] (SpD G.K FNeedTn)) (D2 : Def G "need_order" 1 ["order"] (SpD G.K FNeedOd)) (D3 : Def G "need_pixel" 4 ["pixel"] (SpD G.K FNeedPx)) : Def G "need_sheared" 5 ["turn", "order", "pixel"] (SpD G.K FNeedSh) := by
  refine def_mk R sc_need_sheared (by rintro ds d ⟨t, o, z, rfl, _, rfl⟩; rfl) (fun _ _ _ _ _ _ us hl => match us, hl with | [_, _, _], _ => rfl) fun C M hc ds d hF => .inr ?_
  obtain ⟨t, o, z, rfl, ht, rfl⟩ := hF
  exact ⟨rfl, _, sd_cons (s1_expr (pv_call D1 ⟨t, rfl, ht, rfl⟩ (pad_cons ((pv_var 0 rfl rfl)) pad_nil))) (sd_cons (s1_expr (pv_call D2 ⟨o, rfl, rfl⟩ (pad_cons ((pv_var 1 rfl rfl)) pad_nil))) (sd_cons (s1_expr (pv_call D3 ⟨z, rfl, rfl⟩ (pad_cons ((pv_var 2 rfl rfl)) pad_nil))) sd_nil))⟩
def FChain : List PyData → PyData → Prop := fun ds d => ∃ (t : Tn) (o : Bool), ds = [tnD t, .str (odW o)] ∧ TnOk t ∧ d = chD (chainM t o)
theorem ok_chain_in (R : Raw G "chain_in" s_chain_in) (D1 : Def G "plain_legs" 1 ["turn"] (SpD G.K FLegs)) : Def G "chain_in" 2 ["turn", "order"] (SpD G.K FChain) := by
  refine def_mk R sc_chain_in (by rintro ds d ⟨t, o, rfl, _, rfl⟩; rfl) (fun _ _ _ _ _ _ us hl => match us, hl with | [_, _], _ => rfl) fun C M hc ds d hF => .inl ?_
  obtain ⟨t, o, rfl, ht, rfl⟩ := hF
  refine sd_cons (s1_unp (ds := [.int t.1, .int t.2.1]) (pgs_consC 2 rfl (.inl rfl) (.inr rfl) (pgs_consC 3 rfl (.inl rfl) (.inr rfl) pgs_nilC)) rfl rfl (PV.is (pv_slT_hi (by show ¬ (0 = 0 ∧ HT.sIx 3 3 (some 2) = 3); decide) (pv_var 0 rfl rfl) pv_int) rfl)) (sd_cons (s1_unp (ds := [.int (lB t), .int (lC t)]) (pgs_consC 4 rfl (.inl rfl) (.inr rfl) (pgs_consC 5 rfl (.inl rfl) (.inr rfl) pgs_nilC)) rfl rfl (PV.is (pv_slT_lo (by show ¬ (HT.sIx 3 0 (some 1) = 0 ∧ 3 = 3); decide) (pv_call D1 ⟨t, rfl, ht, rfl⟩ (pad_cons ((pv_var 0 rfl rfl)) pad_nil)) pv_int) rfl)) ?_)
  cases o with
  | true => exact sd_ret (s1_ifT (PTD.is (ptd_eq (od_shaped true) xyx_shaped (pv_var 1 rfl rfl) pv_str) (od_eq true)) (sd_ret (s1_ret (pv_lst (hl := by show 3 ≤ sizeLine; decide) (pad_cons (pv_tup (pad_cons (pv_str) (pad_cons (pv_neg (i := t.2.1) (pv_var 3 rfl rfl)) (pad_cons ((pv_var 2 rfl rfl)) pad_nil)))) (pad_cons (pv_tup (pad_cons (pv_str) (pad_cons ((pv_var 4 rfl rfl)) (pad_cons ((pv_var 5 rfl rfl)) pad_nil)))) (pad_cons (pv_tup (pad_cons (pv_str) (pad_cons (pv_neg (i := t.2.1) (pv_var 3 rfl rfl)) (pad_cons ((pv_var 2 rfl rfl)) pad_nil)))) pad_nil)))))))
  | false => exact sd_cons (s1_ifF (PTD.is (ptd_eq (od_shaped false) xyx_shaped (pv_var 1 rfl rfl) pv_str) (od_eq false)) sd_nil) (sd_ret (s1_ret (pv_lst (hl := by show 3 ≤ sizeLine; decide) (pad_cons (pv_tup (pad_cons (pv_str) (pad_cons ((pv_var 3 rfl rfl)) (pad_cons ((pv_var 2 rfl rfl)) pad_nil)))) (pad_cons (pv_tup (pad_cons (pv_str) (pad_cons (pv_neg (i := lB t) (pv_var 4 rfl rfl)) (pad_cons ((pv_var 5 rfl rfl)) pad_nil)))) (pad_cons (pv_tup (pad_cons (pv_str) (pad_cons ((pv_var 3 rfl rfl)) (pad_cons ((pv_var 2 rfl rfl)) pad_nil)))) pad_nil))))))
theorem ok_shear_chain (R : Raw G "shear_chain" s_shear_chain) (D1 : Def G "need_turn" 4 ["turn"] (SpD G.K FNeedTn)) (D2 : Def G "need_order" 1 ["order"] (SpD G.K FNeedOd)) (D3 : Def G "chain_in" 2 ["turn", "order"] (SpD G.K FChain)) : Def G "shear_chain" 5 ["turn", "order"] (SpD G.K FChain) := by
  refine def_mk R sc_shear_chain (by rintro ds d ⟨t, o, rfl, _, rfl⟩; rfl) (fun _ _ _ _ _ _ us hl => match us, hl with | [_, _], _ => rfl) fun C M hc ds d hF => .inl ?_
  obtain ⟨t, o, rfl, ht, rfl⟩ := hF
  exact sd_cons (s1_expr (pv_call D1 ⟨t, rfl, ht, rfl⟩ (pad_cons ((pv_var 0 rfl rfl)) pad_nil))) (sd_cons (s1_expr (pv_call D2 ⟨o, rfl, rfl⟩ (pad_cons ((pv_var 1 rfl rfl)) pad_nil))) (sd_ret (s1_ret (pv_call D3 ⟨t, o, rfl, ht, rfl⟩ (pad_cons ((pv_var 0 rfl rfl)) (pad_cons ((pv_var 1 rfl rfl)) pad_nil))))))
def FSheared : List PyData → PyData → Prop := fun ds d => ∃ (t : Tn) (o : Bool) (z : Px), ds = [tnD t, .str (odW o), pxD z] ∧ TnOk t ∧ PxB 1000 z ∧ d = pxD (shM t o z)
theorem ok_sheared (R : Raw G "sheared" s_sheared) (D1 : Def G "need_sheared" 5 ["turn", "order", "pixel"] (SpD G.K FNeedSh)) (D2 : Def G "quartered" 1 ["pixel", "times"] (SpD G.K FQuart)) (D3 : Def G "after_steps" 3 ["chain", "pixel"] (SpD G.K FAfter)) (D4 : Def G "chain_in" 2 ["turn", "order"] (SpD G.K FChain)) : Def G "sheared" 6 ["turn", "order", "pixel"] (SpD G.K FSheared) := by
  refine def_mk R sc_sheared (by rintro ds d ⟨t, o, z, rfl, _, _, rfl⟩; rfl) (fun _ _ _ _ _ _ us hl => match us, hl with | [_, _, _], _ => rfl) fun C M hc ds d hF => .inl ?_
  obtain ⟨t, o, z, rfl, ht, hz, rfl⟩ := hF
  exact sd_cons (s1_expr (pv_call D1 ⟨t, o, z, rfl, ht, rfl⟩ (pad_cons ((pv_var 0 rfl rfl)) (pad_cons ((pv_var 1 rfl rfl)) (pad_cons ((pv_var 2 rfl rfl)) pad_nil))))) (sd_ret (s1_ret (pv_call D2 ⟨_, t.2.2, rfl, rfl⟩ (pad_cons (pv_call D3 ⟨chainM t o, z, rfl, chain_ChOk ht o, hz, rfl⟩ (pad_cons (pv_call D4 ⟨t, o, rfl, ht, rfl⟩ (pad_cons ((pv_var 0 rfl rfl)) (pad_cons ((pv_var 1 rfl rfl)) pad_nil))) (pad_cons ((pv_var 2 rfl rfl)) pad_nil))) (pad_cons (pv_ixT (pv_var 0 rfl rfl) pv_int rfl) pad_nil)))))
def FUnsheared : List PyData → PyData → Prop := fun ds d => ∃ (t : Tn) (o : Bool) (z : Px), ds = [tnD t, .str (odW o), pxD z] ∧ TnOk t ∧ PxB 1000 z ∧ d = pxD (unM t o z)
theorem ok_unsheared (R : Raw G "unsheared" s_unsheared) (D1 : Def G "need_sheared" 5 ["turn", "order", "pixel"] (SpD G.K FNeedSh)) (D2 : Def G "quartered" 1 ["pixel", "times"] (SpD G.K FQuart)) (D3 : Def G "before_steps" 3 ["chain", "pixel"] (SpD G.K FBefore)) (D4 : Def G "chain_in" 2 ["turn", "order"] (SpD G.K FChain)) : Def G "unsheared" 6 ["turn", "order", "pixel"] (SpD G.K FUnsheared) := by
  refine def_mk R sc_unsheared (by rintro ds d ⟨t, o, z, rfl, _, _, rfl⟩; rfl) (fun _ _ _ _ _ _ us hl => match us, hl with | [_, _, _], _ => rfl) fun C M hc ds d hF => .inl ?_
  obtain ⟨t, o, z, rfl, ht, hz, rfl⟩ := hF
  exact sd_cons (s1_expr (pv_call D1 ⟨t, o, z, rfl, ht, rfl⟩ (pad_cons ((pv_var 0 rfl rfl)) (pad_cons ((pv_var 1 rfl rfl)) (pad_cons ((pv_var 2 rfl rfl)) pad_nil))))) (sd_ret (s1_ret (pv_call D3 ⟨chainM t o, quart z (-t.2.2), rfl, chain_ChOk ht o, quart_bd hz, rfl⟩ (pad_cons (pv_call D4 ⟨t, o, rfl, ht, rfl⟩ (pad_cons ((pv_var 0 rfl rfl)) (pad_cons ((pv_var 1 rfl rfl)) pad_nil))) (pad_cons (pv_call D2 ⟨z, -t.2.2, rfl, rfl⟩ (pad_cons ((pv_var 2 rfl rfl)) (pad_cons (pv_neg (i := t.2.2) (pv_ixT (pv_var 0 rfl rfl) pv_int rfl)) pad_nil))) pad_nil)))))
theorem nth_px {ps : List Px} {i : Nat} (h : i < (ps.map pxD).length) : ∃ z, ps[i]? = some z ∧ z ∈ ps ∧ nth (ps.map pxD) i = pxD z := by
  rw [List.length_map] at h
  exact ⟨ps[i], List.getElem?_eq_getElem h, List.getElem_mem h, nth_map pxD h⟩
/-- what a comprehension with one value an item makes -/
theorem made_map {α : Type} (f : α → PyData) (xs : List α) {n : Nat} (hn : n = xs.length) (d : PyData) : made (fun _ => true) (fun i => (xs.map f).getD i d) n = xs.map f := by
  rw [made_true]
  refine List.ext_getElem? fun i => ?_
  rw [List.getElem?_map]
  by_cases h : i < n
  · rw [List.getElem?_range h, List.getElem?_map]
    have h2 : i < xs.length := by omega
    rw [List.getElem?_eq_getElem h2]
    simp [h2]
  · rw [List.getElem?_eq_none (by rw [List.length_range]; omega), List.getElem?_eq_none (by rw [List.length_map]; omega)]
    rfl
theorem getD_map {α : Type} (f : α → PyData) {xs : List α} {i : Nat} {x : α} (h : xs[i]? = some x) (d : PyData) : (xs.map f).getD i d = f x := by
  rw [List.getD_eq_getElem?_getD, List.getElem?_map, h]
  rfl
def FPic : List PyData → PyData → Prop := fun ds d => ∃ (t : Tn) (o : Bool) (ps : List Px), ds = [tnD t, .str (odW o), .list (ps.map pxD)] ∧ TnOk t ∧ ps.length ≤ 400 ∧ AscP ps ∧ (∀ z ∈ ps, PxB 1000 z) ∧ d = .list ((sortP (ps.map (shM t o))).map pxD)
theorem ok_sheared_picture (Z : Free G) (R : Raw G "sheared_picture" s_sheared_picture) (D1 : Def G "shear_chain" 5 ["turn", "order"] (SpD G.K FChain)) (D2 : Def G "need_pixels" 4 ["pixels"] (SpD G.K FNeedPxs)) (D3 : Def G "sheared" 6 ["turn", "order", "pixel"] (SpD G.K FSheared)) : Def G "sheared_picture" 7 ["turn", "order", "pixels"] (SpD G.K FPic) := by
  refine def_mk R sc_sheared_picture (by rintro ds d ⟨t, o, z, rfl, _, _, _, _, rfl⟩; rfl) (fun _ _ _ _ _ _ us hl => match us, hl with | [_, _, _], _ => rfl) fun C M hc ds d hF => .inl ?_
  obtain ⟨t, o, ps, rfl, ht, hl, ha, hz, rfl⟩ := hF
  have e1 : (ps.map pxD).length = ps.length := List.length_map ..
  refine sd_cons (s1_expr (pv_call D1 ⟨t, o, rfl, ht, rfl⟩ (pad_cons ((pv_var 0 rfl rfl)) (pad_cons ((pv_var 1 rfl rfl)) pad_nil)))) (sd_cons (s1_expr (pv_call D2 ⟨ps, rfl, hl, ha, rfl⟩ (pad_cons ((pv_var 2 rfl rfl)) pad_nil))) (sd_ret (s1_ret (pv_sortedP ?_ Z.sorted))))
  refine PV.is (pv_lc1 (m := (ps.map pxD).length) 3 (keep := fun _ => true) (items := nth (ps.map pxD)) (out := fun i => ((ps.map (shM t o)).map pxD).getD i .none) pi_listC (blkOk_by (by decide +kernel)) rfl rfl (by rw [e1]; omega) (wlk_list (pv_var 2 rfl rfl)) (fun i hi M' => ptsd_nil) fun i hi _ M' => ?_) (congrArg _ (made_map pxD (ps.map (shM t o)) (by rw [e1, List.length_map]) .none))
  obtain ⟨z, h1, h2, h3⟩ := nth_px hi
  rw [h3, getD_map (x := shM t o z) pxD (by rw [List.getElem?_map, h1]; rfl)]
  exact pv_call D3 ⟨t, o, z, rfl, ht, hz z h2, rfl⟩ (pad_cons ((pv_var 0 rfl rfl)) (pad_cons ((pv_var 1 rfl rfl)) (pad_cons ((pv_var 3 rfl rfl)) pad_nil)))
end
end TP

/-! K12: the law's own defs that draw nothing -/
namespace TP
open PySem PySem.Spec PyProof.Rows L2
section
variable {G : Glb}
theorem ok_law_common (Z : Free G) (R : Raw G "_law_common" s_law_common) : Def G "_law_common" 1 ["_law_one", "_law_two"] (SpD G.K FCommon) := by
  refine def_mk R sc_law_common (by rintro ds d ⟨n, m, rfl, rfl⟩; rfl) (fun _ _ _ _ _ _ us hl => match us, hl with | [_, _], _ => rfl) fun C M hc ds d hF => .inl ?_
  obtain ⟨i, j, rfl, rfl⟩ := hF
  obtain ⟨n, p1, p2, p3⟩ := euclid j.natAbs (i.natAbs : Int) (Int.natCast_nonneg _)
  refine sd_cons (s1_par 0 1 (pad_cons (pv_abs (pv_var 0 rfl rfl) Z.abs) (pad_cons (pv_abs (pv_var 1 rfl rfl) Z.abs) pad_nil))) (sd_cons (s1_while (n := n) (fun l => [some (.int (eSeq ((i.natAbs : Int), (j.natAbs : Int)) l).1), some (.int (eSeq ((i.natAbs : Int), (j.natAbs : Int)) l).2)]) rfl
    (fun l hl => PTD.is (ptd_gt (pv_var 1 rfl rfl) pv_int) (decide_eq_true (p1 l hl))) (fun l hl => sd_cons (s1_par 0 1 (pad_cons ((pv_var 1 rfl rfl)) (pad_cons (pv_mod (p1 l hl) (pv_intI (pv_var 0 rfl rfl) Z.int) (pv_var 1 rfl rfl)) pad_nil))) sd_nil) (PTD.is (ptd_gt (pv_var 1 rfl rfl) pv_int) ?_)) (sd_ret (s1_ret (PV.is (pv_var 0 rfl rfl) ?_))))
  · rw [p2]
    rfl
  · rw [p3]
    show PyData.int (Int.gcd (i.natAbs : Int) (j.natAbs : Int) : Int) = _
    rw [show Int.gcd (i.natAbs : Int) (j.natAbs : Int) = Int.gcd i j by simp [Int.gcd]]
/-! ### _law_swung -/
def FSwung : List PyData → PyData → Prop := fun ds d => ∃ (z : Px) (n : Int), ds = [pxD z, .int n] ∧ PxB 4000 z ∧ d = pxD (quart z n)
def unitT (n : Int) : Tn := (1, 0, n % 4)
theorem unitT_ok (n : Int) : TnOk (unitT n) := by
  have h0 := Int.emod_nonneg n (show (4 : Int) ≠ 0 by decide)
  have h4 := Int.emod_lt_of_pos n (show (0 : Int) < 4 by decide)
  exact ⟨(by decide : (((0 : Int).natAbs : Nat) : Int) < 1), (by decide : (1 : Int) ≤ 1000000000000000), h0, (by show n % 4 ≤ 3; omega), (by decide : ((1 : Int) + 0) % 2 = 1), (by decide : Int.gcd 1 0 = 1)⟩
theorem rnd_one (x : Int) : rnd x 1 = x := by
  unfold rnd
  omega
theorem imgQ_unit (n : Int) (z : Px) : imgQ (unitT n) z = quart z n := by
  have e : img (unitT n) z = z := by
    have a : lA (unitT n) = 1 := rfl
    have b : lB (unitT n) = 0 := rfl
    have c : lC (unitT n) = 1 := rfl
    unfold img plc
    rw [a, b, c, rnd_one, rnd_one]
    simp
  unfold imgQ
  rw [e]
  exact quart_mod z n
theorem ok_law_swung (Z : Free G) (R : Raw G "_law_swung" s_law_swung) (D1 : Def G "image" 6 ["turn", "pixel"] (SpD G.K FImg)) : Def G "_law_swung" 7 ["_law_dot_here", "_law_many"] (SpD G.K FSwung) := by
  refine def_mk R sc_law_swung (by rintro ds d ⟨n, m, rfl, _, rfl⟩; rfl) (fun _ _ _ _ _ _ us hl => match us, hl with | [_, _], _ => rfl) fun C M hc ds d hF => .inl ?_
  obtain ⟨z, n, rfl, hz, rfl⟩ := hF
  exact sd_ret (s1_ret (pv_call D1 ⟨unitT n, z, rfl, unitT_ok n, hz, by rw [imgQ_unit]⟩ (pad_cons (pv_tup (pad_cons (pv_int) (pad_cons (pv_int) (pad_cons (pv_mod (by decide) (pv_intI (pv_var 1 rfl rfl) Z.int) pv_int) pad_nil)))) (pad_cons ((pv_var 0 rfl rfl)) pad_nil))))
/-! ### _law_lines_right -/
def FLines : List PyData → PyData → Prop := fun ds d => ∃ (t : Tn) (o : Bool), ds = [tnD t, .str (odW o)] ∧ TnOk t ∧ d = .bool true
theorem bools_ne {d : PyData} (h : PyData.eqv d d = true) : (!PyData.eqv d d) = false := by rw [h]; rfl
theorem ok_law_lines_right (Z : Free G) (R : Raw G "_law_lines_right" s_law_lines_right) (D1 : Def G "legs_of" 5 ["turn"] (SpD G.K FWhole)) (D2 : Def G "shear_chain" 5 ["turn", "order"] (SpD G.K FChain)) (D3 : Def G "is_chain" 3 ["value"] (SpD G.K FIsCh)) (D4 : Def G "matrix_of" 4 ["chain"] (SpD G.K FMat))
    (D5 : Def G "shows_chain" 5 ["matrix", "value"] (SpD G.K FShows)) (D6 : Def G "fewest_shears" 5 ["matrix"] (SpD G.K FFew)) (D7 : Def G "chain_for" 5 ["matrix"] (SpD G.K FChFor)) (D8 : Def G "back" 5 ["turn"] (SpD G.K FBack)) : Def G "_law_lines_right" 6 ["_law_spin_here", "_law_sort"] (SpD G.K FLines) := by
  refine def_mk R sc_law_lines_right (by rintro ds d ⟨n, m, rfl, _, rfl⟩; rfl) (fun _ _ _ _ _ _ us hl => match us, hl with | [_, _], _ => rfl) fun C M hc ds d hF => .inl ?_
  obtain ⟨t, o, rfl, ht, rfl⟩ := hF
  have h0 : TnOk (t.1, t.2.1, (0 : Int)) := ⟨ht.hq, ht.hp, Int.le_refl 0, (by decide : (0 : Int) ≤ 3), ht.odd, ht.cop⟩
  have ch := chain_ChOk ht o
  have chB := chain_ChOk ht.back o
  have ch2 : ChOk (chainM t o ++ chainM (backT t) o) := ⟨by rw [List.length_append, chainM_len t o, chainM_len (backT t) o]; decide, app_ok ch.2 chB.2⟩
  have ch3 : ChOk (chainM t o ++ chainM t o) := ⟨by rw [List.length_append, chainM_len t o]; decide, app_ok ch.2 ch.2⟩
  obtain ⟨cw, cl⟩ := line_cw ht
  have lo := lineM_ok ht
  have bA := ht.bA
  have bB := ht.bB
  have bC := ht.bC
  have mapp : ∀ ss rs : List Stp, PyData.list (ss.map stD ++ rs.map stD) = chD (ss ++ rs) := fun ss rs => by
    unfold chD
    rw [List.map_append]
  have hlen : ∀ ss rs : List Stp, ss.length + rs.length ≤ 8 → (ss.map stD).length + (rs.map stD).length ≤ sizeLine := fun ss rs h => by
    rw [List.length_map, List.length_map, sizeLine_eq]
    omega
  have l3 := chainM_len t o
  have l3b := chainM_len (backT t) o
  refine sd_cons (s1_unp (ds := [.int (lA t), .int (lB t), .int (lC t)]) (pgs_consC 2 rfl (.inl rfl) (.inr rfl) (pgs_consC 3 rfl (.inl rfl) (.inr rfl) (pgs_consC 4 rfl (.inl rfl) (.inr rfl) pgs_nilC))) rfl rfl (pv_call D1 ⟨(t.1, t.2.1, (0 : Int)), rfl, h0, rfl⟩ (pad_cons (pv_tup (pad_cons (pv_ixT (d := .int t.1) (pv_var 0 rfl rfl) pv_int rfl) (pad_cons (pv_ixT (d := .int t.2.1) (pv_var 0 rfl rfl) pv_int rfl) (pad_cons (pv_int) pad_nil)))) pad_nil))) ?_
  refine sd_cons (s1_par 5 6 (pad_cons (pv_call D2 ⟨t, o, rfl, ht, rfl⟩ (pad_cons ((pv_var 0 rfl rfl)) (pad_cons ((pv_var 1 rfl rfl)) pad_nil))) (pad_cons (PV.is (d' := mtD (lineM t)) (pv_tup (pad_cons ((pv_var 2 rfl rfl)) (pad_cons (pv_neg (i := lB t) (pv_var 3 rfl rfl)) (pad_cons ((pv_var 3 rfl rfl)) (pad_cons ((pv_var 2 rfl rfl)) (pad_cons ((pv_var 4 rfl rfl)) pad_nil)))))) rfl) pad_nil))) ?_
  refine sd_cons (s1_ifF (PWD.ptd (pwd_or_f (ptd_not (ptd_val (pv_call D3 ⟨chainM t o, rfl, ch, rfl⟩ (pad_cons ((pv_var 5 rfl rfl)) pad_nil)))) (pwd_or_f (PTD.is (ptd_ne (d1 := mtD (lineM t)) (mt_shaped _) (mt_shaped (lineM t)) (pv_call D4 ⟨chainM t o, rfl, ch, by rw [mat_chain ht o]⟩ (pad_cons ((pv_var 5 rfl rfl)) pad_nil)) (pv_var 6 rfl rfl)) (bools_ne (mt_eqv _))) (pwd_or1 (ptd_not (ptd_val (pv_call D5 ⟨lineM t, chainM t o, rfl, lo, cw.b, ch, mat_chain ht o, rfl⟩ (pad_cons ((pv_var 6 rfl rfl)) (pad_cons ((pv_var 5 rfl rfl)) pad_nil))))))))) sd_nil) ?_
  have e3 : (3 : Int) * (if (!PyData.eqv (.int t.2.1) (.int 0)) = true then 1 else 0) = ((cwL (lineM t)).length : Int) := by
    rw [cl]
    by_cases hq : t.2.1 = 0
    · rw [if_pos hq, eqI_true hq]
      rfl
    · rw [if_neg hq, eqI_false hq]
      rfl
  refine sd_cons (s1_ifF (PWD.ptd (pwd_or_f (PTD.is (ptd_ne (d2 := .int ((cwL (lineM t)).length : Int)) rfl rfl (pv_call D6 ⟨lineM t, rfl, cw, lo, rfl⟩ (pad_cons ((pv_var 6 rfl rfl)) pad_nil)) (PV.is (pv_mul (i := 3) (j := if (!PyData.eqv (.int t.2.1) (.int 0)) = true then 1 else 0) (cmul (m := 2) (n := 2) (by unfold Bd; decide) (by unfold Bd; split <;> decide)) pv_int (pv_intB (pv_ne rfl rfl (pv_ixT (d := .int t.2.1) (pv_var 0 rfl rfl) pv_int rfl) pv_int) Z.int)) (congrArg _ e3))) (bools_ne (eqI_true rfl)))
    (pwd_or1 (PTD.is (ptd_ne (d1 := .int ((cwL (lineM t)).length : Int)) rfl rfl (pv_lenL (ds := cwL (lineM t)) (pv_call D7 ⟨lineM t, rfl, cw, lo, rfl⟩ (pad_cons ((pv_var 6 rfl rfl)) pad_nil)) Z.len) (pv_call D6 ⟨lineM t, rfl, cw, lo, rfl⟩ (pad_cons ((pv_var 6 rfl rfl)) pad_nil))) (bools_ne (eqI_true rfl)))))) sd_nil) ?_
  refine sd_cons (s1_asg 7 (pv_call D2 ⟨backT t, o, rfl, ht.back, rfl⟩ (pad_cons (pv_call D8 ⟨t, rfl, ht, rfl⟩ (pad_cons ((pv_var 0 rfl rfl)) pad_nil)) (pad_cons ((pv_var 1 rfl rfl)) pad_nil)))) ?_
  refine sd_cons (s1_ifF (PWD.ptd (pwd_or_f (PTD.is (ptd_ne (d1 := mtD Mt.one) (d2 := mtD Mt.one) (mt_shaped _) (mt_shaped _) (pv_call D4 ⟨chainM t o ++ chainM (backT t) o, rfl, ch2, by rw [mat_back ht o]⟩ (pad_cons (PV.is (pv_cat (ds := (chainM t o).map stD) (es := (chainM (backT t) o).map stD) (hlen _ _ (by omega)) (pv_var 5 rfl rfl) (pv_var 7 rfl rfl)) (mapp _ _)) pad_nil)) (pv_tup (pad_cons (pv_int) (pad_cons (pv_int) (pad_cons (pv_int) (pad_cons (pv_int) (pad_cons (pv_int) pad_nil))))))) (bools_ne (mt_eqv _)))
    (pwd_or1 (PTD.is (ptd_ne (d1 := mtD (lineM (backT t))) (d2 := mtD (lineM (backT t))) (mt_shaped _) (mt_shaped _) (pv_call D4 ⟨chainM (backT t) o, rfl, chB, by rw [mat_chain ht.back o]⟩ (pad_cons ((pv_var 7 rfl rfl)) pad_nil)) (PV.is (pv_tup (pad_cons ((pv_var 2 rfl rfl)) (pad_cons ((pv_var 3 rfl rfl)) (pad_cons (pv_neg (i := lB t) (pv_var 3 rfl rfl)) (pad_cons ((pv_var 2 rfl rfl)) (pad_cons ((pv_var 4 rfl rfl)) pad_nil)))))) (by rw [lineM_back]; rfl))) (bools_ne (mt_eqv _)))))) sd_nil) ?_
  refine sd_ret (s1_ret (PV.is (pv_eq (d1 := mtD (twiceM t)) (d2 := mtD (twiceM t)) (mt_shaped _) (mt_shaped _) (pv_call D4 ⟨chainM t o ++ chainM t o, rfl, ch3, by rw [mat_twice ht o]⟩ (pad_cons (PV.is (pv_cat (ds := (chainM t o).map stD) (es := (chainM t o).map stD) (hlen _ _ (by omega)) (pv_var 5 rfl rfl) (pv_var 5 rfl rfl)) (mapp _ _)) pad_nil)) ?_) (congrArg _ (mt_eqv _))))
  exact pv_tup (pad_cons (pv_sub (i := lA t * lA t) (j := lB t * lB t) (pv_mul (cmul bA bA) (pv_var 2 rfl rfl) (pv_var 2 rfl rfl)) (pv_mul (cmul bB bB) (pv_var 3 rfl rfl) (pv_var 3 rfl rfl))) (pad_cons (pv_mul (i := -2 * lA t) (j := lB t) (cmul ((bd2.neg).mul bA) bB) (pv_mul (i := -2) (cmul bd2.neg bA) (pv_neg pv_int) (pv_var 2 rfl rfl)) (pv_var 3 rfl rfl)) (pad_cons (pv_mul (i := 2 * lA t) (j := lB t) (cmul (bd2.mul bA) bB) (pv_mul (cmul bd2 bA) pv_int (pv_var 2 rfl rfl)) (pv_var 3 rfl rfl)) (pad_cons (pv_sub (i := lA t * lA t) (j := lB t * lB t) (pv_mul (cmul bA bA) (pv_var 2 rfl rfl) (pv_var 2 rfl rfl)) (pv_mul (cmul bB bB) (pv_var 3 rfl rfl) (pv_var 3 rfl rfl))) (pad_cons (pv_mul (i := lC t) (j := lC t) (cmul bC bC) (pv_var 4 rfl rfl) (pv_var 4 rfl rfl)) pad_nil)))))
/-! ### _law_dots_right -/
def FDots : List PyData → PyData → Prop := fun ds d => ∃ (t : Tn) (o : Bool) (ps : List Px), ds = [tnD t, .str (odW o), .list (ps.map pxD)] ∧ TnOk t ∧ (∀ z ∈ ps, PxB 200 z) ∧ d = .bool true
theorem px_ne {z w : Px} (h : z = w) : (!PyData.eqv (pxD z) (pxD w)) = false := by
  rw [px_eqv, decide_eq_true h]
  rfl
theorem ok_law_dots_right (R : Raw G "_law_dots_right" s_law_dots_right) (D1 : Def G "shear_chain" 5 ["turn", "order"] (SpD G.K FChain)) (D2 : Def G "sheared" 6 ["turn", "order", "pixel"] (SpD G.K FSheared)) (D3 : Def G "_law_swung" 7 ["_law_dot_here", "_law_many"] (SpD G.K FSwung)) (D4 : Def G "after_chain" 5 ["chain", "pixel"] (SpD G.K FAfter))
    (D5 : Def G "unsheared" 6 ["turn", "order", "pixel"] (SpD G.K FUnsheared)) (D6 : Def G "before_chain" 5 ["chain", "pixel"] (SpD G.K FBefore)) : Def G "_law_dots_right" 8 ["_law_spin_here", "_law_sort", "_law_dots_here"] (SpD G.K FDots) := by
  refine def_mk R sc_law_dots_right (by rintro ds d ⟨n, m, l, rfl, _, _, rfl⟩; rfl) (fun _ _ _ _ _ _ us hl => match us, hl with | [_, _, _], _ => rfl) fun C M hc ds d hF => .inl ?_
  obtain ⟨t, o, ps, rfl, ht, hz, rfl⟩ := hF
  have ch := chain_ChOk ht o
  refine sd_cons (s1_asg 3 (pv_call D1 ⟨t, o, rfl, ht, rfl⟩ (pad_cons ((pv_var 0 rfl rfl)) (pad_cons ((pv_var 1 rfl rfl)) pad_nil)))) (sd_cons (s1_for (n := (ps.map pxD).length) (items := nth (ps.map pxD)) (g := gName 4) (fun i => [some (tnD t), some (.str (odW o)), some (.list (ps.map pxD)), some (chD (chainM t o)), none]) (fun i => [some (tnD t), some (.str (odW o)), some (.list (ps.map pxD)), some (chD (chainM t o)), some (nth (ps.map pxD) i)])
    pi_listC (wlk_list (pv_var 2 rfl rfl)) (pg_nameC 4 rfl (.inl rfl) (.inr rfl)) rfl (fun i hi => tg_name 4) (fun i hi => ?_)) (sd_ret (s1_ret pv_bl)))
  obtain ⟨z, h1, h2, h3⟩ := nth_px hi
  rw [h3]
  have zb := hz z h2
  have zb1 : PxB 1000 z := zb.mono (by decide)
  have ab : PxB 4000 (afterM (chainM t o) z) := (afterM_bd ch.2 zb).mono (by rw [chainM_len]; decide)
  refine SD.weak (sd_cons (s1_ifF (PTD.is (ptd_ne (px_shaped (shM t o z)) (px_shaped (quart (afterM (chainM t o) z) t.2.2)) (pv_call D2 ⟨t, o, z, rfl, ht, zb1, rfl⟩ (pad_cons ((pv_var 0 rfl rfl)) (pad_cons ((pv_var 1 rfl rfl)) (pad_cons ((pv_var 4 rfl rfl)) pad_nil)))) (pv_call D3 ⟨afterM (chainM t o) z, t.2.2, rfl, ab, rfl⟩ (pad_cons (pv_call D4 ⟨chainM t o, z, rfl, ch, zb1, rfl⟩ (pad_cons ((pv_var 3 rfl rfl)) (pad_cons ((pv_var 4 rfl rfl)) pad_nil))) (pad_cons (pv_ixT (pv_var 0 rfl rfl) pv_int rfl) pad_nil)))) (px_ne rfl)) sd_nil)
    (sd_cons (s1_ifF (PTD.is (ptd_ne (px_shaped (unM t o z)) (px_shaped (beforeM (chainM t o) (quart z (4 - t.2.2)))) (pv_call D5 ⟨t, o, z, rfl, ht, zb1, rfl⟩ (pad_cons ((pv_var 0 rfl rfl)) (pad_cons ((pv_var 1 rfl rfl)) (pad_cons ((pv_var 4 rfl rfl)) pad_nil)))) (pv_call D6 ⟨chainM t o, quart z (4 - t.2.2), rfl, ch, quart_bd zb1, rfl⟩ (pad_cons ((pv_var 3 rfl rfl)) (pad_cons (pv_call D3 ⟨z, 4 - t.2.2, rfl, zb.mono (by decide), rfl⟩ (pad_cons ((pv_var 4 rfl rfl)) (pad_cons (pv_sub (i := 4) (j := t.2.2) pv_int (pv_ixT (pv_var 0 rfl rfl) pv_int rfl)) pad_nil))) pad_nil)))) (px_ne (by unfold unM; rw [quart_back]))) sd_nil) sd_nil)) (wk_same (wk_same (wk_same (wk_same (wk_none wk_nil)))))
end
end TP

/-! K13: _law_parted_right -/
namespace TP
open PySem PySem.Spec PyProof.Rows L2
section
variable {G : Glb}
def FParted : List PyData → PyData → Prop := fun ds d => ∃ (t : Tn) (r : Int), ds = [tnD t, .int r] ∧ TnOk t ∧ 0 ≤ r ∧ r ≤ 30 ∧ d = .bool true
theorem sh_parts {t : Tn} {z : Px} : shM t true z = shM t false z ↔ ¬ Parts (chainM t true) (chainM t false) z := by
  unfold Parts shM
  constructor
  · intro h
    exact fun n => n (quart_inj h)
  · intro h
    rw [Classical.not_not.mp h]
/-- what the law asks at one pixel is not broken -/
theorem part_test {ss rs : List Stp} {r : Int} {f : PyData} (h : IsPart ss rs r f) {i j : Nat} (hi : i < sideN r) (hj : j < sideN r) :
    (Parts ss rs (at2 r i j) → ∃ w, f = pxD w ∧ ltP2 (at2 r i j) w = false) ∧ (¬ Parts ss rs (at2 r i j) → f = .none ∨ ∃ w, f = pxD w ∧ w ≠ at2 r i j) := by
  rcases h with ⟨rfl, h⟩ | ⟨i0, j0, h1, h2, rfl, hP, hI, hJ⟩
  · exact ⟨fun p => absurd p (h i j hi hj), fun _ => .inl rfl⟩
  · refine ⟨fun p => ⟨_, rfl, ?_⟩, fun np => .inr ⟨_, rfl, fun e => np (e ▸ hP)⟩⟩
    cases hq : ltP2 (at2 r i j) (at2 r i0 j0) with
    | false => rfl
    | true =>
      exfalso
      rcases ltP2_iff.mp hq with h | ⟨ha, hb⟩
      · have h' : -r + (i : Int) < -r + (i0 : Int) := h
        exact hI i j (by omega) hj p
      · have ha' : -r + (i : Int) = -r + (i0 : Int) := ha
        have hb' : -r + (j : Int) < -r + (j0 : Int) := hb
        have e : i = i0 := by omega
        subst e
        exact hJ j (by omega) p
theorem ok_law_parted_right (Z : Free G) (R : Raw G "_law_parted_right" s_law_parted_right) (D1 : Def G "shear_chain" 5 ["turn", "order"] (SpD G.K FChain)) (D2 : Def G "first_parting" 4 ["chain", "second", "reach"] (SpD G.K FPart)) (D3 : Def G "sheared" 6 ["turn", "order", "pixel"] (SpD G.K FSheared)) : Def G "_law_parted_right" 7 ["_law_spin_here", "_law_far"] (SpD G.K FParted) := by
  refine def_mk R sc_law_parted_right (by rintro ds d ⟨n, m, rfl, _, _, _, rfl⟩; rfl) (fun _ _ _ _ _ _ us hl => match us, hl with | [_, _], _ => rfl) fun C M hc ds d hF => .inl ?_
  obtain ⟨t, r, rfl, ht, h0, h30, rfl⟩ := hF
  obtain ⟨f, hf⟩ := part_ex (chainM t true) (chainM t false) r
  have chT := chain_ChOk ht true
  have chF := chain_ChOk ht false
  have b1 : -(2 ^ 62) ≤ -r ∧ -r < 2 ^ 62 := ⟨by omega, by omega⟩
  have b2 : -(2 ^ 62) ≤ r + 1 ∧ r + 1 < 2 ^ 62 := ⟨by omega, by omega⟩
  refine sd_cons (s1_setLc1 (m := 2) 2 7 (keep := fun _ => true) (items := nth [.str "xyx", .str "yxy"]) (out := nth [chD (chainM t true), chD (chainM t false)]) rfl rfl pi_tupC (blkOk_by (by decide +kernel)) rfl rfl (by decide) (wlk_tup (pv_tup (pad_cons (pv_str) (pad_cons (pv_str) pad_nil)))) (fun i hi M' => ptsd_nil) (fun i hi _ M' => ?_) (fun env he => sw_true (by rw [he]; rfl) (by rw [he]; rfl) rfl (by decide +kernel))) ?_
  · match i, hi with
    | 0, _ => exact pv_call D1 ⟨t, true, rfl, ht, rfl⟩ (pad_cons ((pv_var 0 rfl rfl)) (pad_cons ((pv_var 7 rfl rfl)) pad_nil))
    | 1, _ => exact pv_call D1 ⟨t, false, rfl, ht, rfl⟩ (pad_cons ((pv_var 0 rfl rfl)) (pad_cons ((pv_var 7 rfl rfl)) pad_nil))
  refine sd_cons (s1_asg 3 (pv_call D2 ⟨chainM t true, chainM t false, r, rfl, chT, chF, h0, h30, hf⟩ (pad_cons (pv_ixL (ds := [chD (chainM t true), chD (chainM t false)]) (pv_var 2 rfl rfl) pv_int rfl) (pad_cons (pv_ixL (ds := [chD (chainM t true), chD (chainM t false)]) (pv_var 2 rfl rfl) pv_int rfl) (pad_cons ((pv_var 1 rfl rfl)) pad_nil))))) ?_
  refine SD.from (δ1 := [some (tnD t), some (.int r), some (.list [chD (chainM t true), chD (chainM t false)]), some f, none, none, none, none]) ?_ ⟨rfl, fun i d h => ?_⟩
  · refine sd_cons (s1_for (n := sideN r) (items := fun i => .int (-r + (i : Int))) (g := gName 4) (fun i => [some (tnD t), some (.int r), some (.list [chD (chainM t true), chD (chainM t false)]), some f, none, none, none, none]) (fun i => [some (tnD t), some (.int r), some (.list [chD (chainM t true), chD (chainM t false)]), some f, some (.int (-r + (i : Int))), none, none, none]) (pi_range2C Z.range) (wlk_range2 (pad_cons (pv_neg (pv_var 1 rfl rfl)) (pad_cons (pv_add (pv_var 1 rfl rfl) pv_int) pad_nil)) b1 b2) (pg_nameC 4 rfl (.inl rfl) (.inr rfl)) rfl (fun i hi => tg_name 4) (fun i hii => ?_)) (sd_ret (s1_ret pv_bl))
    refine SD.weak (sd_cons (s1_for (n := sideN r) (items := fun j => .int (-r + (j : Int))) (g := gName 5) (fun j => [some (tnD t), some (.int r), some (.list [chD (chainM t true), chD (chainM t false)]), some f, some (.int (-r + (i : Int))), none, none, none]) (fun j => [some (tnD t), some (.int r), some (.list [chD (chainM t true), chD (chainM t false)]), some f, some (.int (-r + (i : Int))), some (.int (-r + (j : Int))), none, none]) (pi_range2C Z.range) (wlk_range2 (pad_cons (pv_neg (pv_var 1 rfl rfl)) (pad_cons (pv_add (pv_var 1 rfl rfl) pv_int) pad_nil)) b1 b2) (pg_nameC 5 rfl (.inl rfl) (.inr rfl)) rfl (fun j hj => tg_name 5) (fun j hjj => ?_)) sd_nil) (wk_same (wk_same (wk_same (wk_same (wk_none (wk_none (wk_none (wk_none wk_nil))))))))
    have zb := at2_bd h0 h30 hii hjj
    obtain ⟨tp, tn⟩ := part_test hf hii hjj
    refine SD.weak (δ1 := [some (tnD t), some (.int r), some (.list [chD (chainM t true), chD (chainM t false)]), some f, some (.int (-r + (i : Int))), some (.int (-r + (j : Int))), some (.bool (!PyData.eqv (pxD (shM t true (at2 r i j))) (pxD (shM t false (at2 r i j))))), none]) (sd_cons (s1_asg 6 (pv_ne (px_shaped _) (px_shaped _) (pv_call D3 ⟨t, true, at2 r i j, rfl, ht, zb, rfl⟩ (pad_cons ((pv_var 0 rfl rfl)) (pad_cons (pv_str) (pad_cons (pv_tup (pad_cons ((pv_var 4 rfl rfl)) (pad_cons ((pv_var 5 rfl rfl)) pad_nil))) pad_nil)))) (pv_call D3 ⟨t, false, at2 r i j, rfl, ht, zb, rfl⟩ (pad_cons ((pv_var 0 rfl rfl)) (pad_cons (pv_str) (pad_cons (pv_tup (pad_cons ((pv_var 4 rfl rfl)) (pad_cons ((pv_var 5 rfl rfl)) pad_nil))) pad_nil)))))) ?_) (wk_same (wk_same (wk_same (wk_same (wk_same (wk_none (wk_none (wk_none wk_nil))))))))
    by_cases hP : Parts (chainM t true) (chainM t false) (at2 r i j)
    · obtain ⟨w, rfl, hw⟩ := tp hP
      have e : (!PyData.eqv (pxD (shM t true (at2 r i j))) (pxD (shM t false (at2 r i j)))) = true := by
        rw [px_eqv, decide_eq_false (fun z => sh_parts.mp z hP)]
        rfl
      rw [e]
      refine sd_cons (s1_ifF (PWD.ptd (pwd_or_f (PWD.ptd (pwd_and_t (ptd_val (pv_var 6 rfl rfl)) (pwd_and1 (PWD.ptd (pwd_or_f (PTD.is (ptd_isN (d := pxD w) (pv_var 3 rfl rfl) pv_non) rfl) (pwd_or1 (PTD.is (ptd_gtP (z := w) (w := at2 r i j) (pv_var 3 rfl rfl) (pv_tup (pad_cons ((pv_var 4 rfl rfl)) (pad_cons ((pv_var 5 rfl rfl)) pad_nil)))) hw))))))) (pwd_or1 (PWD.ptd ?_)))) sd_nil) sd_nil
      by_cases ew : w = at2 r i j
      · exact pwd_and_t (PTD.is (ptd_eq (px_shaped w) (px_shaped (at2 r i j)) (pv_var 3 rfl rfl) (pv_tup (pad_cons ((pv_var 4 rfl rfl)) (pad_cons ((pv_var 5 rfl rfl)) pad_nil)))) (by rw [px_eqv, decide_eq_true ew])) (pwd_and1 (PTD.is (ptd_not (ptd_val (v := true) (pv_var 6 rfl rfl))) rfl))
      · exact pwd_and_f (PTD.is (ptd_eq (px_shaped w) (px_shaped (at2 r i j)) (pv_var 3 rfl rfl) (pv_tup (pad_cons ((pv_var 4 rfl rfl)) (pad_cons ((pv_var 5 rfl rfl)) pad_nil)))) (by rw [px_eqv, decide_eq_false ew]))
    · have e : (!PyData.eqv (pxD (shM t true (at2 r i j))) (pxD (shM t false (at2 r i j)))) = false := by
        rw [px_eqv, decide_eq_true (sh_parts.mpr hP)]
        rfl
      rw [e]
      rcases tn hP with rfl | ⟨w, rfl, hw⟩
      · exact sd_cons (s1_ifF (PWD.ptd (pwd_or_f (PWD.ptd (pwd_and_f (ptd_val (pv_var 6 rfl rfl)))) (pwd_or1 (PWD.ptd (pwd_and_f (PTD.is (ptd_eq (d1 := .none) rfl (px_shaped (at2 r i j)) (pv_var 3 rfl rfl) (pv_tup (pad_cons ((pv_var 4 rfl rfl)) (pad_cons ((pv_var 5 rfl rfl)) pad_nil)))) rfl)))))) sd_nil) sd_nil
      · exact sd_cons (s1_ifF (PWD.ptd (pwd_or_f (PWD.ptd (pwd_and_f (ptd_val (pv_var 6 rfl rfl)))) (pwd_or1 (PWD.ptd (pwd_and_f (PTD.is (ptd_eq (px_shaped w) (px_shaped (at2 r i j)) (pv_var 3 rfl rfl) (pv_tup (pad_cons ((pv_var 4 rfl rfl)) (pad_cons ((pv_var 5 rfl rfl)) pad_nil)))) (by rw [px_eqv, decide_eq_false hw]))))))) sd_nil) sd_nil
  · match i, h with
    | 0, h => exact h
    | 1, h => exact h
    | 2, h => exact h
    | 3, h => exact h
    | 4, h => exact h
    | 5, h => exact h
    | 6, h => exact h
    | 7, h => exact h
    | i + 8, h => exact h
end
end TP

/-! K14: defs that draw: a layer by continuations -/
namespace TP
open PySem PySem.Spec PyProof.Rows L2
/-- the source stands at a: three ints, the last one at most n -/
def SrcAt (H : Hp) (a : Addr) (n : Nat) : Prop := ∃ s0 s1 s2 : Int, H a = some (.lst [.int s0, .int s1, .int s2]) ∧ 0 ≤ s0 ∧ 0 ≤ s1 ∧ Bd 200 s1 ∧ 0 ≤ s2 ∧ s2 ≤ (n : Int)
abbrev Ma (a : Addr) : Addr → Prop := fun b => b = a
theorem SrcAt.same {H H' : Hp} {a : Addr} {n : Nat} (h : SrcAt H a n) (e : Same H H') : SrcAt H' a n := by
  obtain ⟨s0, s1, s2, h1, r⟩ := h
  exact ⟨s0, s1, s2, e _ _ h1, r⟩
theorem SrcAt.mono {H : Hp} {a : Addr} {n m : Nat} (h : SrcAt H a n) (hnm : n ≤ m) : SrcAt H a m := by
  obtain ⟨s0, s1, s2, h1, h2, h3, h4, h5, h6⟩ := h
  exact ⟨s0, s1, s2, h1, h2, h3, h4, h5, by omega⟩
theorem SrcAt.trk {H : Hp} {a : Addr} {n : Nat} (h : SrcAt H a n) : TrkM (Ma a) H := fun b hb => by
  obtain ⟨s0, s1, s2, h1, _⟩ := h
  rw [show b = a from hb]
  exact ⟨_, h1⟩
theorem ExM.refl {M : Addr → Prop} (H : Hp) : ExM M H H := fun _ _ _ h => h
theorem ExM.trans {M : Addr → Prop} {H H1 H2 : Hp} (a : ExM M H H1) (b : ExM M H1 H2) : ExM M H H2 := fun c o m h => b c o m (a c o m h)
/-- the promise of a def that draws from the source, its first argument -/
def SpI (K : PySem.W.Frag) (pre : List PyData → Prop) (cost : Nat) (post : List PyData → PyData → Prop) : Sp := fun vs H Q _ => ∃ a us ds n, vs = .ref a :: us ∧ SrcAt H a n ∧ n + cost ≤ 100000 ∧ DnAll K (Ma a) H us ds ∧ pre ds ∧
  ∀ v d n' H', ExM (Ma a) H H' → SrcAt H' a n' → n' ≤ n + cost → Dn K (Ma a) H' v d → post ds d → Q v H'
structure Im (K : PySem.W.Frag) (a : Addr) (i0 : Nat) (δ : DE) (n : Nat) (σ : L2.St) (H : Hp) : Prop where
  src : SrcAt H a n
  at0 : δ[i0]? = some (some (opD a))
  ev : EnvD K (Ma a) H σ δ
section
variable {K : PySem.W.Frag} {a : Addr} {i0 n n' : Nat} {δ : DE} {σ : L2.St} {H H' : Hp}
theorem Im.same (I : Im K a i0 δ n σ H) (e : Same H H') : Im K a i0 δ n σ H' := ⟨I.src.same e, I.at0, I.ev.same e⟩
theorem Im.ex (I : Im K a i0 δ n σ H) (e : ExM (Ma a) H H') (s : SrcAt H' a n') : Im K a i0 δ n' σ H' := ⟨s, I.at0, I.ev.ex e⟩
theorem Im.at_s (I : Im K a i0 δ n σ H) : σ[i0]? = some (some (.ref a)) := by
  obtain ⟨v, h1, h2⟩ := I.ev.2 i0 _ I.at0
  rw [h1, opD_ref h2]
theorem Im.set (I : Im K a i0 δ n σ H) {i : Nat} (hi : i ≠ i0) {v : V} {d : PyData} (h : Dn K (Ma a) H v d) : Im K a i0 (δ.set i (some d)) n (σ.set i (some v)) H :=
  ⟨I.src, by rw [List.getElem?_set_ne hi]; exact I.at0, I.ev.set i h⟩
theorem Im.trk (I : Im K a i0 δ n σ H) : TrkM (Ma a) H := I.src.trk
theorem Im.weak (I : Im K a i0 δ n σ H) {δ2 : DE} (w : Weaker δ2 δ) (h : δ2[i0]? = some (some (opD a)) := by rfl) : Im K a i0 δ2 n σ H := ⟨I.src, h, I.ev.weaken w.1 w.2⟩
end
section
variable {G : Glb} {k : Nat} {N : List Str} {sc : Scope} {C : Ctx G k N sc} {M : Addr → Prop} {δ δ1 δ2 : DE}
variable {x y e o c : Expr} {es : List Expr} {pos p p2 : Pos} {i j : Int} {d d1 d2 : PyData} {ds : List PyData} {D : Ends} {σ : L2.St} {H : Hp} {Q : VK} {st : Stmt} {rest body orelse : List Stmt}
theorem r_e {t : TE} (h : ∀ i, PE (C.X i) e t) (q : t σ H Q) : eM C e σ H Q := fun i pins s I => (h i).run pins s σ H Q I q
theorem r_a {t : TA} {Qa : List V → Hp → Prop} (h : ∀ i, PA (C.X i) es t) (q : t σ H Qa) : aM C es σ H Qa := fun pos i pins s I => (h i).run pos pins s σ H Qa I q
theorem r_s1 {t : TS} (h : ∀ i, PS (C.X i) st t) (q : t D σ H) : s1M C st D σ H := fun i pins s I => (h i).run pins s σ H D I q
theorem r_s {t : TS} {sts : List Stmt} (h : ∀ i, PSs (C.X i) sts t) (q : t D σ H) : sM C sts D σ H := fun i pins s I => (h i).run pins s σ H D I q
theorem r_pv (tk : TrkM M H) (ev : EnvD G.K M H σ δ) (h : PV C M δ e d) (q : ∀ v H', Same H H' → Dn G.K M H' v d → Q v H') : eM C e σ H Q := h H σ tk ev Q q
theorem r_nil (h : D.nx σ H) : sM C [] D σ H := r_s (fun _ => pss_nil) h
theorem r_cons (h : s1M C st { D with nx := fun σ' H' => sM C rest D σ' H' } σ H) : sM C (st :: rest) D σ H := r_s (fun n => pss_cons (ps_M st n) (pss_M rest n)) h
theorem r_ret (h : eM C e σ H D.rt) : s1M C (.Return (some e) pos) D σ H := r_s1 (fun n => ps_ret (pe_M e n)) h
theorem r_if {v : Bool} (hc : PTD C M δ c v) (tk : TrkM M H) (ev : EnvD G.K M H σ δ) (h : ∀ H1, Same H H1 → sM C (if v = true then body else orelse) D σ H1) : s1M C (.If c body orelse pos) D σ H :=
  r_s1 (fun n => ps_if (pt_M c n) (pss_M body n) (pss_M orelse n)) (hc H σ tk ev _ fun H1 e1 => by
    cases v with
    | true => exact h H1 e1
    | false => exact h H1 e1)
theorem r_asg (n : Nat) {s : Str} (h : eM C e σ H fun v H1 => D.nx (σ.set n (some v)) H1) (hx : N[n]? = some s := by rfl) (hl : Loc sc s := by first | exact Or.inl rfl | exact Or.inr rfl) (hf : C.cellOk ∨ sc.names.lookup s = some .local := by first | exact Or.inr rfl | exact Or.inl (by assumption))
    (hs : ∀ env, swapsWithSole [.Name s p] e pos.line env = pure false := by intro _; rfl) : s1M C (.Assign [.Name s p] e pos) D σ H :=
  r_s1 (fun m => ps_asg (pe_M e m) (pg_nameC n hx hl hf m) (hs _) rfl rfl) h
theorem r_expr (h : eM C e σ H fun _ H1 => D.nx σ H1) (hs : ∀ env, swapsWith e none pos.line env = pure false := by intro _; rfl) : s1M C (.Expr e pos) D σ H := r_s1 (fun n => ps_expr (pe_M e n) (hs _)) h
/-- o[c] = e -/
theorem r_store (h : eM C e σ H fun v H1 => eM C o σ H1 fun q H2 => eM C c σ H2 fun i H3 => rSetL q i v H3 fun H4 => D.nx σ H4)
    (ha : ∀ env v, assign (.Subscript o c p) env v = (do
      let ov ← holding [v] (eval o env)
      let iv ← holding [v, ov] (eval c env)
      standAt p
      holding [v, ov, iv] (setItem ov iv v)
      release [v, ov, iv] []) := by intro _ _; rfl) (hs : ∀ env, swapsWithSole [.Subscript o c p] e pos.line env = pure false := by intro _; rfl) : s1M C (.Assign [.Subscript o c p] e pos) D σ H :=
  r_s1 (fun n => ps_asg (pe_M e n) (pg_sub (pe_M o n) (pe_M c n) set_list (ha _)) (hs _) rfl rfl) h
theorem r_pure {δ' : DE} (hp : S1D C M δ st (.nx δ')) (tk : TrkM M H) (ev : EnvD G.K M H σ δ) (h : ∀ σ' H', Same H H' → EnvD G.K M H' σ' δ' → D.nx σ' H') : s1M C st D σ H := hp H σ tk ev D h
theorem r_op {op : Operator} {r : R2} (ho : ∀ i, OpR (C.X i) (binaryOp op) r) (h : eM C x σ H fun v H1 => eM C y σ H1 fun u H2 => r v u H2 Q) : eM C (.BinOp x op y pos) σ H Q := r_e (fun n => pe_op (ho n) (pe_M x n) (pe_M y n)) h
theorem r_anil {Qa : List V → Hp → Prop} (h : Qa [] H) : aM C [] σ H Qa := r_a (fun _ => pa_nil) h
theorem r_acons {Qa : List V → Hp → Prop} (h : eM C e σ H fun v H1 => aM C es σ H1 fun vs H2 => Qa (v :: vs) H2) (hs : ∀ env, starEach (e :: es) env = (false, eval e env) :: starEach es env := by intro _; rfl) : aM C (e :: es) σ H Qa :=
  r_a (fun n => pa_cons (pe_M e n) (pa_M es n) (hs _)) h
theorem r_lst (h : aM C es σ H fun vs H1 => vs.length ≤ sizeLine ∧ ∀ q, H1 q = none → Q (.ref q) (upd H1 q (.lst vs))) : eM C (.List es pos) σ H Q := r_e (fun n => pe_lst (pa_M es n)) h
theorem r_tup {x1} (h : aM C es σ H fun vs H1 => vs.length ≤ sizeLine ∧ ∀ q, H1 q = none → Q (.ref q) (upd H1 q (.tup vs))) : eM C (.Tuple es x1 pos) σ H Q := r_e (fun n => pe_tup (pa_M es n)) h
theorem r_ixL (h : eM C x σ H fun v H1 => eM C y σ H1 fun u H2 => rIxL G.K v u H2 Q) (hs : PlainIx y := by exact fun _ _ => rfl) : eM C (.Subscript x y pos) σ H Q :=
  r_e (t := tOp (rIxL G.K) (eM C x) (eM C y)) (fun n => by
    have z := ix_list (X := C.X n)
    rw [C.hK n] at z
    exact pe_ix z (pe_M x n) (pe_M y n) hs) h
theorem r_var (m : Nat) {s : Str} {v : V} (hx : N[m]? = some s) (hσ : σ[m]? = some (some v)) (q : Q v H) (hv : Vis sc s := by first | exact Or.inl rfl | exact Or.inr (Or.inl rfl) | exact Or.inr (Or.inr rfl)) (hd : (s == ("__debug__" : Str)) = false := by decide)
    (hcd : (s == ("__classdict__" : Str)) = false := by decide) : eM C (.Name s pos) σ H Q :=
  r_e (fun i => pe_var (i := m) (by rw [C.hN i]; exact hx) (by rw [C.hsc i]; exact hv) hd hcd) ⟨v, hσ, q⟩
theorem r_par (n m : Nat) {s t : Str} {px py pt : Pos} {kt k2 : Nat} {pt2 : Pos} (h : aM C [x, y] σ H fun vs H1 => ∃ v w, vs = [v, w] ∧ D.nx ((σ.set n (some v)).set m (some w)) H1) (hx : N[n]? = some s := by rfl) (hy : N[m]? = some t := by rfl) (hnm : n ≠ m := by decide) (hlx : sc.names.lookup s = some .local := by rfl) (hly : sc.names.lookup t = some .local := by rfl)
    (hw : ∀ env : Env, env.scope = sc → swappedStores [.Tuple [.Name s px, .Name t py] kt pt] (.Tuple [x, y] k2 pt2) env = pure (some [s, t]) := by (intro env he; cases env; cases he; rfl))
    (hs : ∀ env, swapsWithSole [.Tuple [.Name s px, .Name t py] kt pt] (.Tuple [x, y] k2 pt2) pos.line env = pure false := by intro _; rfl) :
    s1M C (.Assign [.Tuple [.Name s px, .Name t py] kt pt] (.Tuple [x, y] k2 pt2) pos) D σ H :=
  r_s1 (fun l => ps_par (X := C.X l) (i := n) (j := m) (C.calm l) (by rw [C.hN l]; exact C.nd) (by rw [C.hN l]; exact hx) (by rw [C.hN l]; exact hy) hnm (by rw [C.hsc l]; exact hlx) (by rw [C.hsc l]; exact hly) (pa_M [x, y] l) (hw _ (C.hsc l)) (hs _)) h
/-- a call of a def that draws: its first argument is the source's name -/
theorem r_draw {a : Addr} {i0 n l cost : Nat} {s src : Str} {psr : Pos} {ps : List Str} {pre : List PyData → Prop} {post : List PyData → PyData → Prop} (Df : Def G s l ps (SpI G.K pre cost post)) (I : Im G.K a i0 δ n σ H) (ha : PAD C (Ma a) δ es ds) (hpre : pre ds) (hcost : n + cost ≤ 100000)
    (q : ∀ v d n' H', ExM (Ma a) H H' → Im G.K a i0 δ n' σ H' → n' ≤ n + cost → Dn G.K (Ma a) H' v d → post ds d → Q v H') (hsx : N[i0]? = some src := by rfl) (hv : Vis sc src := by first | exact Or.inl rfl | exact Or.inr (Or.inl rfl) | exact Or.inr (Or.inr rfl)) (hl : l ≤ k := by decide) (hg : GLx sc s := by rfl)
    (hdb : (s == ("__debug__" : Str)) = false := by decide) (hd : (src == ("__debug__" : Str)) = false := by decide) (hcd : (src == ("__classdict__" : Str)) = false := by decide)
    (he : ∀ env, starEach (.Name src psr :: es) env = (false, eval (.Name src psr) env) :: starEach es env := by intro _; rfl) (hpl : ∀ env, (backTo pos (starEach es env)).any (·.1) = false := by intro _; rfl) :
    eM C (.Call (.Name s p) (.Name src psr :: es) [] pos) σ H Q := by
  refine r_e (fun m => pv_fn Df hl hg m hdb he hpl) ?_
  refine r_acons (r_var i0 hsx I.at_s ?_ hv hd hcd) he
  refine ha H σ I.trk I.ev _ fun vs H1 e1 h1 => ?_
  refine ⟨a, vs, ds, n, by rw [List.append_nil], I.src.same e1, hcost, h1, hpre, fun v d n' H' e2 s2 hn h2 hp => ?_⟩
  exact q v d n' H' (ExM.trans (Same.exM e1) e2) (I.ex (ExM.trans (Same.exM e1) e2) s2) hn h2 hp
end
theorem env_nil {K : PySem.W.Frag} {M : Addr → Prop} {H : Hp} : EnvD K M H [] [] := ⟨rfl, fun i d h => by simp at h⟩
theorem env_none {K : PySem.W.Frag} {M : Addr → Prop} {H : Hp} {σ : L2.St} {δ : DE} {x : Option V} (h : EnvD K M H σ δ) : EnvD K M H (x :: σ) (none :: δ) := ⟨by rw [List.length_cons, List.length_cons, h.1], fun i d q => by
  cases i with
  | zero => simp at q
  | succ i =>
    obtain ⟨v, a, b⟩ := h.2 i d (by simpa using q)
    exact ⟨v, by simpa using a, b⟩⟩
theorem env_some {K : PySem.W.Frag} {M : Addr → Prop} {H : Hp} {σ : L2.St} {δ : DE} {v : V} {d : PyData} (hv : Dn K M H v d) (h : EnvD K M H σ δ) : EnvD K M H (some v :: σ) (some d :: δ) := ⟨by rw [List.length_cons, List.length_cons, h.1], fun i e q => by
  cases i with
  | zero =>
    simp at q
    subst q
    exact ⟨v, rfl, hv⟩
  | succ i =>
    obtain ⟨u, a, b⟩ := h.2 i e (by simpa using q)
    exact ⟨u, by simpa using a, b⟩⟩
/-- scalars stand in every heap -/
def intsOf (δ : DE) : DE := δ.map fun x => match x with
  | some (.int i) => some (.int i)
  | some (.dict kvs) => some (.dict kvs)
  | _ => none
theorem EnvD.ints {K : PySem.W.Frag} {M M' : Addr → Prop} {H H' : Hp} {σ : L2.St} {δ : DE} (h : EnvD K M H σ δ) : EnvD K M' H' σ (intsOf δ) := by
  refine ⟨by unfold intsOf; rw [List.length_map]; exact h.1, fun i d q => ?_⟩
  unfold intsOf at q
  rw [List.getElem?_map] at q
  cases e : δ[i]? with
  | none => rw [e] at q; cases q
  | some x =>
    rw [e] at q
    cases x with
    | none => cases q
    | some y =>
      cases y with
      | int z =>
        cases q
        obtain ⟨v, h1, h2⟩ := h.2 i _ e
        cases h2
        exact ⟨_, h1, .int z⟩
      | dict kvs =>
        cases q
        obtain ⟨v, h1, h2⟩ := h.2 i _ e
        cases h2 with
        | opq hi => exact ⟨_, h1, .opq hi⟩
      | _ => cases q
end TP

/-! K15: _law_source, _law_draw -/
namespace TP
open PySem PySem.Spec PyProof.Rows L2
abbrev M0 : Addr → Prop := fun _ => False
theorem trk0 {H : Hp} : TrkM M0 H := fun _ h => h.elim
theorem trk_at {H : Hp} {a : Addr} {o : HO} (h : H a = some o) : TrkM (Ma a) H := fun b hb => ⟨o, by rw [show b = a from hb]; exact h⟩
theorem cpow3 {m : Nat} {i : Int} (h : Bd m i) (hm : m ≤ 1000000) : CPowW i 3 := by
  refine ⟨by decide, ?_⟩
  have b : Builtin.Int.intBits i ≤ i.natAbs.log2 + 1 := by
    unfold Builtin.Int.intBits
    split <;> omega
  have l := PySem.Flt.log2_lt_of (Nat.succ_pos m) (h.mono (Nat.le_succ m))
  have e : (2 : Int) ^ 27 = 134217728 := by decide
  rw [e]
  omega
theorem cpow10 {j : Int} (h : 0 ≤ j) (h2 : j ≤ 1000) : CPowW 10 j := by
  refine ⟨h, ?_⟩
  have e : (Builtin.Int.intBits 10 : Int) ≤ 10 := by decide +kernel
  have e2 : (2 : Int) ^ 27 = 134217728 := by decide
  rw [e2]
  have := Int.mul_le_mul e h2 h (by decide : (0 : Int) ≤ 10)
  omega
theorem bd_of {m : Nat} {x y : Int} (h0 : 0 ≤ x) (h : x < y) (hy : y ≤ 2 ^ m) : Bd m x := by
  have e : ((2 ^ m : Nat) : Int) = 2 ^ m := by simp
  unfold Bd
  omega
section
variable {G : Glb}
/-! ### _law_source -/
def SpSrc : Sp := fun vs H Q _ => ∃ e k : Int, vs = [.int e, .int k] ∧ 0 ≤ k ∧ k ≤ 100 ∧ ∀ a H', H a = none → Same H H' → SrcAt H' a 0 → Q (.ref a) H'
theorem ok_law_source (Z : Free G) (R : Raw G "_law_source" s_law_source) : Def G "_law_source" 1 ["_law_entry", "_law_k"] SpSrc := by
  refine def_sp R sc_law_source (fun vs H Q E ⟨e, k, h, _⟩ => by rw [h]; rfl) (fun _ _ _ _ _ _ us hl => match us, hl with | [_, _], _ => rfl) fun C hc vs H Q E hsp => ?_
  obtain ⟨e, k, rfl, h0, h1, q⟩ := hsp
  have ev : EnvD G.K M0 H (start ["_law_entry", "_law_k", "_law_great"] [.int e, .int k]) [some (.int e), some (.int k), none] := EnvD.start (N := ["_law_entry", "_law_k", "_law_great"]) (.cons (.int e) (.cons (.int k) .nil))
  refine r_cons (r_pure (s1_asg 2 (pv_abs (pv_var 0 rfl rfl) Z.abs)) trk0 ev fun σ1 H1 e1 ev1 => ?_)
  have m0 : (0 : Int) < 10 ^ (44 : Int).toNat + 31 := by decide +kernel
  have X0 := Int.emod_nonneg (e.natAbs : Int) (Int.ne_of_gt m0)
  have X1 := Int.emod_lt_of_pos (e.natAbs : Int) m0
  have Xb : Bd 150 ((e.natAbs : Int) % (10 ^ (44 : Int).toNat + 31)) := bd_of X0 X1 (by decide +kernel)
  have kb : Bd 7 k := bd_of (y := 101) h0 (by omega) (by decide)
  have w0 : (0 : Int) ≤ (if decide (e < 0) = true then 1 else 0) ∧ (if decide (e < 0) = true then 1 else 0) ≤ (1 : Int) := by split <;> decide
  have wb : Bd 7 (if decide (e < 0) = true then 1 else 0) := bd_of (y := 2) w0.1 (by omega) (by decide)
  refine r_cons (r_ret (r_lst (r_acons ?_)))
  refine r_pv trk0 ev1 (pv_max (M := M0) (i := 0) (j := (e.natAbs : Int) - 10 ^ (18 : Int).toNat) pv_int (pv_sub (pv_var 2 rfl rfl) (pv_pow (cpow10 (by decide) (by decide)) pv_int pv_int)) Z.max) fun v H2 e2 d2 => ?_
  cases d2
  refine r_acons ?_
  have b97 : Bd 7 97 := by unfold Bd; decide
  refine r_pv trk0 (ev1.same e2) (pv_add (M := M0) (i := (e.natAbs : Int) % (10 ^ (44 : Int).toNat + 31) * 97 + 2 * k) (j := if decide (e < 0) = true then 1 else 0) (pv_add (pv_mul (cmul Xb b97) (pv_mod m0 (pv_intI (pv_var 2 rfl rfl) Z.int) (pv_add (pv_pow (cpow10 (by decide) (by decide)) pv_int pv_int) pv_int)) pv_int) (pv_mul (cmul bd2 kb) pv_int (pv_var 1 rfl rfl))) (pv_intB (pv_lt (pv_var 0 rfl rfl) pv_int) Z.int)) fun v H3 e3 d3 => ?_
  cases d3
  refine r_acons ?_
  refine r_pv trk0 ((ev1.same e2).same e3) (pv_int (C := C) (M := M0) (δ := [some (.int e), some (.int k), some (.int (e.natAbs : Int))])) fun v H4 e4 d4 => ?_
  cases d4
  refine r_anil ⟨(by decide : 3 ≤ sizeLine), fun l hl => q l _ ?_ ((((e1.trans e2).trans e3).trans e4).trans (same_new hl)) ?_⟩
  · exact (((e1.trans e2).trans e3).trans e4).free hl
  · refine ⟨_, _, _, upd_same, Int.le_max_left .., ?_, ?_, Int.le_refl 0, Int.le_refl 0⟩
    · have := Int.mul_nonneg X0 (show (0 : Int) ≤ 97 by decide)
      omega
    · exact ((((Xb.mul b97).mono (show 150 + 7 ≤ 160 by decide)).add ((bd2.mul kb).mono (show 2 + 7 ≤ 160 by decide))).add (wb.mono (show 7 ≤ 160 + 1 by decide))).mono (by decide)
/-! ### _law_draw -/
def preDraw : List PyData → Prop := fun ds => ∃ c : Int, ds = [.int c] ∧ 1 ≤ c ∧ Bd 200 c
def postDraw : List PyData → PyData → Prop := fun ds d => ∃ c r : Int, ds = [.int c] ∧ d = .int r ∧ 0 ≤ r ∧ r < c
theorem ok_law_draw (Z : Free G) (R : Raw G "_law_draw" s_law_draw) : Def G "_law_draw" 1 ["_law_source_here", "_law_count"] (SpI G.K preDraw 1 postDraw) := by
  refine def_sp R sc_law_draw (fun vs H Q E ⟨a, us, ds, n, h, _, _, hd, ⟨c, hds, _⟩, _⟩ => by rw [h, List.length_cons, hd.length, hds]; rfl) (fun _ _ _ _ _ _ us hl => match us, hl with | [_, _], _ => rfl) fun C hc vs H Q E hsp => ?_
  obtain ⟨a, us, ds, n, rfl, ⟨s0, s1, s2, ha, h0, h1, hb1, h2, h2n⟩, hn, hus, ⟨c, rfl, hc1, hcb⟩, q⟩ := hsp
  obtain rfl : us = [V.int c] := hus.ints (ns := [c])
  have dl : ∀ {H : Hp} {x0 x1 x2 : Int}, H a = some (.lst [.int x0, .int x1, .int x2]) → Dn G.K M0 H (.ref a) (.list [.int x0, .int x1, .int x2]) := fun h => .lst (.inl h) (fun z => z) (.cons (.int _) (.cons (.int _) (.cons (.int _) .nil)))
  have ev : EnvD G.K M0 H (start ["_law_source_here", "_law_count", "_law_digit", "_law_mixed"] [.ref a, .int c]) [some (.list [.int s0, .int s1, .int s2]), some (.int c), none, none] := EnvD.start (N := ["_law_source_here", "_law_count", "_law_digit", "_law_mixed"]) (.cons (dl ha) (.cons (.int c) .nil))
  have c0 : 0 < c := by omega
  refine r_cons (r_if (v := decide (0 < s0)) (ptd_gt (pv_ixL (pv_var 0 rfl rfl) pv_int rfl) pv_int) trk0 ev fun H1 e1 => ?_)
  have ev1 := ev.same e1
  have ha1 := e1 _ _ ha
  by_cases hp : 0 < s0
  · rw [if_pos (decide_eq_true hp)]
    refine r_cons (r_asg 2 ?_)
    refine r_pv trk0 ev1 (pv_mod (M := M0) (i := s0) (j := c) c0 (pv_intI (pv_ixL (pv_var 0 rfl rfl) pv_int rfl) Z.int) (pv_var 1 rfl rfl)) fun v H2 e2 d2 => ?_
    have ev2 := (ev1.same e2).set 2 d2
    cases d2
    refine r_cons (r_store ?_)
    refine r_pv trk0 ev2 (pv_fdiv (M := M0) (i := s0) (j := c) (cdiv c0 hcb) (pv_ixL (pv_var 0 rfl rfl) pv_int rfl) (pv_var 1 rfl rfl)) fun v H3 e3 d3 => ?_
    cases d3
    refine r_var 0 rfl rfl ?_
    refine r_pv trk0 (ev2.same e3) (pv_int (M := M0)) fun v H4 e4 d4 => ?_
    cases d4
    have ha4 : H4 a = some (.lst [.int s0, .int s1, .int s2]) := e4 _ _ (e3 _ _ (e2 _ _ ha1))
    refine ⟨a, _, 0, 0, rfl, rfl, ha4, rfl, ?_⟩
    refine r_cons (r_ret ?_)
    have ev5 : EnvD G.K (Ma a) (upd H4 a (.lst [.int (s0 / c), .int s1, .int s2])) _ _ := ev2.ints (M' := Ma a)
    refine r_pv (trk_at upd_same) ev5 (pv_var (M := Ma a) (d := .int (s0 % c)) 2 rfl rfl) fun v H6 e6 d6 => ?_
    have ex : ExM (Ma a) H H6 := fun b o hb hh => e6 _ _ (by rw [upd_ne hb]; exact e4 _ _ (e3 _ _ (e2 _ _ (e1 _ _ hh))))
    refine q v _ n H6 ex ⟨s0 / c, s1, s2, e6 _ _ upd_same, ?_, h1, hb1, h2, h2n⟩ (Nat.le_succ n) d6 ⟨c, s0 % c, rfl, rfl, Int.emod_nonneg _ (by omega), Int.emod_lt_of_pos _ c0⟩
    exact Int.ediv_nonneg h0 (by omega)
  · rw [if_neg (by rw [decide_eq_false hp]; decide)]
    refine r_nil ?_
    refine r_cons (r_store ?_)
    refine r_pv trk0 ev1 (pv_add (M := M0) (i := s2) (j := 1) (pv_ixL (pv_var 0 rfl rfl) pv_int rfl) pv_int) fun v H2 e2 d2 => ?_
    cases d2
    refine r_var 0 rfl rfl ?_
    refine r_pv trk0 (ev1.same e2) (pv_int (M := M0)) fun v H3 e3 d3 => ?_
    cases d3
    have ha3 : H3 a = some (.lst [.int s0, .int s1, .int s2]) := e3 _ _ (e2 _ _ ha1)
    refine ⟨a, _, 2, 2, rfl, rfl, ha3, rfl, ?_⟩
    have ev4 : EnvD G.K M0 (upd H3 a (.lst [.int s0, .int s1, .int (s2 + 1)])) [some (.ref a), some (.int c), none, none] [some (.list [.int s0, .int s1, .int (s2 + 1)]), some (.int c), none, none] := (ev1.ints (M' := M0) (H' := upd H3 a (.lst [.int s0, .int s1, .int (s2 + 1)]))).set 0 (dl upd_same)
    have s2b : Bd 20 (s2 + 1) := bd_of (y := 100002) (by omega) (by omega) (by decide)
    have b9 : Bd 20 900007 := by unfold Bd; decide
    have b6 : Bd 20 60013 := by unfold Bd; decide
    have m1 : (0 : Int) < 10 ^ (39 : Int).toNat + 3 := by decide +kernel
    have m2 : (0 : Int) < 10 ^ (40 : Int).toNat + 121 := by decide +kernel
    refine r_cons (r_pure (s1_asg 3 (pv_mod m1 (pv_intI (pv_pow (i := s1 + 900007 * (s2 + 1)) (j := 3) (cpow3 (hb1.add ((b9.mul s2b).mono (by decide))) (by decide)) (pv_add (pv_ixL (pv_var 0 rfl rfl) pv_int rfl) (pv_mul (i := 900007) (j := s2 + 1) (cmul b9 s2b) pv_int (pv_ixL (pv_var 0 rfl rfl) pv_int rfl))) pv_int) Z.int) (pv_add (pv_pow (cpow10 (by decide) (by decide)) pv_int pv_int) pv_int))) trk0 ev4 fun σ5 H5 e5 ev5 => ?_)
    generalize hx : (s1 + 900007 * (s2 + 1)) ^ (3 : Int).toNat % (10 ^ (39 : Int).toNat + 3) = X at ev5
    have Xb : Bd 140 X := by
      rw [← hx]
      exact bd_of (Int.emod_nonneg _ (Int.ne_of_gt m1)) (Int.emod_lt_of_pos _ m1) (by decide +kernel)
    refine r_cons (r_pure (s1_asg 3 (pv_mod m2 (pv_intI (pv_pow (i := X * (s2 + 1) + 60013) (j := 3) (cpow3 ((Xb.mul s2b).add (b6.mono (by decide))) (by decide)) (pv_add (pv_mul (i := X) (j := s2 + 1) (cmul Xb s2b) (pv_var 3 rfl rfl) (pv_ixL (pv_var 0 rfl rfl) pv_int rfl)) pv_int) pv_int) Z.int) (pv_add (pv_pow (cpow10 (by decide) (by decide)) pv_int pv_int) pv_int))) trk0 ev5 fun σ6 H6 e6 ev6 => ?_)
    generalize (X * (s2 + 1) + 60013) ^ (3 : Int).toNat % (10 ^ (40 : Int).toNat + 121) = Y at ev6
    refine r_cons (r_ret ?_)
    refine r_pv trk0 ev6 (pv_mod (M := M0) (i := Y / 104729) (j := c) c0 (pv_intI (pv_fdiv (i := Y) (j := 104729) (cdiv (n := 20) (by decide) (by unfold Bd; decide)) (pv_var 3 rfl rfl) pv_int) Z.int) (pv_var 1 rfl rfl)) fun v H7 e7 d7 => ?_
    cases d7
    have s37 : Same (upd H3 a (.lst [.int s0, .int s1, .int (s2 + 1)])) H7 := (e5.trans e6).trans e7
    refine q _ _ (n + 1) H7 (fun b o hb hh => s37 _ _ (by rw [upd_ne hb]; exact e3 _ _ (e2 _ _ (e1 _ _ hh)))) ⟨s0, s1, s2 + 1, s37 _ _ upd_same, h0, h1, hb1, by omega, by omega⟩ (Nat.le_refl _) (.int _) ⟨c, _, rfl, rfl, Int.emod_nonneg _ (by omega), Int.emod_lt_of_pos _ c0⟩
end
end TP

/-! K16: sorted(set(pairs)) -/
namespace SrtO
open PySem PyProof.Rows Srt L2
section
variable {P : Program} {w : World} {A : Around} {E : Value → Shared → Prop} {s : Shared}
/-- the two ints of a row -/
def rkey (q : Addr × List Int) : Int × Int := (q.2.getD 0 0, q.2.getD 1 0)
def kOf (L : List (Addr × List Int)) : Value → Int × Int
  | .ref b => match L.find? (fun q => q.1 == b) with
    | some q => rkey q
    | none => (0, 0)
  | _ => (0, 0)
theorem pair_of {h : Heap} {q : Addr} {i j : Int} (x : IsT P w h [i, j] q) : IsPair h (.ref q) i j := by
  obtain ⟨o, items, n, ho, hc, hd, hi⟩ := x
  have hI := ints_of_items hi
  obtain ⟨xs⟩ := items
  cases hI with
  | cons _ t hr =>
    cases hr with
    | cons _ u hr =>
      cases hr
      exact ⟨q, o, t, u, n, rfl, ho, hc, hd⟩
theorem sorted_setO {a : Addr} {L : List (Addr × List Int)} {es : Array (Int × Value)} {ep : Nat} {t : SetTable} {Q : Value → Shared → Prop} (R : SetTR P w s.heap a L es ep t) (hh : A.handled = none) (hB : ∀ p ∈ L, ∃ i j : Int, p.2 = [i, j])
    (hQ : ∀ s' p (out : Array Value) (c : Nat) (L' : List (Addr × List Int)), (∀ b o, s.heap.get? b = some o → s'.heap.get? b = some o) → s'.gens = s.gens → s'.os = s.os → s.heap.objs.size ≤ p →
      s'.heap.get? p = some (seqObj "list" out c) → out.toList = L'.map (fun q => Value.ref q.1) → L'.Perm L → L'.Pairwise (fun q r => lexB (rkey r) (rkey q) = false) → Q (.ref p) s') :
    wpAny (model P w) A (call (.builtin "sorted") [.ref a]) Q E s := by
  obtain ⟨o, ho, hex, hd⟩ := R.ob
  have hsz := R.size
  have hfew := R.few
  refine Calls.call_function_entry kind_sorted plain_sorted entry_sorted (args_sorted1 _) ?_
  unfold Builtin.«sorted»
  refine wpAny_bind (m := checkCount "sorted" 1 1 _) (wpAny_pure ?_)
  refine wpAny_bind (collect_set (A := A.in1) hh ⟨o, ho, hex.1, hd⟩ R.fits (by unfold scanBound; omega) R.tab.ris R.led fun s1 vs k1 hz g1 o1 pm => ?_)
  have hes : es.toList.map (·.2) = L.map fun q => Value.ref q.1 := by
    rw [R.rows]
    unfold rowsOf
    rw [List.map_map] <;> rfl
  rw [hes] at pm
  have ord : ∀ vs : List Value, (∀ v ∈ vs, ∃ q ∈ L, v = Value.ref q.1) → ∃ L1 : List (Addr × List Int), vs = L1.map (fun q => Value.ref q.1) ∧ ∀ q ∈ L1, q ∈ L := by
    intro vs
    induction vs with
    | nil => intro _; exact ⟨[], rfl, fun q hq => (by cases hq)⟩
    | cons v vs ih =>
      intro hv
      obtain ⟨q, hq, e⟩ := hv v List.mem_cons_self
      obtain ⟨L1, e1, hs⟩ := ih fun u hu => hv u (List.mem_cons_of_mem _ hu)
      refine ⟨q :: L1, by rw [List.map_cons, e, e1], fun r hr => ?_⟩
      rcases List.mem_cons.mp hr with z | z
      · rw [z]; exact hq
      · exact hs r z
  have one : ∀ q ∈ L, ∀ r ∈ L, q.1 = r.1 → q = r := fun q hq r hr e => by
    have a1 := R.tup q hq
    have a2 := R.tup r hr
    rw [e] at a1
    have e2 : q.2 = r.2 := a1.inj a2
    exact Prod.ext e e2
  have kq : ∀ q ∈ L, kOf L (.ref q.1) = rkey q := fun q hq => by
    show (match L.find? (fun r => r.1 == q.1) with | some r => rkey r | none => (0, 0)) = rkey q
    cases h : L.find? (fun r => r.1 == q.1) with
    | none =>
      have := List.find?_eq_none.mp h q hq
      simp at this
    | some r =>
      have h1 := List.find?_some h
      have h2 := List.mem_of_find?_eq_some h
      have e : r.1 = q.1 := by simpa using h1
      rw [one r h2 q hq e]
  have perm_of : ∀ L1 : List (Addr × List Int), (∀ q ∈ L1, q ∈ L) → (L1.map (fun q => Value.ref q.1)).Perm (L.map fun q => Value.ref q.1) → L1.Perm L := by
    intro L1 hs pm1
    have nL : L.Nodup := nodup_of_map R.nd
    have nref : (L.map fun q => Value.ref q.1).Nodup := by
      refine List.pairwise_map.mpr (List.Pairwise.imp_of_mem (fun {q r} hq hr hne e => ?_) nL)
      injection e with e
      exact hne (one q hq r hr e)
    have n1 : L1.Nodup := nodup_of_map (pm1.nodup_iff.mpr nref)
    refine (List.perm_ext_iff_of_nodup n1 nL).mpr fun q => ⟨hs q, fun hq => ?_⟩
    have hm : Value.ref q.1 ∈ L1.map (fun q => Value.ref q.1) := pm1.mem_iff.mpr (List.mem_map.mpr ⟨q, hq, rfl⟩)
    obtain ⟨r, hr, e⟩ := List.mem_map.mp hm
    injection e with e
    rw [← one r (hs r hr) q hq e]
    exact hr
  have hvl : vs.length ≤ sizeLine := by rw [pm.length_eq, List.length_map, sizeLine_eq]; omega
  refine wpAny_bind (wpAny_newList ?_ hvl)
  have hoL : (s1.heap.push (seqObj "list" vs.toArray 0)).get? s1.heap.objs.size = some (seqObj "list" vs.toArray 0) := Heap.get?_push_size _ rfl
  have hp : ∀ v ∈ vs, IsPair (s1.heap.push (seqObj "list" vs.toArray 0)) v (kOf L v).1 (kOf L v).2 := fun v hv => by
    obtain ⟨q, hq, e⟩ := List.mem_map.mp (pm.mem_iff.mp hv)
    obtain ⟨i, j, hij⟩ := hB q hq
    rw [← e, kq q hq]
    have hT := R.tup q hq
    rw [hij] at hT
    have hk : rkey q = (i, j) := by
      unfold rkey
      rw [hij]
      rfl
    rw [hk]
    exact pair_of (P := P) (w := w) (isT_keep hT fun b u e => Heap.get?_push_of_some _ (k1 b u e))
  refine wpAny_bind (wpAny_holding (wpAny_call_entry (s := { s1 with heap := s1.heap.push (seqObj "list" vs.toArray 0) }) slot_list_sort ⟨_, hoL, rfl⟩ entry_list_sort (list_sort_ord (swo_lex (kOf L)) hoL hvl (fun h2 => pairs_sortableO (s := { s1 with heap := s1.heap.push (seqObj "list" vs.toArray 0) }) (by omega) hp fun o e => ?_) fun out hs hb => ⟨_, rfl, ?_⟩) (args_list_sort _)))
  · have e' : some o = some (seqObj "list" vs.toArray 0) := e.symm.trans hoL
    cases e'
    intro c
    exact absurd (Value.type.inj c) (by decide)
  obtain ⟨c, hc⟩ := sortedHeap_at (vs := vs) (out := out.toArray) hoL
  obtain ⟨L', e', hs'⟩ := ord out fun v hv => by
    obtain ⟨q, hq, e⟩ := List.mem_map.mp (pm.mem_iff.mp (hb.perm.mem_iff.mp hv))
    exact ⟨q, hq, e.symm⟩
  have pL : L'.Perm L := perm_of L' hs' (by rw [← e']; exact hb.perm.trans pm)
  have pw : L'.Pairwise (fun q r => lexB (rkey r) (rkey q) = false) := by
    rw [e'] at hs
    refine List.Pairwise.imp_of_mem (fun {q r} hq hr hle => ?_) (List.pairwise_map.mp hs)
    rw [← kq q (hs' q hq), ← kq r (hs' r hr)]
    exact hle
  refine wpAny_pure ⟨_, rfl, hQ _ s1.heap.objs.size out.toArray c L' (fun b u e => ?_) g1 o1 hz hc (by simpa using e') pL pw⟩
  have q := k1 b u e
  have hlt := Heap.lt_size q
  show (sortedHeap (s1.heap.push (seqObj "list" vs.toArray 0)) s1.heap.objs.size vs out.toArray).get? b = some u
  rw [sortedHeap_old (Nat.ne_of_lt hlt) (by rw [size_push']; exact Nat.lt_succ_of_lt hlt)]
  exact Heap.get?_push_of_some _ q
end
end SrtO
namespace TP
open PySem PySem.Spec PyProof.Rows L2
def rSortedSO (K : PySem.W.Frag) (P : Program) (w : World) : List V → Hp → VK → Prop := fun vs H Q => ∃ (a : Addr) (L : List (Addr × List Int)), vs = [V.ref a] ∧ H a = some (SetTO P w a L) ∧ (∀ p ∈ L, SqT K H p.1 (p.2.map V.int)) ∧ (∀ p ∈ L, ∃ i j : Int, p.2 = [i, j]) ∧
  ∀ (L' : List (Addr × List Int)) (p : Addr), L'.Perm L → (L'.map (·.2)).Nodup → L'.length < 64 → L'.Pairwise (fun q r => SrtO.lexB (SrtO.rkey r) (SrtO.rkey q) = false) → H p = none → Q (.ref p) (upd H p (.lst (L'.map fun q => V.ref q.1)))
theorem cr_sortedSO {X : Cx} (hc : X.calm = true) : CallR X (.builtin "sorted") (rSortedSO X.K X.prog X.w) := by
  intro pins s σ H vs us Q I r h
  obtain ⟨a, L, rfl, ha, hk, hB, q⟩ := h
  have R0 : SetT0 X.prog X.w s.heap a L := (I.hok a _ ha).1
  obtain ⟨es, ep, t, R⟩ := R0.full fun p hp => I.isT (hk p hp)
  rw [Vals.ref1 r]
  refine SrtO.sorted_setO R (I.ok.hd hc) hB fun s' p out c L' k g o hp hg hout pm pw => ?_
  have hlen : (L'.map fun q => V.ref q.1).length ≤ sizeLine := by
    have := R.few
    rw [List.length_map, sizeLine_eq, pm.length_eq]
    omega
  have hn : H p = none := I.hok.fresh hp
  have hv : Vals (L'.map fun q => V.ref q.1) out.toList := by rw [hout]; exact vals_of_refs L'
  have J : Inv X pins σ (upd H p (.lst (L'.map fun q => V.ref q.1))) { s with heap := s'.heap, gens := s'.gens, drawn := s'.drawn, toks := s'.toks } :=
    I.call (ch := []) (Un.laid k hp hn) (I.hok.laid k hp ⟨hlen, out.toList, c, hv, hg⟩) (by rw [g]; exact I.bare) (fun _ z => nomatch z)
  have e : s' = { s with heap := s'.heap, gens := s'.gens, drawn := s'.drawn, toks := s'.toks } := by
    cases s'
    cases s
    cases o
    rfl
  rw [e]
  exact ⟨.ref p, _, J, rfl, q L' p pm ((pm.map (·.2)).nodup_iff.mpr R.nd) (by rw [pm.length_eq]; exact R.few) pw hn⟩
end TP

/-! K17: _law_spin -/
namespace TP
open PySem PySem.Spec PyProof.Rows L2
section
variable {G : Glb}
def preSpin : List PyData → Prop := fun ds => ∃ m : Int, ds = [.int m] ∧ 1 ≤ m ∧ m ≤ 1000000000000000
def postSpin : List PyData → PyData → Prop := fun _ d => ∃ t : Tn, d = tnD t ∧ TnOk t
theorem post_draw {c : Int} {d : PyData} (h : postDraw [.int c] d) : ∃ r : Int, d = .int r ∧ 0 ≤ r ∧ r < c := by
  obtain ⟨c', r, h1, h2, h3, h4⟩ := h
  have e : c = c' := by injection h1 with a b; injection a
  subst e
  exact ⟨r, h2, h3, h4⟩
/-- from q on some number is fit for a turn -/
theorem spin_find {p q : Int} (h1 : 1 ≤ p) (h0 : 0 ≤ q) (h : q ≤ p - 1) : ∃ n : Nat, q + (n : Int) ≤ p - 1 ∧ Int.gcd p (q + (n : Int)) = 1 ∧ (p + (q + (n : Int))) % 2 = 1 ∧ ∀ i : Nat, i < n → 1 < (Int.gcd p (q + (i : Int)) : Int) ∨ (p + (q + (i : Int))) % 2 = 0 := by
  have last : Int.gcd p (p - 1) = 1 ∧ (p + (p - 1)) % 2 = 1 := by
    refine ⟨?_, by omega⟩
    have h1 := Int.gcd_dvd_left p (p - 1)
    have h2 := Int.gcd_dvd_right p (p - 1)
    have h3 := Int.dvd_sub h1 h2
    have e : p - (p - 1) = 1 := by omega
    rw [e] at h3
    have := Int.natAbs_dvd_natAbs.mpr h3
    rw [Int.natAbs_natCast] at this
    exact Nat.dvd_one.mp this
  have ex : ∃ i : Nat, i < (p - q).toNat ∧ (Int.gcd p (q + (i : Int)) = 1 ∧ (p + (q + (i : Int))) % 2 = 1) := by
    refine ⟨(p - 1 - q).toNat, by omega, ?_⟩
    have e : q + ((p - 1 - q).toNat : Int) = p - 1 := by omega
    rw [e]
    exact last
  obtain ⟨n, hn, ⟨g1, g2⟩, hm⟩ := least_of _ ex
  refine ⟨n, by omega, g1, g2, fun i hi => ?_⟩
  have := hm i hi
  by_cases h2 : (p + (q + (i : Int))) % 2 = 0
  · exact .inr h2
  · refine .inl ?_
    have h3 : (p + (q + (i : Int))) % 2 = 1 := by omega
    have h4 : Int.gcd p (q + (i : Int)) ≠ 1 := fun z => this ⟨z, h3⟩
    have h5 : Int.gcd p (q + (i : Int)) ≠ 0 := fun z => by
      have := (Int.gcd_eq_zero_iff.mp z).1
      omega
    omega
theorem ok_law_spin (Z : Free G) (R : Raw G "_law_spin" s_law_spin) (Dd : Def G "_law_draw" 1 ["_law_source_here", "_law_count"] (SpI G.K preDraw 1 postDraw)) (Dc : Def G "_law_common" 1 ["_law_one", "_law_two"] (SpD G.K FCommon)) : Def G "_law_spin" 2 ["_law_source_here", "_law_most"] (SpI G.K preSpin 7 postSpin) := by
  refine def_sp R sc_law_spin (fun vs H Q E ⟨a, us, ds, n, h, _, _, hd, ⟨c, hds, _⟩, _⟩ => by rw [h, List.length_cons, hd.length, hds]; rfl) (fun _ _ _ _ _ _ us hl => match us, hl with | [_, _], _ => rfl) fun C hc vs H Q E hsp => ?_
  obtain ⟨a, us, ds, n, rfl, hS, hn, hus, ⟨m, rfl, hm1, hm2⟩, q⟩ := hsp
  obtain rfl : us = [V.int m] := hus.ints (ns := [m])
  have I0 : Im G.K a 0 [some (opD a), some (.int m), none, none, none] n (start ["_law_source_here", "_law_most", "_law_p", "_law_sort", "_law_q"] [.ref a, .int m]) H := ⟨hS, rfl, env_some dn_opD (env_some (.int m) (env_none (env_none (env_none env_nil))))⟩
  have bm : Bd 200 m := bd_of (y := 1000000000000001) (by omega) (by omega) (by decide)
  -- p, sort
  refine r_cons (r_par 2 3 (r_acons (r_op (fun _ => op_add) (r_pv I0.trk I0.ev pv_int fun v H1 e1 d1 => ?_))))
  cases d1
  refine r_draw Dd (I0.same e1) (pad_cons ((pv_var 1 rfl rfl)) pad_nil) ⟨m, rfl, hm1, bm⟩ (by omega) fun v d n2 H2 x2 I2 hn2 d2 hp => ?_
  obtain ⟨r, rfl, r0, r1⟩ := post_draw hp
  cases d2
  refine ⟨1, r, rfl, rfl, r_acons (r_draw Dd I2 (pad_cons (pv_int) pad_nil) ⟨5, rfl, by decide, by unfold Bd; decide⟩ (by omega) fun v d n3 H3 x3 I3 hn3 d3 hp => ?_)⟩
  obtain ⟨srt, rfl, t0, t1⟩ := post_draw hp
  cases d3
  refine r_anil ⟨_, _, rfl, ?_⟩
  have J := (I3.set (i := 2) (by decide) (.int (1 + r))).set (i := 3) (by decide) (.int srt)
  obtain ⟨p, hpp⟩ : ∃ p : Int, 1 + r = p := ⟨_, rfl⟩
  have p1 : 1 ≤ p := by omega
  have pm : p ≤ m := by omega
  have bp : Bd 200 p := bd_of (y := 1000000000000001) (by omega) (by omega) (by decide)
  have J2 : Im G.K a 0 [some (opD a), some (.int m), some (.int p), some (.int srt), none] n3 [some (.ref a), some (.int m), some (.int (1 + r)), some (.int srt), none] H3 := by
    rw [← hpp]
    exact J
  -- q
  refine r_cons (r_asg 4 (r_ixL (r_lst (r_acons (r_draw Dd J2 (pad_cons ((pv_var 2 rfl rfl)) pad_nil) ⟨p, rfl, p1, bp⟩ (by omega) fun v d n4 H4 x4 I4 hn4 d4 hp => ?_)))))
  obtain ⟨q1, rfl, q10, q11⟩ := post_draw hp
  cases d4
  refine r_acons (r_pv I4.trk I4.ev (pv_sub (i := p) (j := 1) (pv_var 2 rfl rfl) pv_int) fun v H5 e5 d5 => ?_)
  cases d5
  refine r_acons (r_pv (I4.same e5).trk (I4.same e5).ev (pv_max (i := 0) (j := p - 3) pv_int (pv_sub (pv_var 2 rfl rfl) pv_int) Z.max) fun v H6 e6 d6 => ?_)
  cases d6
  have I6 := (I4.same e5).same e6
  have mn : 1 ≤ min p 9 := by omega
  refine r_acons (r_draw Dd I6 (pad_cons (pv_min (i := p) (j := 9) (pv_var 2 rfl rfl) pv_int Z.min) pad_nil) ⟨min p 9, rfl, mn, bd_of (y := 10) (by omega) (by omega) (by decide)⟩ (by omega) fun v d n7 H7 x7 I7 hn7 d7 hp => ?_)
  obtain ⟨q4, rfl, q40, q41⟩ := post_draw hp
  cases d7
  refine r_acons (r_draw Dd I7 (pad_cons ((pv_var 2 rfl rfl)) pad_nil) ⟨p, rfl, p1, bp⟩ (by omega) fun v d n8 H8 x8 I8 hn8 d8 hp => ?_)
  obtain ⟨q5, rfl, q50, q51⟩ := post_draw hp
  cases d8
  refine r_anil ⟨(by decide : 5 ≤ sizeLine), fun l hl => ?_⟩
  have I9 := I8.same (same_new (o := .lst [.int q1, .int (p - 1), .int (max 0 (p - 3)), .int q4, .int q5]) hl)
  refine r_pv I9.trk I9.ev (pv_var (d := .int srt) 3 rfl rfl) fun v H10 e10 d10 => ?_
  cases d10
  have I10 := I9.same e10
  have hlist : H10 l = some (.lst [.int q1, .int (p - 1), .int (max 0 (p - 3)), .int q4, .int q5]) := e10 _ _ upd_same
  obtain ⟨q0, hq0, hqa, hqb⟩ : ∃ q0 : Int, atI ([.int q1, .int (p - 1), .int (max 0 (p - 3)), .int q4, .int q5] : List V) srt = some (.int q0) ∧ 0 ≤ q0 ∧ q0 ≤ p - 1 := by
    have hs : srt = 0 ∨ srt = 1 ∨ srt = 2 ∨ srt = 3 ∨ srt = 4 := by omega
    rcases hs with rfl | rfl | rfl | rfl | rfl
    · exact ⟨q1, rfl, q10, by omega⟩
    · exact ⟨p - 1, rfl, by omega, by omega⟩
    · exact ⟨max 0 (p - 3), rfl, by omega, by omega⟩
    · exact ⟨q4, rfl, q40, by omega⟩
    · exact ⟨q5, rfl, q50, by omega⟩
  refine ⟨l, _, srt, _, rfl, rfl, .inl (.inl hlist), hq0, ?_⟩
  have I11 := I10.set (i := 4) (by decide) (.int q0)
  -- while
  obtain ⟨cnt, f1, f2, f3, f4⟩ := spin_find p1 hqa hqb
  refine r_cons (r_pure (δ' := [some (opD a), some (.int m), some (.int p), some (.int srt), some (.int (q0 + (cnt : Int)))]) (s1_while (M := Ma a) (n := cnt) (fun i => [some (opD a), some (.int m), some (.int p), some (.int srt), some (.int (q0 + (i : Int)))]) (by show _ = [some (opD a), some (.int m), some (.int p), some (.int srt), some (.int q0)]; rw [show q0 + ((0 : Nat) : Int) = q0 by omega]) (fun i hi => ?_) (fun i hi => ?_) ?_) I11.trk I11.ev fun σ12 H12 e12 ev12 => ?_)
  · refine PWD.ptd ?_
    by_cases hg : 1 < (Int.gcd p (q0 + (i : Int)) : Int)
    · exact pwd_or_t (PTD.is (ptd_gt (pv_call Dc ⟨p, q0 + (i : Int), rfl, rfl⟩ (pad_cons ((pv_var 2 rfl rfl)) (pad_cons ((pv_var 4 rfl rfl)) pad_nil))) pv_int) (decide_eq_true hg))
    · exact pwd_or_f (PTD.is (ptd_gt (pv_call Dc ⟨p, q0 + (i : Int), rfl, rfl⟩ (pad_cons ((pv_var 2 rfl rfl)) (pad_cons ((pv_var 4 rfl rfl)) pad_nil))) pv_int) (decide_eq_false hg)) (pwd_or1 (PTD.is (ptd_eq (d1 := .int ((p + (q0 + (i : Int))) % 2)) (d2 := .int 0) rfl rfl (pv_mod (by decide) (pv_intI (pv_add (pv_var 2 rfl rfl) (pv_var 4 rfl rfl)) Z.int) pv_int) pv_int) (eqI_true ((f4 i hi).resolve_left hg))))
  · refine sd_cons (s1_asg 4 (PV.is (pv_add (i := q0 + (i : Int)) (j := 1) (pv_var 4 rfl rfl) pv_int) ?_)) sd_nil
    exact congrArg _ (by omega)
  · exact PWD.ptd (pwd_or_f (PTD.is (ptd_gt (pv_call Dc ⟨p, q0 + (cnt : Int), rfl, rfl⟩ (pad_cons ((pv_var 2 rfl rfl)) (pad_cons ((pv_var 4 rfl rfl)) pad_nil))) pv_int) (decide_eq_false (by rw [f2]; decide))) (pwd_or1 (PTD.is (ptd_eq (d1 := .int ((p + (q0 + (cnt : Int))) % 2)) (d2 := .int 0) rfl rfl (pv_mod (by decide) (pv_intI (pv_add (pv_var 2 rfl rfl) (pv_var 4 rfl rfl)) Z.int) pv_int) pv_int) (eqI_false (by omega)))))
  have I12 : Im G.K a 0 [some (opD a), some (.int m), some (.int p), some (.int srt), some (.int (q0 + (cnt : Int)))] n8 σ12 H12 := ⟨I11.src.same e12, rfl, ev12⟩
  obtain ⟨qq, hqq⟩ : ∃ qq : Int, q0 + (cnt : Int) = qq := ⟨_, rfl⟩
  rw [hqq] at I12 f1 f2 f3
  -- return
  refine r_cons (r_ret (r_tup (r_acons (r_pv I12.trk I12.ev (pv_var (d := .int p) 2 rfl rfl) fun v H13 e13 d13 => ?_))))
  cases d13
  have I13 := I12.same e13
  refine r_acons (r_ixL (r_pv I13.trk I13.ev (pv_lst (pad_cons ((pv_var 4 rfl rfl)) (pad_cons (pv_neg (i := qq) (pv_var 4 rfl rfl)) pad_nil))) fun v H14 e14 d14 => ?_))
  have I14 := I13.same e14
  refine r_draw Dd I14 (pad_cons (pv_int) pad_nil) ⟨2, rfl, by decide, by unfold Bd; decide⟩ (by omega) fun v2 d n15 H15 x15 I15 hn15 d15 hp => ?_
  obtain ⟨sg, rfl, sg0, sg1⟩ := post_draw hp
  cases d15
  have dl := d14.ex x15
  obtain ⟨qs, hqs, hqa2⟩ : ∃ qs : Int, atI [PyData.int qq, PyData.int (-qq)] sg = some (.int qs) ∧ (qs = qq ∨ qs = -qq) := by
    have hs : sg = 0 ∨ sg = 1 := by omega
    rcases hs with rfl | rfl
    · exact ⟨qq, rfl, .inl rfl⟩
    · exact ⟨-qq, rfl, .inr rfl⟩
  cases dl with
  | lst hL hM hA =>
    obtain ⟨w, hw, dw⟩ := atI_dn hA hqs
    cases dw
    refine ⟨_, _, sg, _, rfl, rfl, .inl hL, hw, ?_⟩
    refine r_acons (r_draw Dd I15 (pad_cons (pv_int) pad_nil) ⟨4, rfl, by decide, by unfold Bd; decide⟩ (by omega) fun v3 d n16 H16 x16 I16 hn16 d16 hp => ?_)
    obtain ⟨k4, rfl, k40, k41⟩ := post_draw hp
    cases d16
    refine r_anil ⟨(by decide : 3 ≤ sizeLine), fun l2 hl2 => ?_⟩
    have I17 := I16.same (same_new (o := .tup [.int p, .int qs, .int k4]) hl2)
    have g : Int.gcd p qs = 1 := by
      rcases hqa2 with rfl | rfl
      · exact f2
      · rw [Int.gcd_neg]
        exact f2
    have od : (p + qs) % 2 = 1 := by omega
    have ht : TnOk (p, qs, k4) := ⟨(by show ((qs.natAbs : Nat) : Int) < p; omega), (by show p ≤ 1000000000000000; omega), k40, (by show k4 ≤ 3; omega), od, g⟩
    refine q _ (tnD (p, qs, k4)) n16 _ ?_ I17.src (by omega) (.tup upd_same (I16.trk.new hl2) (.cons (.int _) (.cons (.int _) (.cons (.int _) .nil)))) ⟨_, rfl, ht⟩
    exact (Same.exM e1).trans (x2.trans (x3.trans (x4.trans ((Same.exM e5).trans ((Same.exM e6).trans (x7.trans (x8.trans ((Same.exM (same_new hl)).trans ((Same.exM e10).trans ((Same.exM e12).trans ((Same.exM e13).trans ((Same.exM e14).trans (x15.trans (x16.trans (Same.exM (same_new hl2))))))))))))))))
end
end TP

/-! K18: raw rules: range, append, sorted(set(..)); _law_dot -/
namespace TP
open PySem PySem.Spec PyProof.Rows L2
theorem blank_get {σ : L2.St} {i : Nat} {d : PyData} (h : (σ.map fun _ => (none : Option PyData))[i]? = some (some d)) : False := by
  rw [List.getElem?_map] at h
  cases e : σ[i]? with
  | none => rw [e] at h; cases h
  | some x => rw [e] at h; cases h
theorem env_blank {K : PySem.W.Frag} {M : Addr → Prop} {H : Hp} {σ : L2.St} : EnvD K M H σ (σ.map fun _ => none) := ⟨by rw [List.length_map], fun i d q => (blank_get q).elim⟩
section
variable {G : Glb} {k : Nat} {N : List Str} {sc : Scope} {C : Ctx G k N sc} {M : Addr → Prop} {δ : DE}
variable {x e o c tg a b : Expr} {es : List Expr} {pos p p2 p3 p4 p5 : Pos} {D : Ends} {σ : L2.St} {H : Hp} {Q : VK} {body orelse : List Stmt}
theorem r_int {i : Int} {n : Nat} (h : Q (.int i) H) : eM C (.Constant (.int i) n pos) σ H Q := r_e (fun _ => pe_int) h
theorem r_rng {g : TG} (hm : G.mg "range" = none) (hgx : ∀ m, PG (C.X m) tg g)
    (h : aM C [e] σ H fun vs H1 => ∃ j : Int, vs = [.int j] ∧ -(2 ^ 62) ≤ j ∧ j < 2 ^ 62 ∧ ∃ W : Nat → Nat → L2.St → Hp → Prop, (∃ m, W 0 m σ H1) ∧ ∀ i m σ H, W i m σ H →
      ((Itr 0 j.toNat).stop i H ∧ D.nx σ H) ∨ ((Itr 0 j.toNat).go i H ∧ ∃ N : L2.St → Hp → Prop, (∀ σ' H', N σ' H' → ∃ m', m' < m ∧ W (i + 1) m' σ' H') ∧ ∀ x H', (Itr 0 j.toNat).yld i H x H' → g x σ H' fun σ2 H2 => sM C body { D with nx := N, ct := N, bk := D.nx } σ2 H2))
    (hg : GLx sc "range" := by rfl) (hs : NoStar e := by intro _; rfl) (hf : NoFold (.Call (.Name "range" p) [e] [] p2) := by intro _ _; rfl) : s1M C (.For tg (.Call (.Name "range" p) [e] [] p2) body [] pos) D σ H :=
  r_s1 (t := tFor (iRng1 (aM C [e])) g (sM C body)) (fun m => ps_for (passes_never m) (C.calm m) (pi_range1C hm hg hs m) (hgx m) (pss_M body m) (hf _)) h
theorem r_app (m : Nat) {s : Str} {l : Addr} {vs : List V} (hx : N[m]? = some s) (hσ : σ[m]? = some (some (.ref l))) (hl : H l = some (.lst vs))
    (h : aM C [e] σ H fun xs H2 => rAppend (.ref l) xs H2 fun _ H3 => D.nx σ H3) (hv : Vis sc s := by first | exact Or.inl rfl | exact Or.inr (Or.inl rfl) | exact Or.inr (Or.inr rfl)) (hd : (s == ("__debug__" : Str)) = false := by decide)
    (hcd : (s == ("__classdict__" : Str)) = false := by decide)
    (h1 : ∀ env, attributeBase (.Name s p) "append" env (eval (.Name s p) env) = eval (.Name s p) env := by intro _; rfl)
    (h2 : ∀ env, ((backTo p3 (starEach [e] env)).all (fun x => !x.1) && (backToKw p3 (keywordEach [] env)).all (fun x => x.1.isSome)
      && decide ([e].length + ([] : List Keyword).length + (if ([] : List Keyword).isEmpty then 0 else 1) < 30)) = true := by intro _; rfl)
    (h3 : (p2.endLine == p3.line) = true := by rfl) (h4 : NoStar e := by intro _; rfl) (h5 : ∀ env, (backTo p3 (starEach [] env)).any (·.1) = false := by intro _; rfl)
    (hs : ∀ env, swapsWith (.Call (.Attribute (.Name s p) "append" p2) [e] [] p3) none pos.line env = pure false := by intro _; rfl) : s1M C (.Expr (.Call (.Attribute (.Name s p) "append" p2) [e] [] p3) pos) D σ H := by
  refine r_expr ?_ hs
  refine r_e (t := tBM G.K "list" rAppend (eM C (.Name s p)) (aM C [e])) (fun n => ?_) ?_
  · have z := pe_bm (X := C.X n) PySem.F.plainAttrs_list PySem.F.slot_list_append PySem.F.type_list_append mt_append (pe_M (.Name s p) n) (pa_M [e] n) (h1 _) (h2 _) h3 (h4 _) (h5 _)
    rw [C.hK n] at z
    exact z
  · exact r_var m hx hσ ⟨.inl ⟨rfl, vs, .inl (.inl hl)⟩, h⟩ hv hd hcd
theorem r_ifR (h : tM C c σ H fun v H1 => sM C (if v = true then body else orelse) D σ H1) : s1M C (.If c body orelse pos) D σ H :=
  r_s1 (fun n => ps_if (pt_M c n) (pss_M body n) (pss_M orelse n)) (by
    show tM C c σ H _
    refine cast (congrArg (tM C c σ H) (funext fun v => funext fun H1 => ?_)) h
    cases v <;> rfl)
theorem r_t {t : TT} {Qb : Bool → Hp → Prop} (h : ∀ i, PT (C.X i) c t) (q : t σ H Qb) : tM C c σ H Qb := fun i pins s I => (h i).run pins s σ H Qb I q
/-- a and b, in a test -/
theorem r_and2 {Qb : Bool → Hp → Prop} (h : tM C a σ H fun v H1 => if v = true then tM C b σ H1 Qb else Qb false H1) : tM C (.BoolOp .And [a, b] pos) σ H Qb :=
  r_t (t := tAnd (tM C a) (tM C b)) (fun n => PW.pt (pw_and (pt_M a n) (pw_and1 (pt_M b n)))) h
theorem r_ptd {v : Bool} {Qb : Bool → Hp → Prop} (hc : PTD C M δ c v) (tk : TrkM M H) (ev : EnvD G.K M H σ δ) (q : ∀ H', Same H H' → Qb v H') : tM C c σ H Qb := hc H σ tk ev Qb q
theorem r_gt {Qb : Bool → Hp → Prop} (h : eM C a σ H fun v H1 => eM C b σ H1 fun u H2 => ∃ i j : Int, v = .int i ∧ u = .int j ∧ Qb (decide (j < i)) H2) (hm : behindInMarks .Gt b = false := by rfl) : tM C (.Compare a [.Gt] [b] pos) σ H Qb := by
  refine r_t (t := tTest (tOp _ (eM C a) (eM C b))) (fun n => pt_cmpR op_gt (pe_M a n) (pe_M b n) hm) ?_
  show eM C a σ H fun v H1 => eM C b σ H1 fun u H2 => ∃ i j : Int, v = .int i ∧ u = .int j ∧ ∃ k, V.bl (decide (j < i)) = .bl k ∧ Qb k H2
  refine cast (congrArg (eM C a σ H) (funext fun v => funext fun H1 => congrArg (eM C b σ H1) (funext fun u => funext fun H2 => ?_))) h
  refine propext ⟨?_, ?_⟩
  · rintro ⟨i, j, h1, h2, q⟩
    exact ⟨i, j, h1, h2, _, rfl, q⟩
  · rintro ⟨i, j, h1, h2, _, e, q⟩
    cases e
    exact ⟨i, j, h1, h2, q⟩

/-! ### sorted(set(pairs)) -/
theorem ks_of {K : PySem.W.Frag} : ∀ {xs : List V} (ps : List Px), DnAll K M H xs (ps.map pxD) → ∃ ks : List (Addr × List Int), xs = ks.map (fun p => V.ref p.1) ∧ ks.length = ps.length ∧ ∀ p ∈ ks, ¬ M p.1 ∧ H p.1 = some (.tup (p.2.map V.int)) ∧ (∃ i j : Int, p.2 = [i, j]) ∧ SrtO.rkey p ∈ ps
  | _, [], h => by
    cases h
    exact ⟨[], rfl, rfl, fun p hp => by cases hp⟩
  | _, z :: ps, h => by
    cases h with
    | cons h1 h2 =>
      obtain ⟨ks, e, hl, hk⟩ := ks_of ps h2
      subst e
      cases h1 with
      | tup hT m hd =>
        rename_i ad xs
        cases hd with
        | cons g1 g2 =>
          cases g1
          cases g2 with
          | cons g1 g2 =>
            cases g1
            cases g2
            refine ⟨(ad, [z.1, z.2]) :: ks, rfl, by rw [List.length_cons, List.length_cons, hl], fun p hp => ?_⟩
            rcases List.mem_cons.mp hp with rfl | hp
            · exact ⟨m, hT, ⟨_, _, rfl⟩, List.mem_cons_self⟩
            · obtain ⟨a, b, c, d⟩ := hk p hp
              exact ⟨a, b, c, List.mem_cons_of_mem _ d⟩
theorem dn_ks {K : PySem.W.Frag} : ∀ {ks : List (Addr × List Int)}, (∀ p ∈ ks, ¬ M p.1 ∧ H p.1 = some (.tup (p.2.map V.int)) ∧ ∃ i j : Int, p.2 = [i, j]) → DnAll K M H (ks.map fun p => V.ref p.1) ((ks.map SrtO.rkey).map pxD)
  | [], _ => .nil
  | p :: ks, h => by
    obtain ⟨a, b, i, j, e⟩ := h p List.mem_cons_self
    refine .cons ?_ (dn_ks fun q hq => h q (List.mem_cons_of_mem _ hq))
    obtain ⟨ad, l⟩ := p
    cases e
    exact .tup b a (.cons (.int _) (.cons (.int _) .nil))
theorem asc_ks {ks : List (Addr × List Int)} (h : ∀ p ∈ ks, ∃ i j : Int, p.2 = [i, j]) (nd : (ks.map (·.2)).Nodup) (pw : ks.Pairwise (fun q r => SrtO.lexB (SrtO.rkey r) (SrtO.rkey q) = false)) : AscP (ks.map SrtO.rkey) := by
  intro i z w hz hw
  rw [List.getElem?_map] at hz hw
  obtain ⟨q, hq, rfl⟩ := Option.map_eq_some_iff.mp hz
  obtain ⟨r, hr, rfl⟩ := Option.map_eq_some_iff.mp hw
  obtain ⟨li, rfl⟩ := List.getElem?_eq_some_iff.mp hq
  obtain ⟨lj, rfl⟩ := List.getElem?_eq_some_iff.mp hr
  have h1 := List.pairwise_iff_getElem.mp pw i (i + 1) li lj (Nat.lt_succ_self i)
  have h2 := List.pairwise_iff_getElem.mp (List.pairwise_map.mp nd) i (i + 1) li lj (Nat.lt_succ_self i)
  obtain ⟨a, b, e1⟩ := h _ (List.getElem_mem li)
  obtain ⟨c, d, e2⟩ := h _ (List.getElem_mem lj)
  unfold SrtO.rkey at h1 ⊢
  rw [e1, e2] at h1 h2 ⊢
  refine ltP2_iff.mpr ?_
  have h3 : ¬ (c < a ∨ (c = a ∧ d < b)) := fun z => by
    have : SrtO.lexB (c, d) (a, b) = true := SrtO.lexB_iff.mpr z
    exact Bool.false_ne_true (h1.symm.trans this)
  have h4 : ¬ (a = c ∧ b = d) := fun ⟨z1, z2⟩ => h2 (by rw [z1, z2])
  show a < c ∨ (a = c ∧ b < d)
  omega
theorem r_sset {ps : List Px} (tk : TrkM M H) (ev : EnvD G.K M H σ δ) (ha : PV C M δ e (.list (ps.map pxD))) (hps : ps.length < 64) (hm : G.mg "sorted" = none) (hm2 : G.mg "set" = none)
    (q : ∀ (qs : List Px) v H', Same H H' → Dn G.K M H' v (.list (qs.map pxD)) → AscP qs → qs.length < 64 → (∀ z ∈ qs, z ∈ ps) → Q v H') (hg : GLx sc "sorted" := by rfl) (hg2 : GLx sc "set" := by rfl)
    (hs1 : NoStar e := by intro _; rfl) (hs2 : NoStar (.Call (.Name "set" p2) [e] [] p3) := by intro _; rfl) :
    eM C (.Call (.Name "sorted" p) [.Call (.Name "set" p2) [e] [] p3] [] p4) σ H Q := by
  refine r_e (t := tCB (rSortedSO G.K G.P G.w) (aM C [.Call (.Name "set" p2) [e] [] p3])) (fun n => ?_) ?_
  · have z := cr_sortedSO (X := C.X n) (C.calm n)
    rw [C.hK n, C.hP n, C.hw n] at z
    exact pe_callB z (gl_of hg n) (hm_of hm n) PyProof.Rows.boot_sorted (pa_M _ n) (by decide) (by decide) (hs2.cons _) (nostar_nil p4 _)
  refine r_acons (r_e (t := tCB (rSetOfT G.K G.P G.w) (aM C [e])) (fun n => ?_) ?_) hs2.cons
  · have z := cr_setOfT (X := C.X n) (C.calm n) (hu_ctx n)
    rw [C.hK n, C.hP n, C.hw n] at z
    exact pe_callTy z (gl_of hg2 n) (hm_of hm2 n) PyProof.Rows.boot_set (pa_M _ n) (by decide) (by decide) (hs1.cons _) (nostar_nil p3 _)
  refine r_acons (r_pv tk ev ha fun v H1 e1 d1 => r_anil ?_) hs1.cons
  cases d1 with
  | lst hL m hd =>
    rename_i ad xs
    obtain ⟨ks, rfl, hlen, hk⟩ := ks_of ps hd
    refine ⟨ad, ks, rfl, .inl hL, fun p hp => .inl (.inl (hk p hp).2.1), by omega, fun a L han hsub hall => r_anil ?_⟩
    have s2 : Same H1 (upd H1 a (SetTO G.P G.w a L)) := same_new han
    refine ⟨a, L, rfl, upd_same, fun p hp => .inl (.inl (s2 _ _ (hk p (hsub p hp)).2.1)), fun p hp => (hk p (hsub p hp)).2.2.1, fun L' b pm nd hlt pw hb => ?_⟩
    have s3 := same_new (o := .lst (L'.map fun q => V.ref q.1)) hb
    have hin : ∀ p ∈ L', p ∈ ks := fun p hp => hsub p (pm.mem_iff.mp hp)
    refine q (L'.map SrtO.rkey) _ _ ((e1.trans s2).trans s3) (.lst (.inl upd_same) (((tk.same e1).same s2).new hb) (dn_ks fun p hp => ?_)) (asc_ks (fun p hp => (hk p (hin p hp)).2.2.1) nd pw) (by rw [List.length_map]; exact hlt) fun z hz => ?_
    · obtain ⟨g1, g2, g3, _⟩ := hk p (hin p hp)
      exact ⟨g1, s3 _ _ (s2 _ _ g2), g3⟩
    · obtain ⟨p, hp, rfl⟩ := List.mem_map.mp hz
      exact (hk p (hin p hp)).2.2.2
end
section
variable {G : Glb}
/-! ### _law_dot -/
def preDot : List PyData → Prop := fun ds => ∃ w : Int, ds = [.int w] ∧ 0 ≤ w ∧ Bd 190 w
def postDot : List PyData → PyData → Prop := fun ds d => ∃ (w : Int) (z : Px), ds = [.int w] ∧ d = pxD z ∧ -w ≤ z.1 ∧ z.1 ≤ w ∧ -w ≤ z.2 ∧ z.2 ≤ w
theorem ex_new {a l : Addr} {H H2 : Hp} {o : HO} (hl : H l = none) (x : ExM (Ma a) H H2) : ExM (Ma a) H (upd H2 l o) := fun b u hb hh => by
  rw [upd_ne (ne_of_none hh hl)]
  exact x b u hb hh
theorem src_upd {H : Hp} {a l : Addr} {o : HO} {n : Nat} (h : SrcAt H a n) (hl : a ≠ l) : SrcAt (upd H l o) a n := by
  obtain ⟨s0, s1, s2, h1, r⟩ := h
  exact ⟨s0, s1, s2, by rw [upd_ne hl]; exact h1, r⟩
theorem ok_law_dot (Z : Free G) (R : Raw G "_law_dot" s_law_dot) (Dd : Def G "_law_draw" 1 ["_law_source_here", "_law_count"] (SpI G.K preDraw 1 postDraw)) : Def G "_law_dot" 2 ["_law_source_here", "_law_wide"] (SpI G.K preDot 2 postDot) := by
  refine def_sp R sc_law_dot (fun vs H Q E ⟨a, us, ds, n, h, _, _, hd, ⟨c, hds, _⟩, _⟩ => by rw [h, List.length_cons, hd.length, hds]; rfl) (fun _ _ _ _ _ _ us hl => match us, hl with | [_, _], _ => rfl) fun C hc vs H Q E hsp => ?_
  obtain ⟨a, us, ds, n, rfl, hS, hn, hus, ⟨w, rfl, w0, wb⟩, q⟩ := hsp
  obtain rfl : us = [V.int w] := hus.ints (ns := [w])
  refine r_cons (r_asg 2 (r_lst (r_anil ⟨(by decide : 0 ≤ sizeLine), fun l hl => ?_⟩)))
  have hal : a ≠ l := fun z => by
    obtain ⟨_, _, _, h1, _⟩ := hS
    rw [z, hl] at h1
    cases h1
  refine r_cons (r_rng (g := gName 3) Z.range (pg_nameC 3 rfl (Or.inl rfl) (Or.inr rfl)) (r_acons (r_int (r_anil ⟨2, rfl, by decide, by decide, for_range (fun i σ2 H2 => ∃ (n2 : Nat) (zs : List Int) (ok : Option V), σ2 = [some (.ref a), some (.int w), some (.ref l), ok] ∧ ExM (Ma a) H H2 ∧ SrcAt H2 a n2 ∧ n2 ≤ n + i ∧ H2 l = some (.lst (zs.map V.int)) ∧ zs.length = i ∧ ∀ z ∈ zs, -w ≤ z ∧ z ≤ w) ?_ ?_ ?_⟩))))
  · exact ⟨n, [], none, rfl, ex_new hl (ExM.refl H), src_upd hS hal, Nat.le_refl _, upd_same, rfl, fun z hz => by cases hz⟩
  · rintro i σ2 H2 hi ⟨n2, zs, ok, rfl, x2, S2, hn2, hl2, hlen, hz⟩
    have hi2 : i < 2 := hi
    have I2 : Im G.K a 0 [some (opD a), some (.int w), none, none] n2 [some (.ref a), some (.int w), some (.ref l), some (.int (0 + (i : Int)))] H2 := ⟨S2, rfl, env_some dn_opD (env_some (.int w) (env_none (env_none env_nil)))⟩
    have b2 : Bd 2 2 := by unfold Bd; decide
    have b1 : Bd 2 1 := by unfold Bd; decide
    refine r_cons (r_app 2 rfl rfl hl2 (r_acons (r_op (fun _ => op_sub) (r_draw Dd I2 (pad_cons (pv_add (i := 2 * w) (j := 1) (pv_mul (i := 2) (j := w) (cmul (m := 2) (n := 190) b2 wb) pv_int (pv_var 1 rfl rfl)) pv_int) pad_nil) ⟨2 * w + 1, rfl, by omega, ?_⟩ (by omega) fun v d n3 H3 x3 I3 hn3 d3 hp => ?_))))
    · exact (((b2.mul wb).mono (show 2 + 190 ≤ 192 by decide)).add (b1.mono (by decide))).mono (by decide)
    · obtain ⟨r, rfl, r0, r1⟩ := post_draw hp
      cases d3
      refine r_pv I3.trk I3.ev (pv_var (d := .int w) 1 rfl rfl) fun v H4 e4 d4 => ?_
      cases d4
      have hl4 : H4 l = some (.lst (zs.map V.int)) := e4 _ _ (x3 _ _ (Ne.symm hal) hl2)
      refine ⟨r, w, rfl, rfl, r_anil ⟨l, _, _, rfl, rfl, hl4, by rw [List.length_map, sizeLine_eq]; omega, ?_⟩⟩
      refine r_nil ⟨n3, zs ++ [r - w], _, rfl, ex_new hl (x2.trans (x3.trans (Same.exM e4))), src_upd (I3.same e4).src hal, by omega, by rw [List.map_append]; exact upd_same, by rw [List.length_append, hlen]; rfl, fun z hz2 => ?_⟩
      rcases List.mem_append.mp hz2 with g | g
      · exact hz z g
      · rw [List.mem_singleton.mp g]
        omega
  · rintro σ2 H2 ⟨n2, zs, ok, rfl, x2, S2, hn2, hl2, hlen, hz⟩
    have hlen2 : zs.length = 2 := hlen
    match zs, hlen2, hl2, hz with
    | [z1, z2], _, hl2, hz =>
      have ev : EnvD G.K (Ma a) H2 [some (.ref a), some (.int w), some (.ref l), ok] [none, none, some (.list [.int z1, .int z2]), none] := env_none (env_none (env_some (.lst (.inl hl2) (Ne.symm hal) (.cons (.int _) (.cons (.int _) .nil))) (env_none env_nil)))
      refine r_cons (r_ret (r_pv S2.trk ev (pv_tupleL (pv_var 2 rfl rfl) Z.tuple) fun v H3 e3 d3 => ?_))
      have g1 := hz z1 List.mem_cons_self
      have g2 := hz z2 (List.mem_cons_of_mem _ List.mem_cons_self)
      exact q v (pxD (z1, z2)) n2 H3 (x2.trans (Same.exM e3)) (S2.same e3) hn2 d3 ⟨w, (z1, z2), rfl, rfl, g1.1, g1.2, g2.1, g2.2⟩
end
end TP

/-! K19: _law_dots -/
namespace TP
open PySem PySem.Spec PyProof.Rows L2
section
variable {G : Glb}
theorem dn_px_add {K : PySem.W.Frag} {M : Addr → Prop} {H : Hp} {l : Addr} {ys : List V} {v : V} {z : Px} (h : Dn K M H v (pxD z)) (hl : H l = some (.lst ys)) : Dn K (addM M l) H v (pxD z) := by
  cases h with
  | tup hT m hd =>
    cases hd with
    | cons g1 g2 =>
      cases g1
      cases g2 with
      | cons g1 g2 =>
        cases g1
        cases g2
        refine .tup hT (fun z => ?_) (.cons (.int _) (.cons (.int _) .nil))
        rcases z with z | z
        · exact m z
        · rw [z, hl] at hT
          cases hT
theorem ExM.add {M : Addr → Prop} {H H' : Hp} {l : Addr} (x : ExM M H H') : ExM (addM M l) H H' := fun b u hb hh => x b u (fun z => hb (.inl z)) hh
theorem ex_upd {M : Addr → Prop} {H : Hp} {l : Addr} {o : HO} : ExM (addM M l) H (upd H l o) := fun b u hb hh => by
  rw [upd_ne (fun z => hb (.inr z))]
  exact hh
theorem dnAll_snoc {K : PySem.W.Frag} {M : Addr → Prop} {H : Hp} : ∀ {vs : List V} {ds : List PyData} {v : V} {d : PyData}, DnAll K M H vs ds → Dn K M H v d → DnAll K M H (vs ++ [v]) (ds ++ [d])
  | _, _, _, _, .nil, h => .cons h .nil
  | _, _, _, _, .cons g t, h => .cons g (dnAll_snoc t h)
def preDots : List PyData → Prop := fun ds => ds = [.int 9, .int 5]
def postDots : List PyData → PyData → Prop := fun _ d => ∃ qs : List Px, d = .list (qs.map pxD) ∧ AscP qs ∧ qs.length ≤ 400 ∧ ∀ z ∈ qs, PxB 100 z
theorem pxs_shaped : ∀ zs : List Px, PyData.canLayAll0 (zs.map pxD) = true
  | [] => rfl
  | z :: zs => by
    show (PyData.canLay0 (pxD z) && PyData.canLayAll0 (zs.map pxD)) = true
    rw [pxs_shaped zs]
    rfl
theorem pxs_depth : ∀ zs : List Px, PyData.depthAll (zs.map pxD) ≤ 3
  | [] => by decide
  | z :: zs => by
    have h := pxs_depth zs
    have h1 : PyData.depth (pxD z) ≤ 3 := by
      show PyData.depth (PyData.tuple [.int z.1, .int z.2]) ≤ 3
      simp [PyData.depth, PyData.depthAll]
    show max (PyData.depth (pxD z)) (PyData.depthAll (zs.map pxD)) ≤ 3
    omega
theorem list_shaped (zs : List Px) : SeqAt.shaped (.list (zs.map pxD)) = true := by
  have h := pxs_depth zs
  have h2 : (PyData.list (zs.map pxD)).depth ≤ 64 := by
    rw [PyData.depth]
    omega
  unfold SeqAt.shaped
  rw [decide_eq_true h2, Bool.and_true]
  exact pxs_shaped zs
def near (i : Nat) (z : Px) : Prop := -5 - (i : Int) ≤ z.1 ∧ z.1 ≤ 5 + (i : Int) ∧ -5 - (i : Int) ≤ z.2 ∧ z.2 ≤ 5 + (i : Int)
theorem ok_law_dots (Z : Free G) (R : Raw G "_law_dots" s_law_dots) (Dd : Def G "_law_draw" 1 ["_law_source_here", "_law_count"] (SpI G.K preDraw 1 postDraw)) (Dt : Def G "_law_dot" 2 ["_law_source_here", "_law_wide"] (SpI G.K preDot 2 postDot)) : Def G "_law_dots" 3 ["_law_source_here", "_law_many", "_law_wide"] (SpI G.K preDots 55 postDots) := by
  refine def_sp R sc_law_dots (fun vs H Q E ⟨a, us, ds, n, h, _, _, hd, hds, _⟩ => by rw [h, List.length_cons, hd.length, hds]; rfl) (fun _ _ _ _ _ _ us hl => match us, hl with | [_, _, _], _ => rfl) fun C hc vs H Q E hsp => ?_
  obtain ⟨a, us, ds, n, rfl, hS, hn, hus, rfl, q⟩ := hsp
  obtain rfl : us = [V.int 9, V.int 5] := hus.ints (ns := [9, 5])
  refine r_cons (r_asg 3 (r_lst (r_anil ⟨(by decide : 0 ≤ sizeLine), fun l hl => ?_⟩)))
  have hal : a ≠ l := fun z => by
    obtain ⟨_, _, _, h1, _⟩ := hS
    rw [z, hl] at h1
    cases h1
  have S0 : SrcAt (upd H l (.lst [])) a n := src_upd hS hal
  have I0 : Im G.K a 0 [some (opD a), some (.int 9), some (.int 5), none, none, none, none] n [some (.ref a), some (.int 9), some (.int 5), some (.ref l), none, none, none] (upd H l (.lst [])) := ⟨S0, rfl, env_some dn_opD (env_some (.int 9) (env_some (.int 5) (env_none (env_none (env_none (env_none env_nil))))))⟩
  refine r_cons (r_rng (g := gName 4) Z.range (pg_nameC 4 rfl (Or.inl rfl) (Or.inr rfl)) (r_acons (r_draw Dd I0 (pad_cons (pv_add (i := 9) (j := 1) (pv_var 1 rfl rfl) pv_int) pad_nil) ⟨10, rfl, by decide, bd_of (y := 11) (by decide) (by decide) (by decide)⟩ (by omega) fun v d n1 H1 x1 I1 hn1 d1 hp => ?_)))
  obtain ⟨c, rfl, c0, c1⟩ := post_draw hp
  cases d1
  have x01 : ExM (Ma a) H H1 := (Same.exM (same_new hl)).trans x1
  refine r_anil ⟨c, rfl, by omega, by omega, for_range (fun i σ2 H2 => ∃ (n2 : Nat) (zs : List Px) (vs : List V) (o4 o5 o6 : Option V), σ2 = [some (.ref a), some (.int 9), some (.int 5), some (.ref l), o4, o5, o6] ∧ ExM (Ma a) H H2 ∧ SrcAt H2 a n2 ∧ n2 ≤ n + 1 + 6 * i ∧ H2 l = some (.lst vs) ∧ DnAll G.K (addM (Ma a) l) H2 vs (zs.map pxD) ∧ zs.length = i ∧ ∀ z ∈ zs, near i z) ?_ ?_ ?_⟩
  · exact ⟨n1, [], [], none, none, none, rfl, x01, I1.src, by omega, x1 _ _ (Ne.symm hal) upd_same, .nil, rfl, fun z hz => by cases hz⟩
  · rintro i σ2 H2 hi ⟨n2, zs, vs, o4, o5, o6, rfl, x2, S2, hn2, hl2, hd2, hlen, hz⟩
    have hi9 : i ≤ 9 := by omega
    have I2 : Im G.K a 0 [some (opD a), some (.int 9), some (.int 5), some (.list (zs.map pxD)), none, none, none] n2 [some (.ref a), some (.int 9), some (.int 5), some (.ref l), some (.int (0 + (i : Int))), o5, o6] H2 :=
      ⟨S2, rfl, env_some dn_opD (env_some (.int 9) (env_some (.int 5) (env_some (.lst (.inl hl2) (Ne.symm hal) (hd2.lessM (M := Ma a) (M' := addM (Ma a) l) fun _ z => .inl z)) (env_none (env_none (env_none env_nil))))))⟩
    refine r_cons (r_asg 5 (r_draw Dt I2 (pad_cons ((pv_var 2 rfl rfl)) pad_nil) ⟨5, rfl, by decide, bd_of (y := 6) (by decide) (by decide) (by decide)⟩ (by omega) fun v d n3 H3 x3 I3 hn3 d3 hp => ?_))
    obtain ⟨w, z, hw, rfl, z1, z2, z3, z4⟩ := hp
    obtain rfl : (5 : Int) = w := by injection hw with a b; injection a
    have hl3 : H3 l = some (.lst vs) := x3 _ _ (Ne.symm hal) hl2
    have hd3 := hd2.ex (x3.add (l := l))
    -- the end of a turn
    have fin : ∀ (y : Px) (v : V) (n4 : Nat) (o6 : Option V) (H4 : Hp), ExM (Ma a) H3 H4 → SrcAt H4 a n4 → n4 ≤ n + 1 + 6 * (i + 1) → Dn G.K (Ma a) H4 v (pxD y) → near (i + 1) y →
        ∀ {D : Ends}, (∀ σ2 H2, (∃ (n2 : Nat) (zs : List Px) (vs : List V) (o4 o5 o6 : Option V), σ2 = [some (.ref a), some (.int 9), some (.int 5), some (.ref l), o4, o5, o6] ∧ ExM (Ma a) H H2 ∧ SrcAt H2 a n2 ∧ n2 ≤ n + 1 + 6 * (i + 1) ∧ H2 l = some (.lst vs) ∧ DnAll G.K (addM (Ma a) l) H2 vs (zs.map pxD) ∧ zs.length = i + 1 ∧ ∀ z ∈ zs, near (i + 1) z) → D.nx σ2 H2) →
        ∀ {st : Stmt}, (∀ {D : Ends} {σ H}, σ = [some (.ref a), some (.int 9), some (.int 5), some (.ref l), some (.int (0 + (i : Int))), some v, o6] → H l = some (.lst vs) → D.nx σ (upd H l (.lst (vs ++ [v]))) → s1M C st D σ H) → sM C [st] D [some (.ref a), some (.int 9), some (.int 5), some (.ref l), some (.int (0 + (i : Int))), some v, o6] H4 := by
      intro y v n4 o6 H4 x4 S4 hn4 d4 hy D hD st hst
      have hl4 : H4 l = some (.lst vs) := x4 _ _ (Ne.symm hal) hl3
      refine r_cons (hst rfl hl4 (r_nil (hD _ _ ⟨n4, zs ++ [y], vs ++ [v], _, _, _, rfl, ex_new hl (x2.trans (x3.trans x4)), src_upd S4 hal, hn4, upd_same, ?_, by rw [List.length_append, hlen]; rfl, fun z hz2 => ?_⟩)))
      · rw [List.map_append]
        exact (dnAll_snoc (hd3.ex (x4.add (l := l))) (dn_px_add d4 hl4)).ex ex_upd
      · rcases List.mem_append.mp hz2 with g | g
        · obtain ⟨a1, a2, a3, a4⟩ := hz z g
          unfold near
          omega
        · rw [List.mem_singleton.mp g]
          exact hy
    have hvl : vs.length < sizeLine := by
      rw [hd2.length, List.length_map, sizeLine_eq]
      omega
    have I3' := I3.set (i := 5) (by decide) d3
    by_cases hz0 : zs = []
    · subst hz0
      refine r_cons (r_if (v := false) (PWD.ptd (pwd_and_f (PTD.is (ptd_ne (d1 := .list []) (d2 := .list []) rfl rfl (pv_var 3 rfl rfl) (pv_lst pad_nil)) rfl))) I3'.trk I3'.ev fun H4 e4 => ?_)
      rw [if_neg Bool.false_ne_true]
      refine r_nil (fin z v n3 o6 H4 (Same.exM e4) (I3'.same e4).src (by omega) (d3.same e4) ?_ (fun σ2 H2 h => h) (fun hs hl4 hq => ?_))
      · unfold near
        omega
      · subst hs
        exact r_app 3 rfl rfl hl4 (r_acons (r_var 5 rfl rfl (r_anil ⟨l, _, _, rfl, rfl, hl4, hvl, hq⟩)))
    · have hne : PyData.eqv (.list (zs.map pxD)) (.list []) = false := by
        cases zs with
        | nil => exact absurd rfl hz0
        | cons z0 zr => rfl
      have hlz : 0 < zs.length := List.length_pos_iff.mpr hz0
      refine r_cons (r_ifR (r_and2 (r_ptd (v := true) (PTD.is (ptd_ne (d2 := .list []) (list_shaped zs) rfl (pv_var 3 rfl rfl) (pv_lst pad_nil)) (by rw [hne]; rfl)) I3'.trk I3'.ev fun H4 e4 => ?_)))
      rw [if_pos rfl]
      refine r_gt (r_draw Dd (I3'.same e4) (pad_cons (pv_int) pad_nil) ⟨3, rfl, by decide, by unfold Bd; decide⟩ (by omega) fun v3 d n5 H5 x5 I5 hn5 d5 hp => r_int ?_)
      obtain ⟨r3, rfl, r30, r31⟩ := post_draw hp
      cases d5
      refine ⟨r3, 0, rfl, rfl, ?_⟩
      have x35 : ExM (Ma a) H3 H5 := (Same.exM e4).trans x5
      by_cases hr : 0 < r3
      · rw [if_pos (decide_eq_true hr)]
        refine r_cons (r_asg 6 (r_ixL (r_pv I5.trk I5.ev (pv_var (d := .list (zs.map pxD)) 3 rfl rfl) fun vl H6 e6 d6 => ?_)))
        have I6 := I5.same e6
        refine r_draw Dd I6 (pad_cons (pv_lenL (pv_var 3 rfl rfl) Z.len) pad_nil) ⟨((zs.map pxD).length : Int), rfl, by rw [List.length_map]; omega, bd_of (y := 10) (by omega) (by rw [List.length_map]; omega) (by decide)⟩ (by omega) fun v7 d n7 H7 x7 I7 hn7 d7 hp => ?_
        obtain ⟨j, rfl, j0, j1⟩ := post_draw hp
        cases d7
        rw [List.length_map] at j1
        obtain ⟨jn, rfl⟩ : ∃ jn : Nat, j = (jn : Int) := ⟨j.toNat, by omega⟩
        have hjn : jn < zs.length := by omega
        have hat : atI (zs.map pxD) (jn : Int) = some (pxD zs[jn]) := atI_pre rfl (by rw [List.getElem?_map, List.getElem?_eq_getElem hjn]; rfl)
        have dl := d6.ex x7
        cases dl with
        | lst hL hM hA =>
          obtain ⟨u, hu, du⟩ := atI_dn hA hat
          refine ⟨_, _, _, u, rfl, rfl, .inl hL, hu, ?_⟩
          have I8 := I7.set (i := 6) (by decide) du
          have hny := hz _ (List.getElem_mem hjn)
          generalize zs[jn] = y at I8 hny
          refine r_cons (r_asg 5 (r_tup (r_acons (r_op (fun _ => op_add) (r_pv I8.trk I8.ev (pv_ixT (d := .int y.1) (pv_var (d := pxD y) 6 rfl rfl) pv_int rfl) fun v9 H9 e9 d9 => ?_)))))
          cases d9
          have I9 := I8.same e9
          refine r_draw Dd I9 (pad_cons (pv_int) pad_nil) ⟨2, rfl, by decide, by unfold Bd; decide⟩ (by omega) fun v10 d n10 H10 x10 I10 hn10 d10 hp => ?_
          obtain ⟨ra, rfl, ra0, ra1⟩ := post_draw hp
          cases d10
          refine ⟨y.1, ra, rfl, rfl, r_acons (r_op (fun _ => op_add) (r_pv I10.trk I10.ev (pv_ixT (d := .int y.2) (pv_var (d := pxD y) 6 rfl rfl) pv_int rfl) fun v11 H11 e11 d11 => ?_))⟩
          cases d11
          have I11 := I10.same e11
          refine r_draw Dd I11 (pad_cons (pv_int) pad_nil) ⟨2, rfl, by decide, by unfold Bd; decide⟩ (by omega) fun v12 d n12 H12 x12 I12 hn12 d12 hp => ?_
          obtain ⟨rb, rfl, rb0, rb1⟩ := post_draw hp
          cases d12
          refine ⟨y.2, rb, rfl, rfl, r_anil ⟨(by decide : 2 ≤ sizeLine), fun t ht => ?_⟩⟩
          have x13 : ExM (Ma a) H3 (upd H12 t (.tup [.int (y.1 + ra), .int (y.2 + rb)])) := x35.trans ((Same.exM e6).trans (x7.trans ((Same.exM e9).trans (x10.trans ((Same.exM e11).trans (x12.trans (Same.exM (same_new ht))))))))
          refine r_nil (fin (y.1 + ra, y.2 + rb) (.ref t) n12 _ _ x13 (I12.same (same_new ht)).src (by omega) (.tup upd_same (I12.trk.new ht) (.cons (.int _) (.cons (.int _) .nil))) ?_ (fun σ2 H2 h => h) (fun hs hl4 hq => ?_))
          · obtain ⟨a1, a2, a3, a4⟩ := hny
            unfold near
            show _ ≤ y.1 + ra ∧ y.1 + ra ≤ _ ∧ _ ≤ y.2 + rb ∧ y.2 + rb ≤ _
            omega
          · subst hs
            exact r_app 3 rfl rfl hl4 (r_acons (r_var 5 rfl rfl (r_anil ⟨l, _, _, rfl, rfl, hl4, hvl, hq⟩)))
      · rw [if_neg (by rw [decide_eq_false hr]; exact Bool.false_ne_true)]
        refine r_nil (fin z v n5 o6 H5 x35 I5.src (by omega) ((d3.same e4).ex x5) ?_ (fun σ2 H2 h => h) (fun hs hl4 hq => ?_))
        · unfold near
          omega
        · subst hs
          exact r_app 3 rfl rfl hl4 (r_acons (r_var 5 rfl rfl (r_anil ⟨l, _, _, rfl, rfl, hl4, hvl, hq⟩)))
  · rintro σ2 H2 ⟨n2, zs, vs, o4, o5, o6, rfl, x2, S2, hn2, hl2, hd2, hlen, hz⟩
    have ev : EnvD G.K (Ma a) H2 [some (.ref a), some (.int 9), some (.int 5), some (.ref l), o4, o5, o6] [none, none, none, some (.list (zs.map pxD)), none, none, none] :=
      env_none (env_none (env_none (env_some (.lst (.inl hl2) (Ne.symm hal) (hd2.lessM (M := Ma a) (M' := addM (Ma a) l) fun _ z => .inl z)) (env_none (env_none (env_none env_nil))))))
    refine r_cons (r_ret (r_sset S2.trk ev (pv_var 3 rfl rfl) (by omega) Z.sorted Z.set fun qs v H3 e3 d3 ha hl3 hsub => ?_))
    refine q v _ n2 H3 (x2.trans (Same.exM e3)) (S2.same e3) (by omega) d3 ⟨qs, rfl, ha, by omega, fun z hz3 => ?_⟩
    obtain ⟨a1, a2, a3, a4⟩ := hz z (hsub z hz3)
    constructor
    · unfold Bd
      have e : (2 : Nat) ^ 100 = 1267650600228229401496703205376 := by decide
      rw [e]
      omega
    · unfold Bd
      have e : (2 : Nat) ^ 100 = 1267650600228229401496703205376 := by decide
      rw [e]
      omega
end
end TP

/-! K20: the script; loops and a comprehension by continuations -/
namespace TPL
open PySem PyProof.Rows PySem.AutoSeq1
theorem list_addS (l : Addr) (items : Array Value) (n : Nat) (sl : Array (Option Value)) (b : Addr) (items2 : Array Value) (n2 : Nat) (hc0 : items.size + items2.size ≤ sizeLine) :
    Meets (Builtin.«list.__add__» ⟨[.ref l, .ref b], []⟩) (fun _ R s => s.heap.get? l = some { cls := .type "list", dict := none, data := .seq items n, slots := sl } ∧ s.heap.get? b = some { cls := .type "list", dict := none, data := .seq items2 n2, slots := #[] } ∧ R (.ok (.ret (Value.ref s.heap.objs.size))) { s with heap := s.heap.push { cls := Value.type "list", data := Data.seq (items ++ items2) }, toks := s.toks }) :=
  .of_wp fun prog w A R s h => by
    obtain ⟨hp, g, d, tk, os⟩ := s; obtain ⟨hl, hb, h⟩ := h
    have f1 := idx_int; have f2 := AutoSeq1.sub_tuple_tuple; have f3 := AutoSeq1.sub_list_list; have f4 := AutoSeq1.sub_tuple_list; have f5 := AutoSeq1.sub_list_tuple
    wp_walk using wpAny_loadPart' hl, wpAny_loadPart' hb
    exact ⟨_, rfl, h⟩
theorem add_listS {prog : Program} {w : World} {A : Around} {E : Value → Shared → Prop} {s : Shared} {l b : Addr} {items items2 : Array Value} {n n2 : Nat} {sl : Array (Option Value)} {Q : Value → Shared → Prop} (hl : s.heap.get? l = some { cls := .type "list", dict := none, data := .seq items n, slots := sl }) (hb : s.heap.get? b = some { cls := .type "list", dict := none, data := .seq items2 n2, slots := #[] })
    (h : Q (.ref s.heap.objs.size) { s with heap := s.heap.push { cls := .type "list", data := .seq (items ++ items2) } }) (hsz : items.size + items2.size ≤ sizeLine) : wpAny (model prog w) A (binaryOp .Add (.ref l) (.ref b)) Q E s :=
  concat_meets ⟨_, hl, rfl⟩ ⟨_, hb, rfl⟩ noFill_list_add seq_list_add F.slot_list_add F.entry_list_add (F.args_list_add_2 _ _) (list_addS l items n sl b items2 n2 hsz) ⟨hl, hb, h⟩
end TPL
namespace TP
open PySem PySem.Spec PyProof.Rows L2
/-- a list of the program's own -/
def KL (K : PySem.W.Frag) (a : Addr) (xs : List V) : Prop := ∃ (o : Obj) (its : Array Value) (n : Nat), K.lookup a = some o ∧ o.cls = .type "list" ∧ o.dict = none ∧ o.data = .seq its n ∧ its.size ≤ sizeLine ∧ Vals xs its.toList
def rCatK (K : PySem.W.Frag) : R2 := fun x y H Q => ∃ l b xs zs, x = .ref l ∧ y = .ref b ∧ KL K l xs ∧ Rd H b (.lst zs) ∧ xs.length + zs.length ≤ sizeLine ∧ ∀ p, H p = none → Q (.ref p) (upd H p (.lst (xs ++ zs)))
theorem op_catK {X : Cx} : OpR X (binaryOp .Add) (rCatK X.K) := by
  intro pins s σ H x y v u Q I rx ry h
  obtain ⟨l, b, xs, zs, rfl, rfl, ⟨o, its, n, hk, hc, hd, hs, hz1, r⟩, hB, hz, q⟩ := h
  cases rx
  cases ry
  have e := I.kIn l o hk
  obtain ⟨cls, dd, data, sl⟩ := o
  simp only at hc hd hs
  subst hc hd hs
  obtain ⟨z2, its2, n2, r2, e2⟩ := hB.ok I.hok
  have hl := r.length
  have hl2 := r2.length
  have hl4 : its.toList.length = its.size := Array.length_toList ..
  have hl3 : its2.toArray.size = its2.length := List.size_toArray ..
  refine TPL.add_listS e e2 ?_ (by omega)
  have ea : its ++ its2.toArray = (its.toList ++ its2).toArray := by simp
  rw [ea]
  exact ⟨.ref _, _, I.lnew (t' := s.toks) (r.append r2) (by rw [List.length_append]; omega), rfl, q _ I.fresh⟩
/-- how the script is known -/
def Scr (K : PySem.W.Frag) (a : Addr) (ns : List Int) (d : PyData) : Prop := d = .list (ns.map PyData.int) ∨ (d = opD a ∧ KL K a (ns.map V.int))
theorem dpAll_ints {K : PySem.W.Frag} {H : Hp} : ∀ ns : List Int, DpAll K H (ns.map V.int) (ns.map PyData.int)
  | [] => .nil
  | n :: ns => .cons (.int n) (dpAll_ints ns)
theorem dnAll_ints {K : PySem.W.Frag} {M : Addr → Prop} {H : Hp} : ∀ ns : List Int, DnAll K M H (ns.map V.int) (ns.map PyData.int)
  | [] => .nil
  | n :: ns => .cons (.int n) (dnAll_ints ns)
theorem ints_lay : ∀ ns : List Int, PyData.canLayAll0 (ns.map PyData.int) = true
  | [] => rfl
  | n :: ns => by
    show (PyData.canLay0 (.int n) && PyData.canLayAll0 (ns.map PyData.int)) = true
    rw [ints_lay ns]
    rfl
theorem ints_depth : ∀ ns : List Int, PyData.depthAll (ns.map PyData.int) = 0
  | [] => rfl
  | n :: ns => by
    show max (PyData.depth (.int n)) (PyData.depthAll (ns.map PyData.int)) = 0
    rw [ints_depth ns]
    rfl
theorem ints_shaped (ns : List Int) : SeqAt.shaped (.list (ns.map PyData.int)) = true := by
  have h2 : (PyData.list (ns.map PyData.int)).depth ≤ 64 := by
    rw [PyData.depth, ints_depth ns]
    decide
  unfold SeqAt.shaped
  rw [decide_eq_true h2, Bool.and_true]
  exact ints_lay ns
section
variable {G : Glb} {k : Nat} {N : List Str} {sc : Scope} {C : Ctx G k N sc} {M : Addr → Prop} {δ : DE}
variable {x e o c tg a b elt : Expr} {es : List Expr} {pos p p2 p3 p4 p5 : Pos} {D : Ends} {σ : L2.St} {H : Hp} {Q : VK} {body orelse : List Stmt} {d d0 : PyData} {ds : List PyData} {ad : Addr} {ns ms : List Int}
theorem pv_scat (hs : Scr G.K ad ns d0) (hl : ns.length + ms.length ≤ sizeLine) (ha : PV C M δ a d0) (hb : PV C M δ b (.list (ms.map PyData.int))) : PV C M δ (.BinOp a .Add b pos) (.list ((ns ++ ms).map PyData.int)) := by
  rcases hs with rfl | ⟨rfl, hk⟩
  · rw [List.map_append]
    exact pv_cat (by rw [List.length_map, List.length_map]; exact hl) ha hb
  · refine pv_op (fun n => by
      have z := op_catK (X := C.X n)
      rw [C.hK n] at z
      exact z) (fun H v u tk h1 h2 Q q => ?_) ha hb
    rw [opD_ref h1]
    cases h2 with
    | lst hT2 m2 hd2 => exact ⟨_, _, _, _, rfl, rfl, hk, hT2, by rw [hd2.length, List.length_map, List.length_map]; exact hl, fun r hr => q _ _ (same_new hr) (by
        rw [List.map_append]
        exact dn_newL tk ((dnAll_ints ns).append hd2) hr)⟩
theorem pv_slen (hs : Scr G.K ad ns d0) (ha : PV C M δ e d0) (hm : G.mg "len" = none) (hg : GLx sc "len" := by rfl) (h1 : NoStar e := by intro _; rfl) : PV C M δ (.Call (.Name "len" p) [e] [] pos) (.int (ns.length : Int)) := by
  rcases hs with rfl | ⟨rfl, hk⟩
  · exact PV.is (pv_lenL ha hm hg h1) (by rw [List.length_map])
  · refine pv_callB (ds := [opD ad]) (r := fun xs H Q => ∃ p ys, xs = [.ref p] ∧ (SqL G.K H p ys ∨ SqT G.K H p ys) ∧ Q (.int ys.length) H) (fun n => by
      have h := call_len_seq (X := C.X n)
      rw [C.hK n] at h
      exact h) boot_len hm hg (pad_one ha h1) (fun H vs tk h Q q => ?_) (by decide) (by decide) h1.cons (nostar_nil pos)
    cases h with
    | cons g1 g2 =>
      cases g2
      rw [opD_ref g1]
      exact ⟨_, _, rfl, .inl (.inr hk), by rw [List.length_map]; exact q _ H (Same.refl H) (.int _)⟩
theorem pv_sne (hs : Scr G.K ad ns d0) (ha : PV C M δ a d0) (hb : PV C M δ b (.list [])) : PV C M δ (.Compare a [.NotEq] [b] pos) (.bool (!decide (ns = []))) := by
  have e : PyData.eqv (.list (ns.map PyData.int)) (.list []) = decide (ns = []) := by
    cases ns with
    | nil => rfl
    | cons n ns => rfl
  rw [← e]
  rcases hs with rfl | ⟨rfl, hk⟩
  · exact pv_ne (ints_shaped ns) rfl ha hb
  · refine pv_cmp op_neC (nomark b) (fun H v u tk h1 h2 Q q => ?_) ha hb
    rw [opD_ref h1]
    exact ⟨_, _, .lst (.inr hk) (dpAll_ints ns), h2.dp rfl, ints_shaped ns, rfl, q _ H (Same.refl H) (.bl _)⟩
/-- for x in (..): every turn by its own word -/
theorem r_forT {g : TG} (hg : ∀ m, PG (C.X m) tg g) (hp : PV C M δ e (.tuple ds)) (tk : TrkM M H) (ev : EnvD G.K M H σ δ)
    (h : ∀ H1, Same H H1 → ∃ Pv : Nat → L2.St → Hp → Prop, Pv 0 σ H1 ∧ (∀ i σ2 H2, Pv i σ2 H2 → ExM M H1 H2) ∧
      (∀ i d v σ2 H2, ds[i]? = some d → Pv i σ2 H2 → Dn G.K M H2 v d → g v σ2 H2 fun σ3 H3 => sM C body { D with nx := Pv (i + 1), ct := Pv (i + 1), bk := D.nx } σ3 H3) ∧ ∀ σ2 H2, Pv ds.length σ2 H2 → D.nx σ2 H2)
    (hf : NoFold e := by intro _ _; rfl) : s1M C (.For tg e body [] pos) D σ H := by
  refine r_s1 (t := tFor (iTup G.K (eM C e)) g (sM C body)) (fun m => ps_for (passes_never m) (C.calm m) (pi_tupC m) (hg m) (pss_M body m) (hf _)) ?_
  refine r_pv tk ev hp fun v H1 e1 d1 => ?_
  obtain ⟨Pv, h0, hx, hs, hd⟩ := h H1 e1
  cases d1 with
  | tup hT m hds =>
    rename_i ad xs
    have hlen := hds.length
    refine ⟨ad, rfl, ⟨xs, .inl (.inl hT)⟩, for_tup (xs := xs) Pv h0 (fun i σ2 H2 _ pv => .inl (.inl (hx i σ2 H2 pv _ _ m hT))) (fun i x σ2 H2 hxi pv => ?_) (by rw [hlen]; exact hd)⟩
    obtain ⟨d, e2, hdn⟩ := hds.getV hxi
    exact hs i d x σ2 H2 e2 pv (hdn.ex (hx i σ2 H2 pv))
/-- for i, x in enumerate(..) -/
theorem r_forE {g : TG} {kk : Nat} (hm : G.mg "enumerate" = none) (hg : ∀ m, PG (C.X m) (.Tuple es kk p2) g) (hp : PV C M δ e (.list ds)) (tk : TrkM M H) (ev : EnvD G.K M H σ δ)
    (h : ∀ H1, Same H H1 → ∃ Pv : Nat → L2.St → Hp → Prop, Pv 0 σ H1 ∧ (∀ i σ2 H2, Pv i σ2 H2 → Same H1 H2) ∧
      (∀ i d v σ2 H2 H3, ds[i]? = some d → Pv i σ2 H2 → Same H2 H3 → Dn G.K M H3 v (.tuple [.int (i : Int), d]) → g v σ2 H3 fun σ3 H4 => sM C body { D with nx := Pv (i + 1), ct := Pv (i + 1), bk := D.nx } σ3 H4) ∧ ∀ σ2 H2, Pv ds.length σ2 H2 → D.nx σ2 H2)
    (hgl : GLx sc "enumerate" := by rfl) (hs : NoStar e := by intro _; rfl) (hf : NoFold (.Call (.Name "enumerate" p) [e] [] p3) := by intro _ _; rfl) : s1M C (.For (.Tuple es kk p2) (.Call (.Name "enumerate" p) [e] [] p3) body [] pos) D σ H := by
  refine r_s1 (t := tFor (iEnum G.K (aM C [e])) g (sM C body)) (fun m => ps_for (passes_never m) (C.calm m) (pi_enumC hm hgl hs m) (hg m) (pss_M body m) (hf _)) ?_
  refine r_acons (r_pv tk ev hp fun v H1 e1 d1 => r_anil ?_) hs.cons
  obtain ⟨Pv, h0, hx, hst, hd⟩ := h H1 e1
  cases d1 with
  | lst hT m hds =>
    rename_i ad xs
    have hlen := hds.length
    refine ⟨ad, xs, rfl, .inl hT, fun i m σ2 H2 => m = ds.length - i ∧ i ≤ ds.length ∧ Pv i σ2 H2, ⟨ds.length, by simp, Nat.zero_le _, h0⟩, ?_⟩
    rintro i m2 σ2 H2 ⟨rfl, hin, pv⟩
    have s2 := hx i σ2 H2 pv
    have hT2 := rd_same s2 hT
    by_cases hlt : i < ds.length
    · have hxl : i < xs.length := by omega
      refine .inr ⟨⟨xs, xs[i], .inl hT2, by simp [hxl]⟩, Pv (i + 1), fun σ' H' z => ⟨ds.length - (i + 1), by omega, rfl, hlt, z⟩, fun x H3 y => ?_⟩
      obtain ⟨T, x2, rfl, hn, rfl, y⟩ := y
      have hy := y xs (.inl hT2)
      obtain ⟨d, e2, h2⟩ := hds.getV hy
      exact hst i d _ σ2 H2 _ e2 pv (same_new hn) (dn_newT ((tk.same e1).same s2) (.cons (.int _) (.cons (h2.same s2) .nil)) hn)
    · have ei : i = ds.length := by omega
      subst ei
      exact .inl ⟨⟨xs, .inl hT2, by omega⟩, hd σ2 H2 pv⟩
theorem r_tests {Cb : Ctx G k N sc} {Qb : Bool → Hp → Prop} (q : Qb true H) : cM Cb [] σ H Qb := fun i pins s I => (pts_nil (X := Cb.X i)).run pins s σ H Qb I q
/-- y = [elt for x in (..)] -/
theorem r_setLcT {scope : Scope} (y n : Nat) {u w : Str} {px py : Pos} {it : Expr} (hp : PV C M δ it (.tuple ds)) (tk : TrkM M H) (ev : EnvD G.K M H σ δ) (hy : N[y]? = some u) (hly : sc.names.lookup u = some .local) (ok : BlkOk N sc scope [(w, n)]) (hx : N[n]? = some w) (hl : (relS scope sc).names.lookup w = some .local)
    (hsw : SwOk (.ListComp elt [⟨.Name w px, it, [], 0⟩] scope pos) (some (.Name u py)) p3.line sc true)
    (h : ∀ H1 l, Same H H1 → H1 l = none → ∃ Pv : Nat → Hp → Prop, Pv 0 (upd H1 l (.lst [])) ∧ (∀ i H2, Pv i H2 → ExM (addM M l) H1 H2) ∧
      (∀ i d v H2, ds[i]? = some d → Pv i H2 → Dn G.K (addM M l) H2 v d → eM (C.blk scope) elt ((wipe σ [n]).set n (some v)) H2 fun z H3 => ∃ acc, H3 l = some (.lst acc) ∧ acc.length < sizeLine ∧ Pv (i + 1) (upd H3 l (.lst (acc ++ [z])))) ∧
      ∀ H2, Pv ds.length H2 → D.nx (σ.set y (some (.ref l))) H2) (hf : NoFold it := by intro _ _; rfl) :
    s1M C (.Assign [.Name u py] (.ListComp elt [⟨.Name w px, it, [], 0⟩] scope pos) p3) D σ H := by
  refine r_s1 (t := tAsg (tLc (iTup G.K (eM C it)) (gName n) (cM (C.blk scope) []) (eM (C.blk scope) elt) [n]) (gName y)) (fun m => ps_setLc (i := y) (own := [(w, n)]) (X := C.X m) (C.calm m) (by rw [C.hN m]; exact C.nd) (by rw [C.hN m]; exact hy) (by rw [C.hsc m]; exact hly) (hsw _ (C.hsc m)) (pi_tupC m) (by rw [C.hN m, C.hsc m]; exact ok) (fun s H A cl fp => pg_nameC (C := C.blk scope) n hx (.inl hl) (.inr hl) (m, s, H, A, cl, fp)) (fun s H A cl fp => pts_M (C := C.blk scope) [] (m, s, H, A, cl, fp)) (fun s H A cl fp => pe_M (C := C.blk scope) elt (m, s, H, A, cl, fp)) (hf _)) ?_
  refine r_pv tk ev hp fun v H1 e1 d1 => ?_
  cases d1 with
  | tup hT m hds =>
    rename_i ad xs
    have hlen := hds.length
    refine ⟨ad, rfl, ⟨xs, .inl (.inl hT)⟩, fun l hD => ?_⟩
    obtain ⟨Pv, h0, hxx, hst, hd⟩ := h H1 l e1 hD
    have keep : ∀ i H2, Pv i H2 → H2 ad = some (.tup xs) := fun i H2 pv => hxx i H2 pv _ _ (fun z => z.elim m (ne_of_none hT hD)) hT
    refine ⟨fun i m H2 => m = ds.length - i ∧ i ≤ ds.length ∧ Pv i H2, ⟨ds.length, by simp, Nat.zero_le _, h0⟩, ?_⟩
    rintro i m2 H2 ⟨rfl, hin, pv⟩
    have hT2 := keep i H2 pv
    by_cases hlt : i < ds.length
    · have hxl : i < xs.length := by omega
      refine .inr ⟨⟨xs, xs[i], .inl (.inl hT2), by simp [hxl]⟩, Pv (i + 1), fun H' z => ⟨ds.length - (i + 1), by omega, rfl, hlt, z⟩, fun x H3 yl => ?_⟩
      obtain ⟨rfl, yl⟩ := yl
      have hyv := yl xs (.inl (.inl hT2))
      obtain ⟨d, e2, h2⟩ := hds.getV hyv
      refine ⟨(wipe_set (List.mem_singleton.mpr rfl)).trans (wipe_wipe _ _), r_tests ?_⟩
      rw [if_pos rfl]
      exact hst i d x _ e2 pv ((h2.addM hD).ex (hxx i _ pv))
    · have ei : i = ds.length := by omega
      subst ei
      exact .inl ⟨⟨xs, .inl (.inl hT2), by omega⟩, hd H2 pv⟩
/-- a, b = (..) in general -/
theorem r_unp {nn : List Nat} {n kk : Nat} (hg : ∀ m, PGs (C.X m) es (gNames nn)) (h : eM C e σ H fun v H1 => gTup G.K n (gNames nn) v σ H1 D.nx) (hne : ∀ env, (assignEach es env).length = n := by intro _; rfl) (hst : ∀ env, (assignEach es env).findIdx? (·.1) = none := by intro _; rfl)
    (hs : ∀ env, swapsWithSole [.Tuple es kk p] e pos.line env = pure false := by intro _; rfl) (hw : ∀ env, env.scope = sc → swappedStores [.Tuple es kk p] e env = pure none := by intro _ _; rfl) : s1M C (.Assign [.Tuple es kk p] e pos) D σ H :=
  r_s1 (t := tAsg (eM C e) (gTup G.K n (gNames nn))) (fun m => ps_asg (pe_M e m) (pg_tupC hg hne hst m) (hs _) (hw _ (C.hsc m)) rfl) h
end
end TP

/-! K21: law -/
namespace TP
open PySem PySem.Spec PyProof.Rows L2
def spLaw (K : PySem.W.Frag) : Sp := fun vs H Q _ => ∃ (a : Addr) (ns : List Int), vs = [.ref a] ∧ SqL K H a (ns.map V.int) ∧ ns.length ≤ 63 ∧ ∀ H', Q (.bl true) H'
theorem cut_int {ms : List Int} {lo hi : Option Int} {i : Nat} {d : PyData} (h : (cutD (ms.map PyData.int) lo hi)[i]? = some d) : i < ms.length ∧ ∃ e : Int, d = .int e := by
  have hm := List.mem_of_getElem? h
  unfold cutD at hm h
  have h1 := List.mem_of_mem_drop (List.mem_of_mem_take hm)
  obtain ⟨e, _, rfl⟩ := List.mem_map.mp h1
  refine ⟨?_, e, rfl⟩
  obtain ⟨hl, _⟩ := List.getElem?_eq_some_iff.mp h
  rw [List.length_take, List.length_drop, List.length_map] at hl
  omega
theorem px200 {w : Int} {z : Px} (h : w ≤ 10000000000000000000000000000000000000000) (h1 : -w ≤ z.1) (h2 : z.1 ≤ w) (h3 : -w ≤ z.2) (h4 : z.2 ≤ w) : PxB 200 z := by
  have e : (2 : Nat) ^ 200 = 1606938044258990275541962092341162602522202993782792835301376 := by decide +kernel
  constructor
  · unfold Bd
    rw [e]
    omega
  · unfold Bd
    rw [e]
    omega
theorem dn_ints2 {K : PySem.W.Frag} {M : Addr → Prop} {H : Hp} {v : V} {i j : Int} (h : Dn K M H v (.tuple [.int i, .int j])) : ∃ T, v = .ref T ∧ H T = some (.tup [.int i, .int j]) := by
  cases h with
  | tup hT m hd =>
    cases hd with
    | cons g1 g2 =>
      cases g1
      cases g2 with
      | cons g1 g2 =>
        cases g1
        cases g2
        exact ⟨_, rfl, hT⟩
section
variable {G : Glb}
theorem fn_sp {k : Nat} {N ps : List Str} {x : Str} {st : Stmt} {sp : Sp} {f : Addr} {fd : FuncData} (F : Fun G.K x x st f fd) (S : FnScope N ps (defScope st)) (len : ∀ vs H Q E, sp vs H Q E → vs.length = ps.length)
    (body : ∀ (C : Ctx G k N (defScope st)), C.cellOk → ∀ vs H Q E, sp vs H Q E → sM C (defBody st) { nx := fun _ H' => Q .non H', rt := Q } (start N vs) H) : FnOk G.P G.w G.K G.mg G.base CX0 (k + 1) f fd ps sp := by
  refine F.ok S len fun cdv A outer s H vs Q E hr hsp => ?_
  have z := body (ctxOf (P := G.P) (w := G.w) (K := G.K) (mg := G.mg) (base := G.base) S x f cdv A outer s H E hr) trivial vs H Q E hsp
  exact ⟨_, pss_M (C := ctxOf (P := G.P) (w := G.w) (K := G.K) (mg := G.mg) (base := G.base) S x f cdv A outer s H E hr) _ (), z⟩
theorem ok_law {f : Addr} {fd : FuncData} (Z : Free G) (F : Fun G.K "law" "law" s_law f fd) (Dsrc : Def G "_law_source" 1 ["_law_entry", "_law_k"] SpSrc) (Dd : Def G "_law_draw" 1 ["_law_source_here", "_law_count"] (SpI G.K preDraw 1 postDraw))
    (Dsp : Def G "_law_spin" 2 ["_law_source_here", "_law_most"] (SpI G.K preSpin 7 postSpin)) (Dt : Def G "_law_dot" 2 ["_law_source_here", "_law_wide"] (SpI G.K preDot 2 postDot)) (Dds : Def G "_law_dots" 3 ["_law_source_here", "_law_many", "_law_wide"] (SpI G.K preDots 55 postDots))
    (Dl : Def G "_law_lines_right" 6 ["_law_spin_here", "_law_sort"] (SpD G.K FLines)) (Dr : Def G "_law_dots_right" 8 ["_law_spin_here", "_law_sort", "_law_dots_here"] (SpD G.K FDots)) (Dp : Def G "_law_parted_right" 7 ["_law_spin_here", "_law_far"] (SpD G.K FParted))
    (Dpic : Def G "sheared_picture" 7 ["turn", "order", "pixels"] (SpD G.K FPic)) (Dsh : Def G "sheared" 6 ["turn", "order", "pixel"] (SpD G.K FSheared)) (Dm : Def G "matrix_of" 4 ["chain"] (SpD G.K FMat)) (Dch : Def G "shear_chain" 5 ["turn", "order"] (SpD G.K FChain)) (Df : Def G "fewest_shears" 5 ["matrix"] (SpD G.K FFew)) :
    FnOk G.P G.w G.K G.mg G.base CX0 9 f fd ["_law_script"] (spLaw G.K) := by
  refine fn_sp F sc_law (fun vs H Q E ⟨a, ns, h, _⟩ => by rw [h]; rfl) fun C hc vs H Q E hsp => ?_
  obtain ⟨a, ns, rfl, hS, hn, q⟩ := hsp
  obtain ⟨d0, hd0, hsc⟩ : ∃ d0, Dn G.K M0 H (.ref a) d0 ∧ Scr G.K a ns d0 := by
    rcases hS with h | h
    · exact ⟨_, .lst h (fun z => z) (dnAll_ints ns), .inl rfl⟩
    · exact ⟨_, dn_opD, .inr ⟨rfl, h⟩⟩
  have ev : EnvD G.K M0 H (start ["_law_script", "_law_k", "_law_cell", "_law_source_here", "_law_wide", "_law_spin_here", "_law_sort", "_law_dots_here", "_law_some", "_law_far", "_law_dot_here"] [.ref a]) [some d0, none, none, none, none, none, none, none, none, none, none] :=
    env_some hd0 (env_none (env_none (env_none (env_none (env_none (env_none (env_none (env_none (env_none (env_none env_nil))))))))))
  refine r_cons (r_forE (g := gTup G.K 2 (gNames [1, 2])) Z.enum (pg_tupC (pgs_consC 1 rfl (.inl rfl) (.inr rfl) (pgs_consC 2 rfl (.inl rfl) (.inr rfl) pgs_nilC)) (fun _ => rfl) (fun _ => rfl)) (pv_slL_hi (j := max 1 (min (ns.length : Int) 6)) (pv_scat (ms := [0]) hsc (by rw [sizeLine_eq]; show ns.length + 1 ≤ _; omega) (pv_var 0 rfl rfl) (pv_lst (pad_cons (pv_int) pad_nil))) (pv_max pv_int (pv_min (pv_slen hsc (pv_var 0 rfl rfl) Z.len) pv_int Z.min) Z.max)) trk0 ev fun H1 e1 =>
    ⟨fun i σ2 H2 => Same H1 H2 ∧ ∃ o1 o2 o3 o4 o5 o6 o7 o8 o9 o10 : Option V, σ2 = [some (.ref a), o1, o2, o3, o4, o5, o6, o7, o8, o9, o10], ⟨Same.refl _, _, _, _, _, _, _, _, _, _, _, rfl⟩, fun i σ2 H2 h => h.1, ?_, ?_⟩)
  · rintro i d v σ2 H2 H3 hd ⟨s2, o1, o2, o3, o4, o5, o6, o7, o8, o9, o10, rfl⟩ s3 dv
    obtain ⟨hi, e, rfl⟩ := cut_int hd
    have hi2 : i ≤ 100 := by
      rw [List.length_append] at hi
      have : ([0] : List Int).length = 1 := rfl
      omega
    obtain ⟨T, rfl, hT⟩ := dn_ints2 dv
    refine ⟨T, _, rfl, .inl (.inl hT), rfl, _, _, rfl, _, _, rfl, rfl, ?_⟩
    show sM C _ _ [some (.ref a), some (.int (i : Int)), some (.int e), o3, o4, o5, o6, o7, o8, o9, o10] H3
    refine r_cons (r_asg 3 (r_e (fun m => pv_fn Dsrc (by decide) rfl m) ?_))
    refine r_acons (r_var 2 rfl rfl (r_acons (r_var 1 rfl rfl (r_anil ⟨e, (i : Int), rfl, by omega, by omega, fun b H4 hb s4 S4 => ?_⟩))))
    have hdS : Dn G.K (Ma b) H4 (.ref a) d0 := (((hd0.same (e1.trans (s2.trans s3))).addM hb).lessM (M := Ma b) (M' := addM M0 b) (fun _ z => .inr z)).same s4
    have ev4 : EnvD G.K (Ma b) H4 [some (.ref a), some (.int (i : Int)), some (.int e), some (.ref b), o4, o5, o6, o7, o8, o9, o10] [some d0, some (.int (i : Int)), none, some (opD b), none, none, none, none, none, none, none] :=
      env_some hdS (env_some (.int _) (env_none (env_some dn_opD (env_none (env_none (env_none (env_none (env_none (env_none (env_none env_nil))))))))))
    show sM C _ _ [some (.ref a), some (.int (i : Int)), some (.int e), some (.ref b), o4, o5, o6, o7, o8, o9, o10] H4
    refine r_cons (r_forT (g := gName 4) (ds := [.int 9, .int 1000, .int 1000000000000000]) (pg_nameC 4 rfl (.inl rfl) (.inr rfl)) (pv_tup (pad_cons (pv_int) (pad_cons (pv_int) (pad_cons (PV.is (pv_pow (cpow10 (by decide) (by decide)) pv_int pv_int) (congrArg PyData.int (by decide +kernel))) pad_nil)))) S4.trk ev4 fun H5 e5 =>
      ⟨fun j σ6 H6 => ∃ (n6 : Nat) (o4 o5 o6 o7 o8 o9 o10 : Option V), σ6 = [some (.ref a), some (.int (i : Int)), some (.int e), some (.ref b), o4, o5, o6, o7, o8, o9, o10] ∧ ExM (Ma b) H5 H6 ∧ SrcAt H6 b n6 ∧ n6 ≤ 70 * j, ⟨0, _, _, _, _, _, _, _, rfl, ExM.refl _, S4.same e5, Nat.zero_le _⟩, fun j σ6 H6 h => by obtain ⟨_, _, _, _, _, _, _, _, _, x, _⟩ := h; exact x, ?_, ?_⟩)
    · rintro j d v σ6 H6 hdj ⟨n6, o4, o5, o6, o7, o8, o9, o10, rfl, x6, S6, hn6⟩ dv
      obtain ⟨hj, w, rfl, w1, w2⟩ : j < 3 ∧ ∃ w : Int, d = .int w ∧ 1 ≤ w ∧ w ≤ 1000000000000000 := by
        match j, hdj with
        | 0, h => cases h; exact ⟨by decide, 9, rfl, by decide, by decide⟩
        | 1, h => cases h; exact ⟨by decide, 1000, rfl, by decide, by decide⟩
        | 2, h => cases h; exact ⟨by decide, 1000000000000000, rfl, by decide, by decide⟩
        | j + 3, h => simp at h
      cases dv
      show sM C _ _ [some (.ref a), some (.int (i : Int)), some (.int e), some (.ref b), some (.int w), o5, o6, o7, o8, o9, o10] H6
      have I6 : Im G.K b 3 [some d0, some (.int (i : Int)), none, some (opD b), some (.int w), none, none, none, none, none, none] n6 [some (.ref a), some (.int (i : Int)), some (.int e), some (.ref b), some (.int w), o5, o6, o7, o8, o9, o10] H6 :=
        ⟨S6, rfl, env_some ((hdS.same e5).ex x6) (env_some (.int _) (env_none (env_some dn_opD (env_some (.int _) (env_none (env_none (env_none (env_none (env_none (env_none env_nil))))))))))⟩
      -- spin, sort
      refine r_cons (r_unp (n := 2) (hw := by intro env he; cases env; cases he; rfl) (pgs_consC 5 rfl (.inr rfl) (.inl hc) (pgs_consC 6 rfl (.inr rfl) (.inl hc) pgs_nilC)) (r_tup (r_acons (r_draw Dsp I6 (pad_cons ((pv_var 4 rfl rfl)) pad_nil) ⟨w, rfl, w1, w2⟩ (by omega) fun v7 d n7 H7 x7 I7 hn7 d7 hp => ?_))))
      obtain ⟨t, rfl, ht⟩ := hp
      refine r_acons (r_ixL (r_pv I7.trk I7.ev (pv_lst (pad_cons (pv_str (x := "xyx")) (pad_cons (pv_str (x := "yxy")) pad_nil))) fun v8 H8 e8 d8 => ?_))
      refine r_draw Dd (I7.same e8) (pad_cons (pv_int) pad_nil) ⟨2, rfl, by decide, by unfold Bd; decide⟩ (by omega) fun v9 d n9 H9 x9 I9 hn9 d9 hp => ?_
      obtain ⟨r, rfl, r0, r1⟩ := post_draw hp
      cases d9
      obtain ⟨o, hat⟩ : ∃ o : Bool, atI [PyData.str "xyx", PyData.str "yxy"] r = some (.str (odW o)) := by
        have hr : r = 0 ∨ r = 1 := by omega
        rcases hr with rfl | rfl
        · exact ⟨true, rfl⟩
        · exact ⟨false, rfl⟩
      have dl := d8.ex x9
      cases dl with
      | lst hL hM hA =>
        obtain ⟨u, hu, du⟩ := atI_dn hA hat
        refine ⟨_, _, r, u, rfl, rfl, .inl hL, hu, r_anil ⟨(by decide : 2 ≤ sizeLine), fun l hl => ?_⟩⟩
        have sl : Same H9 (upd H9 l (.tup [v7, u])) := same_new hl
        refine ⟨l, _, rfl, .inl (.inl upd_same), rfl, _, _, rfl, _, _, rfl, rfl, ?_⟩
        have I10 := ((I9.same sl).set (i := 5) (by decide) (((d7.same e8).ex x9).same sl)).set (i := 6) (by decide) (du.same sl)
        have x10 : ExM (Ma b) H5 (upd H9 l (.tup [v7, u])) := x6.trans (x7.trans ((Same.exM e8).trans (x9.trans (Same.exM sl))))
        have I11 : Im G.K b 3 [some d0, some (.int (i : Int)), none, some (opD b), some (.int w), some (tnD t), some (.str (odW o)), none, none, none, none] n9 [some (.ref a), some (.int (i : Int)), some (.int e), some (.ref b), some (.int w), some v7, some u, o7, o8, o9, o10] (upd H9 l (.tup [v7, u])) := I10
        show sM C _ _ [some (.ref a), some (.int (i : Int)), some (.int e), some (.ref b), some (.int w), some v7, some u, o7, o8, o9, o10] (upd H9 l (.tup [v7, u]))
        -- the dots
        refine r_cons (r_setLcT (ds := [.int 2, .int 30, .int 10000000000000000000000000000000000000000]) 7 9 (pv_tup (pad_cons (pv_int) (pad_cons (pv_int) (pad_cons (PV.is (pv_pow (cpow10 (by decide) (by decide)) pv_int pv_int) (congrArg PyData.int (by decide +kernel))) pad_nil)))) I11.trk I11.ev rfl rfl (blkOk_by (by decide +kernel)) rfl rfl (fun env he => sw_true (by rw [he]; rfl) (by rw [he]; rfl) rfl (by decide +kernel)) fun H11 l2 s11 hl2 => ?_)
        have hbl : b ≠ l2 := fun z => by
          obtain ⟨_, _, _, h1, _⟩ := (I11.same s11).src
          rw [z, hl2] at h1
          cases h1
        refine ⟨fun j2 H12 => ∃ (n12 : Nat) (zs : List Px) (acc : List V), ExM (Ma b) H11 H12 ∧ SrcAt H12 b n12 ∧ n12 ≤ n9 + 2 * j2 ∧ H12 l2 = some (.lst acc) ∧ DnAll G.K (addM (Ma b) l2) H12 acc (zs.map pxD) ∧ zs.length = j2 ∧ ∀ z ∈ zs, PxB 200 z,
          ⟨n9, [], [], ex_new hl2 (ExM.refl _), src_upd (I11.same s11).src hbl, Nat.le_refl _, upd_same, .nil, rfl, fun z hz => by cases hz⟩, fun j2 H12 h => by obtain ⟨_, _, _, x, _⟩ := h; exact x.add, ?_, ?_⟩
        · rintro j2 d v H12 hdj2 ⟨n12, zs, acc, x12, S12, hn12, hl12, hdz, hlen, hz⟩ dv2
          obtain ⟨hj2, f, rfl, f1, f2⟩ : j2 < 3 ∧ ∃ f : Int, d = .int f ∧ 0 ≤ f ∧ f ≤ 10000000000000000000000000000000000000000 := by
            match j2, hdj2 with
            | 0, h => cases h; exact ⟨by decide, 2, rfl, by decide, by decide⟩
            | 1, h => cases h; exact ⟨by decide, 30, rfl, by decide, by decide⟩
            | 2, h => cases h; exact ⟨by decide, 10000000000000000000000000000000000000000, rfl, by decide, by decide⟩
            | j + 3, h => simp at h
          cases dv2
          have I12 : Im G.K b 3 [none, none, none, some (opD b), none, none, none, none, none, some (.int f), none] n12 [some (.ref a), some (.int (i : Int)), some (.int e), some (.ref b), some (.int w), some v7, some u, o7, o8, some (.int f), o10] H12 :=
            ⟨S12, rfl, env_none (env_none (env_none (env_some dn_opD (env_none (env_none (env_none (env_none (env_none (env_some (.int _) (env_none env_nil))))))))))⟩
          refine r_draw Dt I12 (pad_cons ((pv_var 9 rfl rfl)) pad_nil) ⟨f, rfl, f1, bd_of (y := 10000000000000000000000000000000000000001) f1 (by omega) (by decide +kernel)⟩ (by omega) fun v13 d n13 H13 x13 I13 hn13 d13 hp => ?_
          obtain ⟨f', z, hw, rfl, z1, z2, z3, z4⟩ := hp
          obtain rfl : f = f' := by injection hw with a b; injection a
          have hl13 : H13 l2 = some (.lst acc) := x13 _ _ (Ne.symm hbl) hl12
          refine ⟨acc, hl13, ?_, n13, zs ++ [z], acc ++ [v13], ex_new hl2 (x12.trans x13), src_upd I13.src hbl, by omega, upd_same, ?_, by rw [List.length_append, hlen]; rfl, fun y hy => ?_⟩
          · rw [hdz.length, List.length_map, sizeLine_eq]
            omega
          · rw [List.map_append]
            exact (dnAll_snoc (hdz.ex x13.add) (dn_px_add d13 hl13)).ex ex_upd
          · rcases List.mem_append.mp hy with g | g
            · exact hz y g
            · rw [List.mem_singleton.mp g]
              exact px200 f2 z1 z2 z3 z4
        · rintro H14 ⟨n14, zs, acc, x14, S14, hn14, hl14, hdz, hlen, hz⟩
          have hn14' : n14 ≤ n9 + 6 := hn14
          have I14 : Im G.K b 3 [some d0, some (.int (i : Int)), none, some (opD b), some (.int w), some (tnD t), some (.str (odW o)), some (.list (zs.map pxD)), none, none, none] n14 [some (.ref a), some (.int (i : Int)), some (.int e), some (.ref b), some (.int w), some v7, some u, some (.ref l2), o8, o9, o10] H14 :=
            ⟨S14, rfl, ((I11.same s11).ev.ex x14).set 7 (.lst (.inl hl14) (Ne.symm hbl) (hdz.lessM (M := Ma b) (M' := addM (Ma b) l2) fun _ z => .inl z))⟩
          show sM C _ _ [some (.ref a), some (.int (i : Int)), some (.int e), some (.ref b), some (.int w), some v7, some u, some (.ref l2), o8, o9, o10] H14
          refine r_cons (r_if (v := false) (PWD.ptd (pwd_or_f (ptd_not (ptd_val (pv_call Dl ⟨t, o, rfl, ht, rfl⟩ (pad_cons ((pv_var 5 rfl rfl)) (pad_cons ((pv_var 6 rfl rfl)) pad_nil))))) (pwd_or1 (ptd_not (ptd_val (pv_call Dr ⟨t, o, zs, rfl, ht, hz, rfl⟩ (pad_cons ((pv_var 5 rfl rfl)) (pad_cons ((pv_var 6 rfl rfl)) (pad_cons ((pv_var 7 rfl rfl)) pad_nil))))))))) I14.trk I14.ev fun H15 e15 => ?_)
          rw [if_neg Bool.false_ne_true]
          refine r_nil ?_
          have I15 := I14.same e15
          have hat2 : ∀ bv : Bool, atI [PyData.int 1, PyData.int 4] (if bv = true then 1 else 0) = some (.int (if bv = true then 4 else 1)) := fun bv => by cases bv <;> rfl
          have hbd : ∀ bv : Bool, (0 : Int) ≤ (if bv = true then 4 else 1) ∧ (if bv = true then 4 else 1) ≤ (30 : Int) := fun bv => by cases bv <;> decide
          refine r_cons (r_if (v := false) (ptd_not (ptd_val (pv_call Dp ⟨t, _, rfl, ht, (hbd _).1, (hbd _).2, rfl⟩ (pad_cons ((pv_var 5 rfl rfl)) (pad_cons (pv_ixL (ds := [.int 1, .int 4]) (pv_lst (pad_cons (pv_int) (pad_cons (pv_int) pad_nil))) (pv_intB (pv_and2 (v := PyData.eqv (.int (i : Int)) (.int 0)) (pv_eq rfl rfl (pv_var 1 rfl rfl) pv_int) (w := !decide (ns = [])) (fun _ => pv_one (pv_sne hsc (pv_var 0 rfl rfl) (pv_lst pad_nil)))) Z.int) (hat2 _)) pad_nil))))) I15.trk I15.ev fun H16 e16 => ?_)
          rw [if_neg Bool.false_ne_true]
          refine r_nil ?_
          have I16 := I15.same e16
          refine r_cons (r_asg 8 (r_draw Dds I16 (pad_cons (pv_int) (pad_cons (pv_int) pad_nil)) rfl (by omega) fun v17 d n17 H17 x17 I17 hn17 d17 hp => ?_))
          obtain ⟨qs, rfl, ha, hl400, hq⟩ := hp
          have I18 := I17.set (i := 8) (by decide) d17
          have e1 : (qs.map pxD).length = qs.length := List.length_map ..
          refine r_cons (r_if (v := false) (PTD.is (ptd_ne (d1 := .list ((sortP (qs.map (shM t o))).map pxD)) (d2 := .list ((sortP (qs.map (shM t o))).map pxD)) (list_shaped _) (list_shaped _) (pv_call Dpic ⟨t, o, qs, rfl, ht, hl400, ha, fun z hz2 => (hq z hz2).mono (by decide), rfl⟩ (pad_cons ((pv_var 5 rfl rfl)) (pad_cons ((pv_var 6 rfl rfl)) (pad_cons ((pv_var 8 rfl rfl)) pad_nil)))) (pv_sortedP (PV.is (pv_lc1 (m := (qs.map pxD).length) 10 (keep := fun _ => true) (items := nth (qs.map pxD)) (out := fun i => ((qs.map (shM t o)).map pxD).getD i .none) pi_listC (blkOk_by (by decide +kernel)) rfl rfl (by rw [e1]; omega) (wlk_list (pv_var 8 rfl rfl)) (fun i hi M' => ptsd_nil) fun i hi _ M' => ?_) (congrArg _ (made_map pxD (qs.map (shM t o)) (by rw [e1, List.length_map]) .none))) Z.sorted)) (bools_ne (SeqAt.eqv_refl _ (SeqAt.canLay_of_shaped (list_shaped _))))) I18.trk I18.ev fun H19 e19 => ?_)
          · obtain ⟨z, h1, h2, h3⟩ := nth_px hi
            rw [h3, getD_map (x := shM t o z) pxD (by rw [List.getElem?_map, h1]; rfl)]
            exact pv_call Dsh ⟨t, o, z, rfl, ht, (hq z h2).mono (by decide), rfl⟩ (pad_cons ((pv_var 5 rfl rfl)) (pad_cons ((pv_var 6 rfl rfl)) (pad_cons ((pv_var 10 rfl rfl)) pad_nil)))
          · rw [if_neg Bool.false_ne_true]
            refine r_nil (r_nil ⟨n17, _, _, _, _, _, _, _, rfl, ?_, (I18.same e19).src, by omega⟩)
            exact x10.trans ((Same.exM s11).trans (x14.trans ((Same.exM e15).trans ((Same.exM e16).trans (x17.trans (Same.exM e19))))))
    · rintro σ6 H6 ⟨n6, o4, o5, o6, o7, o8, o9, o10, rfl, x6, S6, hn6⟩
      refine r_nil ⟨fun c o hc1 => ?_, _, _, _, _, _, _, _, _, _, _, rfl⟩
      have h3 := s3 _ _ (s2 _ _ hc1)
      exact x6 c o (ne_of_none h3 hb) (e5 _ _ (s4 _ _ h3))
  · rintro σ2 H2 ⟨s2, o1, o2, o3, o4, o5, o6, o7, o8, o9, o10, rfl⟩
    have ht1 : TnOk (2, 1, 3) := ⟨by decide, by decide, by decide, by decide, by decide, by decide⟩
    have ht2 := unitT_ok 0
    obtain ⟨cw, cl⟩ := line_cw ht2
    refine r_cons (r_ret (r_pv trk0 (env_blank (M := M0)) (pv_and_t (PV.is (pv_eq (d1 := mtD (lineM (2, 1, 3))) (d2 := mtD (lineM (2, 1, 3))) (mt_shaped _) (mt_shaped _) (pv_call Dm ⟨chainM (2, 1, 3) false, rfl, chain_ChOk ht1 false, by rw [mat_chain ht1 false]⟩ (pad_cons (pv_call Dch ⟨(2, 1, 3), false, rfl, ht1, rfl⟩ (pad_cons (pv_tup (pad_cons (pv_int) (pad_cons (pv_int) (pad_cons (pv_int) pad_nil)))) (pad_cons (pv_str) pad_nil))) pad_nil)) (PV.is (pv_tup (pad_cons (pv_int) (pad_cons (pv_neg pv_int) (pad_cons (pv_int) (pad_cons (pv_int) (pad_cons (pv_int) pad_nil)))))) rfl)) (congrArg _ (mt_eqv _))) (pv_one (PV.is (pv_eq (d1 := .int 0) (d2 := .int 0) rfl rfl (pv_call Df ⟨Mt.one, rfl, cw, lineM_ok ht2, congrArg PyData.int (congrArg Int.ofNat (cl.trans rfl)).symm⟩ (pad_cons (pv_tup (pad_cons (pv_int) (pad_cons (pv_int) (pad_cons (pv_int) (pad_cons (pv_int) (pad_cons (pv_int) pad_nil)))))) pad_nil)) pv_int) (congrArg _ (eqI_true rfl))))) fun v H3 e3 d3 => ?_))
    cases d3
    exact q H3
end
end TP

/-! K22: all defs in a row (printed by mk22b.py) -/
namespace TP
open PySem PySem.Spec PyProof.Rows L2
structure FK (K : PySem.W.Frag) (mg : Str → Option Value) (x : Str) (st : Stmt) : Prop where
  ex : ∃ f fd, Fun K x x st f fd ∧ mg x = some (.ref f)
theorem fk_mk {K : PySem.W.Frag} {h : Heap} {mg : Str → Option Value} {x : Str} {st : Stmt} {f : Addr} {oc : Value} {od an : Option Addr} {sl : Array (Option Value)} {kV doc pm cdv ct : Value} (X : K.In h) (N : h.Ns mainGlobals mg) (a : PySem.W.nsIn K mainGlobals x = some (some (.ref f)))
    (l : K.lookup f = some ⟨oc, od, .func (PySem.W.fnOf x x (defArgs st) (defBody st) (defScope st) .none kV doc pm an cdv ct), sl⟩) (c : PySem.W.codeIn K cdv x = true) (k : PySem.W.keepIn K (.ref f) = true) : FK K mg x st :=
  ⟨f, _, fun_mk l c k, PySem.W.mg_of X N a⟩
theorem free_mk {P : Program} {w : World} {K : PySem.W.Frag} {h base : Heap} {mg : Str → Option Value} (X : K.In h) (N : h.Ns mainGlobals mg)
    (z_isi : PySem.W.nsIn K mainGlobals "isinstance" = some none)
    (z_int : PySem.W.nsIn K mainGlobals "int" = some none)
    (z_bool : PySem.W.nsIn K mainGlobals "bool" = some none)
    (z_tuple : PySem.W.nsIn K mainGlobals "tuple" = some none)
    (z_list : PySem.W.nsIn K mainGlobals "list" = some none)
    (z_str : PySem.W.nsIn K mainGlobals "str" = some none)
    (z_len : PySem.W.nsIn K mainGlobals "len" = some none)
    (z_all : PySem.W.nsIn K mainGlobals "all" = some none)
    (z_abs : PySem.W.nsIn K mainGlobals "abs" = some none)
    (z_range : PySem.W.nsIn K mainGlobals "range" = some none)
    (z_enum : PySem.W.nsIn K mainGlobals "enumerate" = some none)
    (z_sorted : PySem.W.nsIn K mainGlobals "sorted" = some none)
    (z_set : PySem.W.nsIn K mainGlobals "set" = some none)
    (z_max : PySem.W.nsIn K mainGlobals "max" = some none)
    (z_min : PySem.W.nsIn K mainGlobals "min" = some none)
    (z_mostP : ∃ t, PySem.W.nsIn K mainGlobals "MOST_P" = some (some (.int 1000000000000000 t)))
    (z_mostX : ∃ t, PySem.W.nsIn K mainGlobals "MOST_PIXELS" = some (some (.int 400 t)))
    (z_mostS : ∃ t, PySem.W.nsIn K mainGlobals "MOST_STEPS" = some (some (.int 8 t)))
    (z_mostR : ∃ t, PySem.W.nsIn K mainGlobals "MOST_REACH" = some (some (.int 30 t)))
    : Free ⟨P, w, K, mg, base⟩ where
  isi := PySem.W.mg_none_of X N z_isi
  int := PySem.W.mg_none_of X N z_int
  bool := PySem.W.mg_none_of X N z_bool
  tuple := PySem.W.mg_none_of X N z_tuple
  list := PySem.W.mg_none_of X N z_list
  str := PySem.W.mg_none_of X N z_str
  len := PySem.W.mg_none_of X N z_len
  all := PySem.W.mg_none_of X N z_all
  abs := PySem.W.mg_none_of X N z_abs
  range := PySem.W.mg_none_of X N z_range
  enum := PySem.W.mg_none_of X N z_enum
  sorted := PySem.W.mg_none_of X N z_sorted
  set := PySem.W.mg_none_of X N z_set
  max := PySem.W.mg_none_of X N z_max
  min := PySem.W.mg_none_of X N z_min
  mostP := let ⟨t, z⟩ := z_mostP; ⟨t, PySem.W.mg_of X N z⟩
  mostX := let ⟨t, z⟩ := z_mostX; ⟨t, PySem.W.mg_of X N z⟩
  mostS := let ⟨t, z⟩ := z_mostS; ⟨t, PySem.W.mg_of X N z⟩
  mostR := let ⟨t, z⟩ := z_mostR; ⟨t, PySem.W.mg_of X N z⟩
theorem law_all {P : Program} {w : World} {K : PySem.W.Frag} {mg : Str → Option Value} {base : Heap} {f : Addr} {fd : FuncData} (Z : Free ⟨P, w, K, mg, base⟩)
    (r_is_integer : FK K mg "is_integer" s_is_integer)
    (r_are_integers : FK K mg "are_integers" s_are_integers)
    (r_common : FK K mg "common" s_common)
    (r_is_pixel : FK K mg "is_pixel" s_is_pixel)
    (r_is_turn : FK K mg "is_turn" s_is_turn)
    (r_need_turn : FK K mg "need_turn" s_need_turn)
    (r_need_pixel : FK K mg "need_pixel" s_need_pixel)
    (r_need_number : FK K mg "need_number" s_need_number)
    (r_need_turn_and_pixel : FK K mg "need_turn_and_pixel" s_need_turn_and_pixel)
    (r_need_pixels : FK K mg "need_pixels" s_need_pixels)
    (r_size_of : FK K mg "size_of" s_size_of)
    (r_plain_legs : FK K mg "plain_legs" s_plain_legs)
    (r_quartered : FK K mg "quartered" s_quartered)
    (r_nearest : FK K mg "nearest" s_nearest)
    (r_plain_place : FK K mg "plain_place" s_plain_place)
    (r_plain_image : FK K mg "plain_image" s_plain_image)
    (r_image_in : FK K mg "image_in" s_image_in)
    (r_image : FK K mg "image" s_image)
    (r_back_of : FK K mg "back_of" s_back_of)
    (r_back : FK K mg "back" s_back)
    (r_whole_legs : FK K mg "whole_legs" s_whole_legs)
    (r_legs_of : FK K mg "legs_of" s_legs_of)
    (r_is_step : FK K mg "is_step" s_is_step)
    (r_need_chain : FK K mg "need_chain" s_need_chain)
    (r_is_chain : FK K mg "is_chain" s_is_chain)
    (r_stepped : FK K mg "stepped" s_stepped)
    (r_stepped_back : FK K mg "stepped_back" s_stepped_back)
    (r_after_steps : FK K mg "after_steps" s_after_steps)
    (r_before_steps : FK K mg "before_steps" s_before_steps)
    (r_after_chain : FK K mg "after_chain" s_after_chain)
    (r_before_chain : FK K mg "before_chain" s_before_chain)
    (r_lowest_matrix : FK K mg "lowest_matrix" s_lowest_matrix)
    (r_is_matrix : FK K mg "is_matrix" s_is_matrix)
    (r_need_matrix : FK K mg "need_matrix" s_need_matrix)
    (r_matrix_of_steps : FK K mg "matrix_of_steps" s_matrix_of_steps)
    (r_matrix_of : FK K mg "matrix_of" s_matrix_of)
    (r_shows_chain : FK K mg "shows_chain" s_shows_chain)
    (r_lowest_step : FK K mg "lowest_step" s_lowest_step)
    (r_chain_with : FK K mg "chain_with" s_chain_with)
    (r_chain_for : FK K mg "chain_for" s_chain_for)
    (r_fewest_shears : FK K mg "fewest_shears" s_fewest_shears)
    (r_first_parting : FK K mg "first_parting" s_first_parting)
    (r_need_order : FK K mg "need_order" s_need_order)
    (r_need_sheared : FK K mg "need_sheared" s_need_sheared)
    (r_chain_in : FK K mg "chain_in" s_chain_in)
    (r_shear_chain : FK K mg "shear_chain" s_shear_chain)
    (r_sheared : FK K mg "sheared" s_sheared)
    (r_unsheared : FK K mg "unsheared" s_unsheared)
    (r_sheared_picture : FK K mg "sheared_picture" s_sheared_picture)
    (r_law_common : FK K mg "_law_common" s_law_common)
    (r_law_swung : FK K mg "_law_swung" s_law_swung)
    (r_law_lines_right : FK K mg "_law_lines_right" s_law_lines_right)
    (r_law_dots_right : FK K mg "_law_dots_right" s_law_dots_right)
    (r_law_parted_right : FK K mg "_law_parted_right" s_law_parted_right)
    (r_law_source : FK K mg "_law_source" s_law_source)
    (r_law_draw : FK K mg "_law_draw" s_law_draw)
    (r_law_spin : FK K mg "_law_spin" s_law_spin)
    (r_law_dot : FK K mg "_law_dot" s_law_dot)
    (r_law_dots : FK K mg "_law_dots" s_law_dots)
    (F : Fun K "law" "law" s_law f fd) : FnOk P w K mg base CX0 9 f fd ["_law_script"] (spLaw K) := by
  have d_is_integer := ok_is_integer (G := ⟨P, w, K, mg, base⟩) Z ⟨r_is_integer.ex⟩
  have d_are_integers := ok_are_integers (G := ⟨P, w, K, mg, base⟩) Z ⟨r_are_integers.ex⟩ d_is_integer
  have d_common := ok_common (G := ⟨P, w, K, mg, base⟩) Z ⟨r_common.ex⟩
  have d_is_pixel := ok_is_pixel (G := ⟨P, w, K, mg, base⟩) ⟨r_is_pixel.ex⟩ d_are_integers
  have d_is_turn := ok_is_turn (G := ⟨P, w, K, mg, base⟩) Z ⟨r_is_turn.ex⟩ d_are_integers d_common
  have d_need_turn := ok_need_turn (G := ⟨P, w, K, mg, base⟩) ⟨r_need_turn.ex⟩ d_is_turn
  have d_need_pixel := ok_need_pixel (G := ⟨P, w, K, mg, base⟩) ⟨r_need_pixel.ex⟩ d_is_pixel
  have d_need_number := ok_need_number (G := ⟨P, w, K, mg, base⟩) ⟨r_need_number.ex⟩ d_is_integer
  have d_need_turn_and_pixel := ok_need_turn_and_pixel (G := ⟨P, w, K, mg, base⟩) ⟨r_need_turn_and_pixel.ex⟩ d_need_turn d_need_pixel
  have d_need_pixels := ok_need_pixels (G := ⟨P, w, K, mg, base⟩) Z ⟨r_need_pixels.ex⟩ d_is_pixel
  have d_size_of := ok_size_of (G := ⟨P, w, K, mg, base⟩) ⟨r_size_of.ex⟩
  have d_plain_legs := ok_plain_legs (G := ⟨P, w, K, mg, base⟩) ⟨r_plain_legs.ex⟩
  have d_quartered := ok_quartered (G := ⟨P, w, K, mg, base⟩) Z ⟨r_quartered.ex⟩
  have d_nearest := ok_nearest (G := ⟨P, w, K, mg, base⟩) ⟨r_nearest.ex⟩
  have d_plain_place := ok_plain_place (G := ⟨P, w, K, mg, base⟩) ⟨r_plain_place.ex⟩ d_plain_legs
  have d_plain_image := ok_plain_image (G := ⟨P, w, K, mg, base⟩) Z ⟨r_plain_image.ex⟩ d_size_of d_plain_place d_nearest
  have d_image_in := ok_image_in (G := ⟨P, w, K, mg, base⟩) ⟨r_image_in.ex⟩ d_plain_image d_quartered
  have d_image := ok_image (G := ⟨P, w, K, mg, base⟩) ⟨r_image.ex⟩ d_need_turn_and_pixel d_image_in
  have d_back_of := ok_back_of (G := ⟨P, w, K, mg, base⟩) ⟨r_back_of.ex⟩
  have d_back := ok_back (G := ⟨P, w, K, mg, base⟩) ⟨r_back.ex⟩ d_need_turn d_back_of
  have d_whole_legs := ok_whole_legs (G := ⟨P, w, K, mg, base⟩) ⟨r_whole_legs.ex⟩ d_plain_legs d_quartered
  have d_legs_of := ok_legs_of (G := ⟨P, w, K, mg, base⟩) ⟨r_legs_of.ex⟩ d_need_turn d_whole_legs
  have d_is_step := ok_is_step (G := ⟨P, w, K, mg, base⟩) Z ⟨r_is_step.ex⟩ d_is_integer
  have d_need_chain := ok_need_chain (G := ⟨P, w, K, mg, base⟩) Z ⟨r_need_chain.ex⟩ d_is_step
  have d_is_chain := ok_is_chain (G := ⟨P, w, K, mg, base⟩) Z ⟨r_is_chain.ex⟩ d_is_step
  have d_stepped := ok_stepped (G := ⟨P, w, K, mg, base⟩) ⟨r_stepped.ex⟩ d_nearest
  have d_stepped_back := ok_stepped_back (G := ⟨P, w, K, mg, base⟩) ⟨r_stepped_back.ex⟩ d_nearest
  have d_after_steps := ok_after_steps (G := ⟨P, w, K, mg, base⟩) ⟨r_after_steps.ex⟩ d_stepped
  have d_before_steps := ok_before_steps (G := ⟨P, w, K, mg, base⟩) ⟨r_before_steps.ex⟩ d_stepped_back
  have d_after_chain := ok_after_chain (G := ⟨P, w, K, mg, base⟩) ⟨r_after_chain.ex⟩ d_need_chain d_need_pixel d_after_steps
  have d_before_chain := ok_before_chain (G := ⟨P, w, K, mg, base⟩) ⟨r_before_chain.ex⟩ d_need_chain d_need_pixel d_before_steps
  have d_lowest_matrix := ok_lowest_matrix (G := ⟨P, w, K, mg, base⟩) Z ⟨r_lowest_matrix.ex⟩ d_common
  have d_is_matrix := ok_is_matrix (G := ⟨P, w, K, mg, base⟩) ⟨r_is_matrix.ex⟩ d_are_integers d_lowest_matrix
  have d_need_matrix := ok_need_matrix (G := ⟨P, w, K, mg, base⟩) ⟨r_need_matrix.ex⟩ d_is_matrix
  have d_matrix_of_steps := ok_matrix_of_steps (G := ⟨P, w, K, mg, base⟩) ⟨r_matrix_of_steps.ex⟩ d_lowest_matrix
  have d_matrix_of := ok_matrix_of (G := ⟨P, w, K, mg, base⟩) ⟨r_matrix_of.ex⟩ d_need_chain d_matrix_of_steps
  have d_shows_chain := ok_shows_chain (G := ⟨P, w, K, mg, base⟩) ⟨r_shows_chain.ex⟩ d_need_matrix d_is_chain d_matrix_of_steps
  have d_lowest_step := ok_lowest_step (G := ⟨P, w, K, mg, base⟩) ⟨r_lowest_step.ex⟩ d_common
  have d_chain_with := ok_chain_with (G := ⟨P, w, K, mg, base⟩) ⟨r_chain_with.ex⟩ d_lowest_step
  have d_chain_for := ok_chain_for (G := ⟨P, w, K, mg, base⟩) ⟨r_chain_for.ex⟩ d_need_matrix d_chain_with
  have d_fewest_shears := ok_fewest_shears (G := ⟨P, w, K, mg, base⟩) Z ⟨r_fewest_shears.ex⟩ d_need_matrix d_chain_with
  have d_first_parting := ok_first_parting (G := ⟨P, w, K, mg, base⟩) Z ⟨r_first_parting.ex⟩ d_need_chain d_need_number d_after_steps
  have d_need_order := ok_need_order (G := ⟨P, w, K, mg, base⟩) Z ⟨r_need_order.ex⟩
  have d_need_sheared := ok_need_sheared (G := ⟨P, w, K, mg, base⟩) ⟨r_need_sheared.ex⟩ d_need_turn d_need_order d_need_pixel
  have d_chain_in := ok_chain_in (G := ⟨P, w, K, mg, base⟩) ⟨r_chain_in.ex⟩ d_plain_legs
  have d_shear_chain := ok_shear_chain (G := ⟨P, w, K, mg, base⟩) ⟨r_shear_chain.ex⟩ d_need_turn d_need_order d_chain_in
  have d_sheared := ok_sheared (G := ⟨P, w, K, mg, base⟩) ⟨r_sheared.ex⟩ d_need_sheared d_quartered d_after_steps d_chain_in
  have d_unsheared := ok_unsheared (G := ⟨P, w, K, mg, base⟩) ⟨r_unsheared.ex⟩ d_need_sheared d_quartered d_before_steps d_chain_in
  have d_sheared_picture := ok_sheared_picture (G := ⟨P, w, K, mg, base⟩) Z ⟨r_sheared_picture.ex⟩ d_shear_chain d_need_pixels d_sheared
  have d_law_common := ok_law_common (G := ⟨P, w, K, mg, base⟩) Z ⟨r_law_common.ex⟩
  have d_law_swung := ok_law_swung (G := ⟨P, w, K, mg, base⟩) Z ⟨r_law_swung.ex⟩ d_image
  have d_law_lines_right := ok_law_lines_right (G := ⟨P, w, K, mg, base⟩) Z ⟨r_law_lines_right.ex⟩ d_legs_of d_shear_chain d_is_chain d_matrix_of d_shows_chain d_fewest_shears d_chain_for d_back
  have d_law_dots_right := ok_law_dots_right (G := ⟨P, w, K, mg, base⟩) ⟨r_law_dots_right.ex⟩ d_shear_chain d_sheared d_law_swung d_after_chain d_unsheared d_before_chain
  have d_law_parted_right := ok_law_parted_right (G := ⟨P, w, K, mg, base⟩) Z ⟨r_law_parted_right.ex⟩ d_shear_chain d_first_parting d_sheared
  have d_law_source := ok_law_source (G := ⟨P, w, K, mg, base⟩) Z ⟨r_law_source.ex⟩
  have d_law_draw := ok_law_draw (G := ⟨P, w, K, mg, base⟩) Z ⟨r_law_draw.ex⟩
  have d_law_spin := ok_law_spin (G := ⟨P, w, K, mg, base⟩) Z ⟨r_law_spin.ex⟩ d_law_draw d_law_common
  have d_law_dot := ok_law_dot (G := ⟨P, w, K, mg, base⟩) Z ⟨r_law_dot.ex⟩ d_law_draw
  have d_law_dots := ok_law_dots (G := ⟨P, w, K, mg, base⟩) Z ⟨r_law_dots.ex⟩ d_law_draw d_law_dot
  exact ok_law (G := ⟨P, w, K, mg, base⟩) Z F d_law_source d_law_draw d_law_spin d_law_dot d_law_dots d_law_lines_right d_law_dots_right d_law_parted_right d_sheared_picture d_sheared d_matrix_of d_shear_chain d_fewest_shears
theorem all_mk {l : PySem.W.OpenLaw} {w : World} {K : PySem.W.Frag} {h : Heap} {mg : Str → Option Value} {fa fL : Addr} {oc : Value} {od an : Option Addr} {sl : Array (Option Value)} {kV doc pm cdv ct : Value} (X : K.In h) (N : h.Ns mainGlobals mg) (hfa : mg "law" = some (.ref fa))
    (z_isi : PySem.W.nsIn K mainGlobals "isinstance" = some none)
    (z_int : PySem.W.nsIn K mainGlobals "int" = some none)
    (z_bool : PySem.W.nsIn K mainGlobals "bool" = some none)
    (z_tuple : PySem.W.nsIn K mainGlobals "tuple" = some none)
    (z_list : PySem.W.nsIn K mainGlobals "list" = some none)
    (z_str : PySem.W.nsIn K mainGlobals "str" = some none)
    (z_len : PySem.W.nsIn K mainGlobals "len" = some none)
    (z_all : PySem.W.nsIn K mainGlobals "all" = some none)
    (z_abs : PySem.W.nsIn K mainGlobals "abs" = some none)
    (z_range : PySem.W.nsIn K mainGlobals "range" = some none)
    (z_enum : PySem.W.nsIn K mainGlobals "enumerate" = some none)
    (z_sorted : PySem.W.nsIn K mainGlobals "sorted" = some none)
    (z_set : PySem.W.nsIn K mainGlobals "set" = some none)
    (z_max : PySem.W.nsIn K mainGlobals "max" = some none)
    (z_min : PySem.W.nsIn K mainGlobals "min" = some none)
    (z_mostP : ∃ t, PySem.W.nsIn K mainGlobals "MOST_P" = some (some (.int 1000000000000000 t)))
    (z_mostX : ∃ t, PySem.W.nsIn K mainGlobals "MOST_PIXELS" = some (some (.int 400 t)))
    (z_mostS : ∃ t, PySem.W.nsIn K mainGlobals "MOST_STEPS" = some (some (.int 8 t)))
    (z_mostR : ∃ t, PySem.W.nsIn K mainGlobals "MOST_REACH" = some (some (.int 30 t)))
    (r_is_integer : FK K mg "is_integer" s_is_integer)
    (r_are_integers : FK K mg "are_integers" s_are_integers)
    (r_common : FK K mg "common" s_common)
    (r_is_pixel : FK K mg "is_pixel" s_is_pixel)
    (r_is_turn : FK K mg "is_turn" s_is_turn)
    (r_need_turn : FK K mg "need_turn" s_need_turn)
    (r_need_pixel : FK K mg "need_pixel" s_need_pixel)
    (r_need_number : FK K mg "need_number" s_need_number)
    (r_need_turn_and_pixel : FK K mg "need_turn_and_pixel" s_need_turn_and_pixel)
    (r_need_pixels : FK K mg "need_pixels" s_need_pixels)
    (r_size_of : FK K mg "size_of" s_size_of)
    (r_plain_legs : FK K mg "plain_legs" s_plain_legs)
    (r_quartered : FK K mg "quartered" s_quartered)
    (r_nearest : FK K mg "nearest" s_nearest)
    (r_plain_place : FK K mg "plain_place" s_plain_place)
    (r_plain_image : FK K mg "plain_image" s_plain_image)
    (r_image_in : FK K mg "image_in" s_image_in)
    (r_image : FK K mg "image" s_image)
    (r_back_of : FK K mg "back_of" s_back_of)
    (r_back : FK K mg "back" s_back)
    (r_whole_legs : FK K mg "whole_legs" s_whole_legs)
    (r_legs_of : FK K mg "legs_of" s_legs_of)
    (r_is_step : FK K mg "is_step" s_is_step)
    (r_need_chain : FK K mg "need_chain" s_need_chain)
    (r_is_chain : FK K mg "is_chain" s_is_chain)
    (r_stepped : FK K mg "stepped" s_stepped)
    (r_stepped_back : FK K mg "stepped_back" s_stepped_back)
    (r_after_steps : FK K mg "after_steps" s_after_steps)
    (r_before_steps : FK K mg "before_steps" s_before_steps)
    (r_after_chain : FK K mg "after_chain" s_after_chain)
    (r_before_chain : FK K mg "before_chain" s_before_chain)
    (r_lowest_matrix : FK K mg "lowest_matrix" s_lowest_matrix)
    (r_is_matrix : FK K mg "is_matrix" s_is_matrix)
    (r_need_matrix : FK K mg "need_matrix" s_need_matrix)
    (r_matrix_of_steps : FK K mg "matrix_of_steps" s_matrix_of_steps)
    (r_matrix_of : FK K mg "matrix_of" s_matrix_of)
    (r_shows_chain : FK K mg "shows_chain" s_shows_chain)
    (r_lowest_step : FK K mg "lowest_step" s_lowest_step)
    (r_chain_with : FK K mg "chain_with" s_chain_with)
    (r_chain_for : FK K mg "chain_for" s_chain_for)
    (r_fewest_shears : FK K mg "fewest_shears" s_fewest_shears)
    (r_first_parting : FK K mg "first_parting" s_first_parting)
    (r_need_order : FK K mg "need_order" s_need_order)
    (r_need_sheared : FK K mg "need_sheared" s_need_sheared)
    (r_chain_in : FK K mg "chain_in" s_chain_in)
    (r_shear_chain : FK K mg "shear_chain" s_shear_chain)
    (r_sheared : FK K mg "sheared" s_sheared)
    (r_unsheared : FK K mg "unsheared" s_unsheared)
    (r_sheared_picture : FK K mg "sheared_picture" s_sheared_picture)
    (r_law_common : FK K mg "_law_common" s_law_common)
    (r_law_swung : FK K mg "_law_swung" s_law_swung)
    (r_law_lines_right : FK K mg "_law_lines_right" s_law_lines_right)
    (r_law_dots_right : FK K mg "_law_dots_right" s_law_dots_right)
    (r_law_parted_right : FK K mg "_law_parted_right" s_law_parted_right)
    (r_law_source : FK K mg "_law_source" s_law_source)
    (r_law_draw : FK K mg "_law_draw" s_law_draw)
    (r_law_spin : FK K mg "_law_spin" s_law_spin)
    (r_law_dot : FK K mg "_law_dot" s_law_dot)
    (r_law_dots : FK K mg "_law_dots" s_law_dots)
    (aL : PySem.W.nsIn K mainGlobals "law" = some (some (.ref fL))) (lL : K.lookup fL = some ⟨oc, od, .func (PySem.W.fnOf "law" "law" (defArgs s_law) (defBody s_law) (defScope s_law) .none kV doc pm an cdv ct), sl⟩) (cL : PySem.W.codeIn K cdv "law" = true) (kL : PySem.W.keepIn K (.ref fL) = true) :
    ∃ fd : FuncData, (∀ (s : Shared) (v : Value), BindsTo s fd ⟨[v], []⟩ [("_law_script", v)]) ∧ ∀ base : Heap, K.In base → base.Ns mainGlobals mg → FnOk l.prog w K mg base CX0 9 fa fd ["_law_script"] (spLaw K) := by
  have e := hfa.symm.trans (PySem.W.mg_of X N aL)
  cases e
  exact ⟨PySem.W.fnOf "law" "law" (defArgs s_law) (defBody s_law) (defScope s_law) .none kV doc pm an cdv ct, fun s v => .of_eq rfl, fun base _ _ => law_all (free_mk X N z_isi z_int z_bool z_tuple z_list z_str z_len z_all z_abs z_range z_enum z_sorted z_set z_max z_min z_mostP z_mostX z_mostS z_mostR) r_is_integer r_are_integers r_common r_is_pixel r_is_turn r_need_turn r_need_pixel r_need_number r_need_turn_and_pixel r_need_pixels r_size_of r_plain_legs r_quartered r_nearest r_plain_place r_plain_image r_image_in r_image r_back_of r_back r_whole_legs r_legs_of r_is_step r_need_chain r_is_chain r_stepped r_stepped_back r_after_steps r_before_steps r_after_chain r_before_chain r_lowest_matrix r_is_matrix r_need_matrix r_matrix_of_steps r_matrix_of r_shows_chain r_lowest_step r_chain_with r_chain_for r_fewest_shears r_first_parting r_need_order r_need_sheared r_chain_in r_shear_chain r_sheared r_unsheared r_sheared_picture r_law_common r_law_swung r_law_lines_right r_law_dots_right r_law_parted_right r_law_source r_law_draw r_law_spin r_law_dot r_law_dots (fun_mk lL cL kL)⟩
theorem walk {l : PySem.W.OpenLaw} {q : Program} {loose : List Str} {XP : (Str → Option Value) → Heap → Prop} {YP : World → Heap → Prop} {d : DefRec} {K : Params → PySem.W.Frag} (hn : l.most = some 63) (hdf : d.params.defaults = [])
    (hY : ∀ (w : World) (h : Heap), YP w h → (K w.params).In h)
    (F : ∀ (w : World) (mg : Str → Option Value) (fa : Addr) (h : Heap), (K w.params).In h → h.Ns mainGlobals mg → mg d.name = some (.ref fa) →
      ∃ fd : FuncData, (∀ (s : Shared) (u : Value), BindsTo s fd ⟨[u], []⟩ [("_law_script", u)]) ∧ ∀ base : Heap, (K w.params).In base → base.Ns mainGlobals mg → FnOk l.prog w (K w.params) mg base CX0 9 fa fd ["_law_script"] (spLaw (K w.params))) :
    PySem.W.WalkO q loose XP YP l.row.toRowW d [] (fun f vs => PySem.call f vs) :=
  L2.walk_of (n := 63) (k := 9) (x := "_law_script") (CX := fun _ => CX0) (sp := fun w => spLaw (K w.params)) hn (by decide) hdf ⟨rfl, by decide, by decide⟩ hY F (fun _ _ a ns hl _ hS => ⟨a, ns, rfl, hS, hl, fun _ => rfl⟩) fun _ _ _ _ _ z => z
end TP
open PySem PySem.W PyProof.Rows
set_option maxRecDepth 100000 in
set_option maxHeartbeats 0 in
theorem PySem.Challenge.cw_turnedpixels_k78_whole_shears_as_chains_holds : PySem.Challenge.rw_turnedpixels_k78_whole_shears_as_chains.Holds := by
  w_on; o_law; k_head; (case hw => w_witness2)
  k_fill
  refine TP.walk (l := PySem.Challenge.rw_turnedpixels_k78_whole_shears_as_chains) rfl rfl (fun w h Y => PySem.W.kIn_of Y) ?F
  case F =>
    intro w mg fa h KX G hmg
    refine' TP.all_mk KX G hmg ?z_isi ?z_int ?z_bool ?z_tuple ?z_list ?z_str ?z_len ?z_all ?z_abs ?z_range ?z_enum ?z_sorted ?z_set ?z_max ?z_min ?z_mostP ?z_mostX ?z_mostS ?z_mostR ?r_is_integer ?r_are_integers ?r_common ?r_is_pixel ?r_is_turn ?r_need_turn ?r_need_pixel ?r_need_number ?r_need_turn_and_pixel ?r_need_pixels ?r_size_of ?r_plain_legs ?r_quartered ?r_nearest ?r_plain_place ?r_plain_image ?r_image_in ?r_image ?r_back_of ?r_back ?r_whole_legs ?r_legs_of ?r_is_step ?r_need_chain ?r_is_chain ?r_stepped ?r_stepped_back ?r_after_steps ?r_before_steps ?r_after_chain ?r_before_chain ?r_lowest_matrix ?r_is_matrix ?r_need_matrix ?r_matrix_of_steps ?r_matrix_of ?r_shows_chain ?r_lowest_step ?r_chain_with ?r_chain_for ?r_fewest_shears ?r_first_parting ?r_need_order ?r_need_sheared ?r_chain_in ?r_shear_chain ?r_sheared ?r_unsheared ?r_sheared_picture ?r_law_common ?r_law_swung ?r_law_lines_right ?r_law_dots_right ?r_law_parted_right ?r_law_source ?r_law_draw ?r_law_spin ?r_law_dot ?r_law_dots ?aL ?lL ?cL ?kL
    (case z_isi => k_is)
    (case z_int => k_is)
    (case z_bool => k_is)
    (case z_tuple => k_is)
    (case z_list => k_is)
    (case z_str => k_is)
    (case z_len => k_is)
    (case z_all => k_is)
    (case z_abs => k_is)
    (case z_range => k_is)
    (case z_enum => k_is)
    (case z_sorted => k_is)
    (case z_set => k_is)
    (case z_max => k_is)
    (case z_min => k_is)
    (case z_mostP => exact ⟨_, by k_is⟩)
    (case z_mostX => exact ⟨_, by k_is⟩)
    (case z_mostS => exact ⟨_, by k_is⟩)
    (case z_mostR => exact ⟨_, by k_is⟩)
    (case r_is_integer => refine' TP.fk_mk KX G ?a ?l ?c ?k; (case a => k_is); (case l => k_is); (case c => k_is); (case k => k_is))
    (case r_are_integers => refine' TP.fk_mk KX G ?a ?l ?c ?k; (case a => k_is); (case l => k_is); (case c => k_is); (case k => k_is))
    (case r_common => refine' TP.fk_mk KX G ?a ?l ?c ?k; (case a => k_is); (case l => k_is); (case c => k_is); (case k => k_is))
    (case r_is_pixel => refine' TP.fk_mk KX G ?a ?l ?c ?k; (case a => k_is); (case l => k_is); (case c => k_is); (case k => k_is))
    (case r_is_turn => refine' TP.fk_mk KX G ?a ?l ?c ?k; (case a => k_is); (case l => k_is); (case c => k_is); (case k => k_is))
    (case r_need_turn => refine' TP.fk_mk KX G ?a ?l ?c ?k; (case a => k_is); (case l => k_is); (case c => k_is); (case k => k_is))
    (case r_need_pixel => refine' TP.fk_mk KX G ?a ?l ?c ?k; (case a => k_is); (case l => k_is); (case c => k_is); (case k => k_is))
    (case r_need_number => refine' TP.fk_mk KX G ?a ?l ?c ?k; (case a => k_is); (case l => k_is); (case c => k_is); (case k => k_is))
    (case r_need_turn_and_pixel => refine' TP.fk_mk KX G ?a ?l ?c ?k; (case a => k_is); (case l => k_is); (case c => k_is); (case k => k_is))
    (case r_need_pixels => refine' TP.fk_mk KX G ?a ?l ?c ?k; (case a => k_is); (case l => k_is); (case c => k_is); (case k => k_is))
    (case r_size_of => refine' TP.fk_mk KX G ?a ?l ?c ?k; (case a => k_is); (case l => k_is); (case c => k_is); (case k => k_is))
    (case r_plain_legs => refine' TP.fk_mk KX G ?a ?l ?c ?k; (case a => k_is); (case l => k_is); (case c => k_is); (case k => k_is))
    (case r_quartered => refine' TP.fk_mk KX G ?a ?l ?c ?k; (case a => k_is); (case l => k_is); (case c => k_is); (case k => k_is))
    (case r_nearest => refine' TP.fk_mk KX G ?a ?l ?c ?k; (case a => k_is); (case l => k_is); (case c => k_is); (case k => k_is))
    (case r_plain_place => refine' TP.fk_mk KX G ?a ?l ?c ?k; (case a => k_is); (case l => k_is); (case c => k_is); (case k => k_is))
    (case r_plain_image => refine' TP.fk_mk KX G ?a ?l ?c ?k; (case a => k_is); (case l => k_is); (case c => k_is); (case k => k_is))
    (case r_image_in => refine' TP.fk_mk KX G ?a ?l ?c ?k; (case a => k_is); (case l => k_is); (case c => k_is); (case k => k_is))
    (case r_image => refine' TP.fk_mk KX G ?a ?l ?c ?k; (case a => k_is); (case l => k_is); (case c => k_is); (case k => k_is))
    (case r_back_of => refine' TP.fk_mk KX G ?a ?l ?c ?k; (case a => k_is); (case l => k_is); (case c => k_is); (case k => k_is))
    (case r_back => refine' TP.fk_mk KX G ?a ?l ?c ?k; (case a => k_is); (case l => k_is); (case c => k_is); (case k => k_is))
    (case r_whole_legs => refine' TP.fk_mk KX G ?a ?l ?c ?k; (case a => k_is); (case l => k_is); (case c => k_is); (case k => k_is))
    (case r_legs_of => refine' TP.fk_mk KX G ?a ?l ?c ?k; (case a => k_is); (case l => k_is); (case c => k_is); (case k => k_is))
    (case r_is_step => refine' TP.fk_mk KX G ?a ?l ?c ?k; (case a => k_is); (case l => k_is); (case c => k_is); (case k => k_is))
    (case r_need_chain => refine' TP.fk_mk KX G ?a ?l ?c ?k; (case a => k_is); (case l => k_is); (case c => k_is); (case k => k_is))
    (case r_is_chain => refine' TP.fk_mk KX G ?a ?l ?c ?k; (case a => k_is); (case l => k_is); (case c => k_is); (case k => k_is))
    (case r_stepped => refine' TP.fk_mk KX G ?a ?l ?c ?k; (case a => k_is); (case l => k_is); (case c => k_is); (case k => k_is))
    (case r_stepped_back => refine' TP.fk_mk KX G ?a ?l ?c ?k; (case a => k_is); (case l => k_is); (case c => k_is); (case k => k_is))
    (case r_after_steps => refine' TP.fk_mk KX G ?a ?l ?c ?k; (case a => k_is); (case l => k_is); (case c => k_is); (case k => k_is))
    (case r_before_steps => refine' TP.fk_mk KX G ?a ?l ?c ?k; (case a => k_is); (case l => k_is); (case c => k_is); (case k => k_is))
    (case r_after_chain => refine' TP.fk_mk KX G ?a ?l ?c ?k; (case a => k_is); (case l => k_is); (case c => k_is); (case k => k_is))
    (case r_before_chain => refine' TP.fk_mk KX G ?a ?l ?c ?k; (case a => k_is); (case l => k_is); (case c => k_is); (case k => k_is))
    (case r_lowest_matrix => refine' TP.fk_mk KX G ?a ?l ?c ?k; (case a => k_is); (case l => k_is); (case c => k_is); (case k => k_is))
    (case r_is_matrix => refine' TP.fk_mk KX G ?a ?l ?c ?k; (case a => k_is); (case l => k_is); (case c => k_is); (case k => k_is))
    (case r_need_matrix => refine' TP.fk_mk KX G ?a ?l ?c ?k; (case a => k_is); (case l => k_is); (case c => k_is); (case k => k_is))
    (case r_matrix_of_steps => refine' TP.fk_mk KX G ?a ?l ?c ?k; (case a => k_is); (case l => k_is); (case c => k_is); (case k => k_is))
    (case r_matrix_of => refine' TP.fk_mk KX G ?a ?l ?c ?k; (case a => k_is); (case l => k_is); (case c => k_is); (case k => k_is))
    (case r_shows_chain => refine' TP.fk_mk KX G ?a ?l ?c ?k; (case a => k_is); (case l => k_is); (case c => k_is); (case k => k_is))
    (case r_lowest_step => refine' TP.fk_mk KX G ?a ?l ?c ?k; (case a => k_is); (case l => k_is); (case c => k_is); (case k => k_is))
    (case r_chain_with => refine' TP.fk_mk KX G ?a ?l ?c ?k; (case a => k_is); (case l => k_is); (case c => k_is); (case k => k_is))
    (case r_chain_for => refine' TP.fk_mk KX G ?a ?l ?c ?k; (case a => k_is); (case l => k_is); (case c => k_is); (case k => k_is))
    (case r_fewest_shears => refine' TP.fk_mk KX G ?a ?l ?c ?k; (case a => k_is); (case l => k_is); (case c => k_is); (case k => k_is))
    (case r_first_parting => refine' TP.fk_mk KX G ?a ?l ?c ?k; (case a => k_is); (case l => k_is); (case c => k_is); (case k => k_is))
    (case r_need_order => refine' TP.fk_mk KX G ?a ?l ?c ?k; (case a => k_is); (case l => k_is); (case c => k_is); (case k => k_is))
    (case r_need_sheared => refine' TP.fk_mk KX G ?a ?l ?c ?k; (case a => k_is); (case l => k_is); (case c => k_is); (case k => k_is))
    (case r_chain_in => refine' TP.fk_mk KX G ?a ?l ?c ?k; (case a => k_is); (case l => k_is); (case c => k_is); (case k => k_is))
    (case r_shear_chain => refine' TP.fk_mk KX G ?a ?l ?c ?k; (case a => k_is); (case l => k_is); (case c => k_is); (case k => k_is))
    (case r_sheared => refine' TP.fk_mk KX G ?a ?l ?c ?k; (case a => k_is); (case l => k_is); (case c => k_is); (case k => k_is))
    (case r_unsheared => refine' TP.fk_mk KX G ?a ?l ?c ?k; (case a => k_is); (case l => k_is); (case c => k_is); (case k => k_is))
    (case r_sheared_picture => refine' TP.fk_mk KX G ?a ?l ?c ?k; (case a => k_is); (case l => k_is); (case c => k_is); (case k => k_is))
    (case r_law_common => refine' TP.fk_mk KX G ?a ?l ?c ?k; (case a => k_is); (case l => k_is); (case c => k_is); (case k => k_is))
    (case r_law_swung => refine' TP.fk_mk KX G ?a ?l ?c ?k; (case a => k_is); (case l => k_is); (case c => k_is); (case k => k_is))
    (case r_law_lines_right => refine' TP.fk_mk KX G ?a ?l ?c ?k; (case a => k_is); (case l => k_is); (case c => k_is); (case k => k_is))
    (case r_law_dots_right => refine' TP.fk_mk KX G ?a ?l ?c ?k; (case a => k_is); (case l => k_is); (case c => k_is); (case k => k_is))
    (case r_law_parted_right => refine' TP.fk_mk KX G ?a ?l ?c ?k; (case a => k_is); (case l => k_is); (case c => k_is); (case k => k_is))
    (case r_law_source => refine' TP.fk_mk KX G ?a ?l ?c ?k; (case a => k_is); (case l => k_is); (case c => k_is); (case k => k_is))
    (case r_law_draw => refine' TP.fk_mk KX G ?a ?l ?c ?k; (case a => k_is); (case l => k_is); (case c => k_is); (case k => k_is))
    (case r_law_spin => refine' TP.fk_mk KX G ?a ?l ?c ?k; (case a => k_is); (case l => k_is); (case c => k_is); (case k => k_is))
    (case r_law_dot => refine' TP.fk_mk KX G ?a ?l ?c ?k; (case a => k_is); (case l => k_is); (case c => k_is); (case k => k_is))
    (case r_law_dots => refine' TP.fk_mk KX G ?a ?l ?c ?k; (case a => k_is); (case l => k_is); (case c => k_is); (case k => k_is))
    (case aL => k_is); (case lL => k_is); (case cL => k_is); (case kL => k_is)
