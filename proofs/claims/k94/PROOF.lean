import PyProof.Rows.All
import Wide.All
import OpenK.AllK
import Wide.FinOn
import KE.KStateDown
import Lean
import HandS.ForMost
import HandS.ForExc
import HandS.Defaults
import HandS.Codes
import HandS.IsInst
import HandS.Wide
import HandS.WideBits
import HandS.Style
import HandS.Zip
import HandS.TryOnly
import HandS.Head0
import HandS.Head1
import HandS.Head2
import HandS.HeadEnd
import HandS.HeadHook1
import HandS.HeadHook2
import HandS.HeadHook3
import HandS.HeadHook4
import KE.KExcInit
import PySem.Challenge.RW_walkmade_k94_whole_equations_of_integers
import KE.KBits
import HandS.ExcInit
import HandS.ExcOwn
set_option Elab.async false
set_option linter.all false
set_option maxRecDepth 100000
set_option maxHeartbeats 4000000
/-! what the walks share, whatever the law -/
namespace Wk
open PySem PySem.Spec PyProof.Rows L2
/-- a def's promise under its name, by its body -/
theorem cal_of {P : Program} {w : World} {K : PySem.W.Frag} {mg : Str → Option Value} {base : Heap} {x : Str} {params : Arguments} {body : List Stmt} {scope : Scope} {f : Addr} {fd : FuncData} {N ps : List Str} {k : Nat} {sp : Sp}
    (F : FunD K x x params body scope [] [] f fd) (hm : mg x = some (.ref f)) (b : Binds K fd ps []) (S : FnScope N ps scope) (len : ∀ vs H Q E, sp vs H Q E → vs.length = ps.length)
    (hb : ∀ (cdv : Value) (A : Around) (outer : List Env) (s : Shared) (H : Hp) (vs : List V) (Q : VK) (E : XK), Room k (A.deeper (envOfC x scope s.heap.objs.size f cdv)) → sp vs H Q E →
      ∃ t, PSs (cxOf C8.CX0 P w K mg base N x scope f cdv A outer s H E).nox body t ∧ t { nx := fun _ H' => Q .non H', rt := Q } (start N vs) H) : C8.Cal P w K mg base (k + 1) x sp [] :=
  ⟨f, fd, ps, [], F.ok S len (fun cdv A outer s H vs Q E hr h => (hb cdv A outer s H vs Q E hr h).imp fun _ z => ⟨z.1.nox, z.2⟩), hm, F.kp, b, .nil⟩
/-- another reading that is enough -/
theorem pe_wkT {X : Cx} {e : Expr} {t t' : TE} (h : PE X e t) (hw : ∀ σ H (Q : VK), t' σ H Q → t σ H Q) : PE X e t' := ⟨fun pins s σ H Q I z => h.run pins s σ H Q I (hw σ H Q z)⟩
theorem pe_wk {X : Cx} {e : Expr} {t : TE} {v : V} (h : PE X e t) (hw : ∀ σ H (Q : VK), Q v H → t σ H Q) : PE X e (tC v) := pe_wkT h hw
theorem pt_wkT {X : Cx} {e : Expr} {t t' : TT} (h : PT X e t) (hw : ∀ σ H (Q : Bool → Hp → Prop), t' σ H Q → t σ H Q) : PT X e t' := ⟨fun pins s σ H Q I z => h.run pins s σ H Q I (hw σ H Q z)⟩
theorem shlc {i j : Int} (h : (0 ≤ j ∧ j ≤ 1000000) ∧ i.natAbs < 2 ^ 1000) : CShl i j := by
  obtain ⟨⟨h0, h1⟩, h2⟩ := h
  obtain ⟨n, rfl⟩ := Int.eq_ofNat_of_zero_le h0
  exact shl_ok h2 (by omega)
/-- // by any divisor but 0 -/
theorem op_fdivX {X : Cx} : OpR X (binaryOp .FloorDiv) (rI (fun _ j => j ≠ 0 ∧ j.natAbs.log2 < 9000) fun i j => .int (i.fdiv j)) := opI fun _ _ _ _ _ _ _ hc q => floordiv_int hc.1 q (.inl (PyProof.noPylong_of_log2 hc.2))
theorem ifd {p : Prop} [Decidable p] {A B : Prop} (h1 : p → A) (h2 : ¬ p → B) : if decide p = true then A else B := ite2 (fun e => h1 (of_decide_eq_true e)) fun e => h2 fun z => e (decide_eq_true z)
theorem four_ok {n : Nat} (h : n ≤ 1000) : n ≤ sizeLine := by rw [sizeLine_eq]; omega
theorem q_of {Q : VK} {x y : V} {H : Hp} (q : Q x H) (e : x = y) : Q y H := e ▸ q
theorem if_t {c : Bool} {A B : Prop} (h : c = true) (a : A) : if c = true then A else B := by rw [if_pos h]; exact a
theorem if_f {c : Bool} {A B : Prop} (h : c = false) (b : B) : if c = true then A else B := by rw [h]; exact b
/-- a reading's closure: what is wanted may be widened -/
theorem pe_mono {X : Cx} {a : Expr} {ta : TE} (ha : PE X a ta) : PE X a (fun σ H Q => ∃ R : VK, ta σ H R ∧ ∀ x H1, R x H1 → Q x H1) := by
  refine ⟨fun pins s σ H Q I h => ?_⟩
  obtain ⟨R, h, k⟩ := h
  exact thn (ha.run pins s σ H R I h) fun u s1 ⟨v, H1, I1, r, q⟩ => ⟨v, H1, I1, r, k v H1 q⟩
/-- the kind of a value, as isinstance tells of some classes -/
def tyIs (H : Hp) (x : V) (n : String) : Option Bool := match x with
  | .int _ => if n = "int" then some true else if n = "bool" ∨ n = "str" ∨ n = "tuple" ∨ n = "list" then some false else none
  | .str _ => if n = "str" then some true else if n = "bool" ∨ n = "int" ∨ n = "tuple" ∨ n = "list" then some false else none
  | .bl _ => if n = "bool" ∨ n = "int" then some true else if n = "str" ∨ n = "tuple" ∨ n = "list" then some false else none
  | .non => if n = "bool" ∨ n = "int" ∨ n = "str" ∨ n = "tuple" ∨ n = "list" then some false else none
  | .ref p => (match H p with
    | some (.tup _) => if n = "tuple" then some true else if n = "bool" ∨ n = "int" ∨ n = "str" ∨ n = "list" then some false else none
    | some (.lst _) => if n = "list" then some true else if n = "bool" ∨ n = "int" ∨ n = "str" ∨ n = "tuple" then some false else none
    | _ => none)
  | _ => none
theorem tyIs_ok {K : PySem.W.Frag} {H : Hp} {x : V} {n : String} {b : Bool} (h : tyIs H x n = some b) : ∃ t, TyX K H x t ∧ PySem.W.kitOne K t (.type n) = some b := by
  unfold tyIs at h
  cases x with
  | int i =>
    refine ⟨_, .base (.int i), ?_⟩
    simp only at h
    split at h
    · rename_i e; subst e; cases h; exact kit_ty (by decide +kernel)
    · split at h
      · rename_i e; rcases e with e | e | e | e <;> subst e <;> cases h <;> exact kit_ty (by decide +kernel)
      · cases h
  | str i =>
    refine ⟨_, .base (.str i), ?_⟩
    simp only at h
    split at h
    · rename_i e; subst e; cases h; exact kit_ty (by decide +kernel)
    · split at h
      · rename_i e; rcases e with e | e | e | e <;> subst e <;> cases h <;> exact kit_ty (by decide +kernel)
      · cases h
  | bl i =>
    refine ⟨_, .base (.bl i), ?_⟩
    simp only at h
    split at h
    · rename_i e; rcases e with e | e <;> subst e <;> cases h <;> exact kit_ty (by decide +kernel)
    · split at h
      · rename_i e; rcases e with e | e | e <;> subst e <;> cases h <;> exact kit_ty (by decide +kernel)
      · cases h
  | non =>
    refine ⟨_, .base .non, ?_⟩
    simp only at h
    split at h
    · rename_i e; rcases e with e | e | e | e | e <;> subst e <;> cases h <;> exact kit_ty (by decide +kernel)
    · cases h
  | ref p =>
    simp only at h
    cases hp : H p with
    | none => rw [hp] at h; cases h
    | some o =>
      rw [hp] at h
      cases o with
      | tup xs =>
        refine ⟨_, .base (.tup hp), ?_⟩
        simp only at h
        split at h
        · rename_i e; subst e; cases h; exact kit_ty (by decide +kernel)
        · split at h
          · rename_i e; rcases e with e | e | e | e <;> subst e <;> cases h <;> exact kit_ty (by decide +kernel)
          · cases h
      | lst xs =>
        refine ⟨_, .base (.lst hp), ?_⟩
        simp only at h
        split at h
        · rename_i e; subst e; cases h; exact kit_ty (by decide +kernel)
        · split at h
          · rename_i e; rcases e with e | e | e | e <;> subst e <;> cases h <;> exact kit_ty (by decide +kernel)
          · cases h
      | _ => cases h
  | _ => cases h
theorem tyIs_tup {H : Hp} {p : Addr} {xs : List V} (h : H p = some (.tup xs)) : tyIs H (.ref p) "tuple" = some true := by
  unfold tyIs
  simp only [h]
  rfl
/-- isinstance(x, one of the built-in classes) -/
def tIsS (n : String) (ta : TE) : TE := fun σ H Q => ta σ H fun x H1 => ∃ b, tyIs H1 x n = some b ∧ Q (.bl b) H1
theorem pe_isS {X : Cx} {a : Expr} {ta : TE} {x : Str} {n : String} {p p2 pos : Pos} (hm : X.mg "isinstance" = none) (hn : X.mg x = none) (ha : PE X a ta) (hv : bootBuiltins x = some (.type n)) (hg : Gl X "isinstance" := by rfl) (hg2 : Gl X x := by rfl)
    (h0 : x ≠ "__name__" := by decide) (h1 : (x == ("__debug__" : Str)) = false := by decide)
    (s1 : starEach (a :: [.Name x p2]) X.env = (false, eval a X.env) :: starEach [.Name x p2] X.env := by rfl) (s2 : starEach (.Name x p2 :: []) X.env = (false, eval (.Name x p2) X.env) :: starEach [] X.env := by rfl) (hpl : (backTo pos (starEach [.Name x p2] X.env)).any (·.1) = false := by rfl) :
    PE X (.Call (.Name "isinstance" p) [a, .Name x p2] [] pos) (tIsS n ta) :=
  pe_wkT (pe_callB call_isi hg hm (by decide +kernel) (pa_cons (pe_mono ha) (pa_cons (pe_bltn (v := .ty n) hg2 hn hv rfl h0 h1) pa_nil s2) s1) (by decide) (by decide) s1 hpl) fun σ H Q h => ⟨_, h, fun y H1 ⟨b, e, q⟩ => by
    obtain ⟨t, ty, k⟩ := tyIs_ok (K := X.K) e
    exact ⟨y, .ty n, t, .type n, b, rfl, .ty n, ty, k, q⟩⟩
/-- isinstance(an int, a class of the program) -/
def tIsC (K : PySem.W.Frag) (C : Addr) (ta : TE) : TE := fun σ H Q => ta σ H fun x H1 => ∃ i : Int, x = .int i ∧ PySem.W.kitOne K (.type "int") (.ref C) = some false ∧ Q (.bl false) H1
theorem pe_isC {X : Cx} {a : Expr} {ta : TE} {x : Str} {C : Addr} {p p2 pos : Pos} (hm : X.mg "isinstance" = none) (hn : X.mg x = some (.ref C)) (ha : PE X a ta) (hg : Gl X "isinstance" := by rfl) (hg2 : Gl X x := by rfl)
    (s1 : starEach (a :: [.Name x p2]) X.env = (false, eval a X.env) :: starEach [.Name x p2] X.env := by rfl) (s2 : starEach (.Name x p2 :: []) X.env = (false, eval (.Name x p2) X.env) :: starEach [] X.env := by rfl) (hpl : (backTo pos (starEach [.Name x p2] X.env)).any (·.1) = false := by rfl) (hdb : (x == ("__debug__" : Str)) = false := by decide) :
    PE X (.Call (.Name "isinstance" p) [a, .Name x p2] [] pos) (tIsC X.K C ta) :=
  pe_wkT (pe_callB call_isi hg hm (by decide +kernel) (pa_cons (pe_mono ha) (pa_cons (pe_glob hg2 hn (v := .ref C) rfl hdb) pa_nil s2) s1) (by decide) (by decide) s1 hpl) fun σ H Q h => ⟨_, h, fun y H1 ⟨i, e, k, q⟩ => ⟨.int i, .ref C, .type "int", .ref C, false, by rw [e], .own C, .base (.int i), k, q⟩⟩
theorem ifn {p : Prop} [Decidable p] {A B : Prop} (h1 : ¬ p → A) (h2 : p → B) : if (!decide p) = true then A else B := by
  by_cases h : p
  · rw [decide_eq_true h]
    exact h2 h
  · rw [decide_eq_false h]
    exact h1 h
theorem ifi {a b : Int} {A B : Prop} (h1 : a = b → A) (h2 : a ≠ b → B) : if decide (V.int a = V.int b) = true then A else B := ifd (fun c => h1 (V.int.inj c)) fun c => h2 fun z => c (by rw [z])
theorem ifni {a b : Int} {A B : Prop} (h1 : a ≠ b → A) (h2 : a = b → B) : if (!decide (V.int a = V.int b)) = true then A else B := ifn (fun c => h1 fun z => c (by rw [z])) fun c => h2 (V.int.inj c)
theorem ifnb {a b : Bool} {A B : Prop} (h1 : a ≠ b → A) (h2 : a = b → B) : if (!decide (V.bl a = V.bl b)) = true then A else B := ifn (fun c => h1 fun z => c (by rw [z])) fun c => h2 (V.bl.inj c)
/-- an if whose test is known as a whole -/
theorem if_b {tc : TT} {t u : TS} {D : Ends} {σ : L2.St} {H : Hp} (b : Bool) (ht : ∀ Q : Bool → Hp → Prop, Q b H → tc σ H Q) (h : if b = true then t D σ H else u D σ H) : tIfS tc t u D σ H := ht _ h
theorem if_bs {tc : TT} {t u v : TS} {D : Ends} {σ : L2.St} {H : Hp} (b : Bool) (ht : ∀ Q : Bool → Hp → Prop, Q b H → tc σ H Q) (h : if b = true then t { D with nx := v D } σ H else u { D with nx := v D } σ H) : tSeq (tIfS tc t u) v D σ H := ht _ h
set_option exponentiation.threshold 10000
theorem divw {i j : Int} (h : 0 < j) (h2 : j.natAbs < 2 ^ 8000) : CDivW i j := wide_div h h2 (by decide) (by decide)
theorem divs {i j : Int} (h : 0 < j) (h2 : j < 2 ^ 65) : CDivW i j := divw h (Nat.lt_of_lt_of_le (show j.natAbs < 2 ^ 65 by omega) (Nat.pow_le_pow_right (by decide) (by decide)))
theorem divx {j : Int} (h : j ≠ 0) (h2 : j.natAbs < 2 ^ 65) : j ≠ 0 ∧ j.natAbs.log2 < 9000 :=
  ⟨h, Nat.lt_of_lt_of_le ((Nat.log2_lt (by omega)).mpr h2) (by decide)⟩
theorem shlk {i j : Int} (h0 : 0 ≤ j) (h1 : j ≤ 1000000) (h2 : i.natAbs < 2 ^ 200) : CShl i j := shlc ⟨⟨h0, h1⟩, Nat.lt_of_lt_of_le h2 (Nat.pow_le_pow_right (by decide) (by decide))⟩
/-- an if that is passed by; the heap may grow in its test -/
theorem no_s {tc : TT} {t v : TS} {D : Ends} {σ : L2.St} {H : Hp} (ht : ∀ Q : Bool → Hp → Prop, (∀ H', Same H H' → Q false H') → tc σ H Q) (h : ∀ H', Same H H' → v D σ H') : tSeq (tIfS tc t tNext) v D σ H :=
  ht _ fun H' s => if_f rfl (h H' s)
theorem no_1 {tc : TT} {t : TS} {D : Ends} {σ : L2.St} {H : Hp} (ht : ∀ Q : Bool → Hp → Prop, (∀ H', Same H H' → Q false H') → tc σ H Q) (h : ∀ H', Same H H' → D.nx σ H') : tIfS tc t tNext D σ H :=
  ht _ fun H' s => if_f rfl (h H' s)
theorem same_new {H : Hp} {p : Addr} {o : HO} (h : H p = none) : Same H (upd H p o) := fun b x e => by
  rw [upd_ne (ne_of_none e h)]
  exact e
theorem same_id (H : Hp) : Same H H := fun _ _ e => e
theorem same_on {H H' : Hp} {p : Addr} {o : HO} (s : Same H H') (h : H p = none) : Same H (upd H' p o) := fun b x e => by
  rw [upd_ne (ne_of_none e h)]
  exact s b x e
theorem nb {Q : Bool → Hp → Prop} {b : Bool} {H : Hp} (e : b = true) (q : Q false H) : Q (!b) H := by rw [e]; exact q
theorem yb {Q : Bool → Hp → Prop} {b c : Bool} {H : Hp} (e : b = c) (q : Q c H) : Q b H := by rw [e]; exact q
/-! ### flat data -/
def leafd : PyData → Bool
  | .none | .bool _ | .int _ => true
  | .str x => PyData.strOk x
  | _ => false
def Leaves : List PyData → Prop
  | [] => True
  | d :: r => leafd d = true ∧ Leaves r
theorem leaf_ok {d : PyData} (h : leafd d = true) : d.canLay0 = true ∧ d.depth = 0 := by
  cases d with
  | none => exact ⟨by simp only [PyData.canLay0], by simp only [PyData.depth]⟩
  | bool b => exact ⟨by simp only [PyData.canLay0], by simp only [PyData.depth]⟩
  | int b => exact ⟨by simp only [PyData.canLay0], by simp only [PyData.depth]⟩
  | str x => exact ⟨by simp only [PyData.canLay0]; exact h, by simp only [PyData.depth]⟩
  | _ => cases h
theorem leaves_ok : ∀ {ds : List PyData}, Leaves ds → PyData.canLayAll0 ds = true ∧ PyData.depthAll ds = 0
  | [], _ => ⟨by simp only [PyData.canLayAll0], by simp only [PyData.depthAll]⟩
  | d :: r, h => by
    obtain ⟨a, b⟩ := leaf_ok h.1
    obtain ⟨c, e⟩ := leaves_ok h.2
    exact ⟨by simp only [PyData.canLayAll0, a, c]; rfl, by simp only [PyData.depthAll, b, e]; rfl⟩
theorem shaped_leaf {d : PyData} (h : leafd d = true) : SeqAt.shaped d = true := by
  obtain ⟨a, b⟩ := leaf_ok h
  unfold SeqAt.shaped
  rw [a, b]
  rfl
theorem shaped_tup {ds : List PyData} (h : Leaves ds) : SeqAt.shaped (.tuple ds) = true := by
  obtain ⟨a, b⟩ := leaves_ok h
  have e : (PyData.tuple ds).canLay0 = true := by simp only [PyData.canLay0]; exact a
  have e2 : (PyData.tuple ds).depth = 1 := by simp only [PyData.depth, b]
  unfold SeqAt.shaped
  rw [e, e2]
  rfl
theorem shaped_lst {ds : List PyData} (h : Leaves ds) : SeqAt.shaped (.list ds) = true := by
  obtain ⟨a, b⟩ := leaves_ok h
  have e : (PyData.list ds).canLay0 = true := by simp only [PyData.canLay0]; exact a
  have e2 : (PyData.list ds).depth = 1 := by simp only [PyData.depth, b]
  unfold SeqAt.shaped
  rw [e, e2]
  rfl
theorem leaves_ints : ∀ ns : List Int, Leaves (ns.map PyData.int)
  | [] => trivial
  | _ :: r => ⟨rfl, leaves_ints r⟩
theorem wipe_set {σ : L2.St} {j : Nat} {x : Option V} : wipe ((wipe σ [j]).set j x) [j] = wipe σ [j] := by
  show ((σ.set j none).set j x).set j none = σ.set j none
  rw [List.set_set, List.set_set]
/-- [e for x in xs], e told by the place alone, where the heap but grows -/
theorem lcs_list {K : PySem.W.Frag} {a : Addr} {xs : List V} {j : Nat} {te : TE} {σ : L2.St} {H : Hp} {Q : Addr → Hp → Prop} (f : Nat → V) (src : SqL K H a xs) (hl : xs.length < sizeLine)
    (hs : ∀ i x H', i < xs.length → xs[i]? = some x → Same H H' → ∀ Q' : VK, (∀ H4, Same H' H4 → Q' (f i) H4) → te ((wipe σ [j]).set j (some x)) H' Q')
    (hd : ∀ D H', Same H H' → H D = none → H' D = some (.lst ((List.range xs.length).map f)) → Q D H') : ∀ D, H D = none → ∃ W : Nat → Nat → Hp → Prop, (∃ m, W 0 m (upd H D (.lst []))) ∧ ∀ i m H, W i m H →
      ((Itl K a).stop i H ∧ Q D H) ∨ ((Itl K a).go i H ∧ ∃ Nx : Hp → Prop, (∀ H', Nx H' → ∃ m', m' < m ∧ W (i + 1) m' H') ∧ ∀ x H', (Itl K a).yld i H x H' → (gName j) x (wipe σ [j]) H' fun σ2 H2 => wipe σ2 [j] = wipe σ [j] ∧ tYes σ2 H2 fun b H3 =>
        if b = true then te σ2 H3 fun y H4 => ∃ acc, H4 D = some (.lst acc) ∧ acc.length < sizeLine ∧ Nx (upd H4 D (.lst (acc ++ [y]))) else Nx H3) := fun D nD => by
  refine lc_list (xs := xs) (fun i H' => Same H H' ∧ H' D = some (.lst ((List.range i).map f))) ⟨same_new nD, upd_same⟩ (fun i H' _ p => p.1.seq src) (fun i x H' hi p => ?_) fun H' p => hd D H' p.1 nD p.2
  have hlt : i < xs.length := (List.getElem?_eq_some_iff.mp hi).1
  refine ⟨wipe_set, ?_⟩
  unfold tYes
  dsimp only
  rw [if_pos rfl]
  refine hs i x H' hlt hi p.1 _ fun H4 s4 => ⟨_, s4 _ _ p.2, ?_, same_on (p.1.trans s4) nD, ?_⟩
  · rw [List.length_map, List.length_range]
    omega
  · rw [upd_same, List.range_succ, List.map_append]
    rfl
theorem lcs_tup {K : PySem.W.Frag} {a : Addr} {xs : List V} {j : Nat} {te : TE} {σ : L2.St} {H : Hp} {Q : Addr → Hp → Prop} (f : Nat → V) (src : H a = some (.tup xs)) (hl : xs.length < sizeLine)
    (hs : ∀ i x H', i < xs.length → xs[i]? = some x → Same H H' → ∀ Q' : VK, (∀ H4, Same H' H4 → Q' (f i) H4) → te ((wipe σ [j]).set j (some x)) H' Q')
    (hd : ∀ D H', Same H H' → H D = none → H' D = some (.lst ((List.range xs.length).map f)) → Q D H') : ∀ D, H D = none → ∃ W : Nat → Nat → Hp → Prop, (∃ m, W 0 m (upd H D (.lst []))) ∧ ∀ i m H, W i m H →
      ((Itt K a).stop i H ∧ Q D H) ∨ ((Itt K a).go i H ∧ ∃ Nx : Hp → Prop, (∀ H', Nx H' → ∃ m', m' < m ∧ W (i + 1) m' H') ∧ ∀ x H', (Itt K a).yld i H x H' → (gName j) x (wipe σ [j]) H' fun σ2 H2 => wipe σ2 [j] = wipe σ [j] ∧ tYes σ2 H2 fun b H3 =>
        if b = true then te σ2 H3 fun y H4 => ∃ acc, H4 D = some (.lst acc) ∧ acc.length < sizeLine ∧ Nx (upd H4 D (.lst (acc ++ [y]))) else Nx H3) := fun D nD => by
  refine lc_tup (xs := xs) (fun i H' => Same H H' ∧ H' D = some (.lst ((List.range i).map f))) ⟨same_new nD, upd_same⟩ (fun i H' _ p => SqT.of (p.1 _ _ src)) (fun i x H' hi p => ?_) fun H' p => hd D H' p.1 nD p.2
  have hlt : i < xs.length := (List.getElem?_eq_some_iff.mp hi).1
  refine ⟨wipe_set, ?_⟩
  unfold tYes
  dsimp only
  rw [if_pos rfl]
  refine hs i x H' hlt hi p.1 _ fun H4 s4 => ⟨_, s4 _ _ p.2, ?_, same_on (p.1.trans s4) nD, ?_⟩
  · rw [List.length_map, List.length_range]
    omega
  · rw [upd_same, List.range_succ, List.map_append]
    rfl
theorem lcs_range {n : Nat} {j : Nat} {te : TE} {σ : L2.St} {H : Hp} {Q : Addr → Hp → Prop} (f : Nat → V) (hl : n < sizeLine)
    (hs : ∀ (i : Nat) H', i < n → Same H H' → ∀ Q' : VK, (∀ H4, Same H' H4 → Q' (f i) H4) → te ((wipe σ [j]).set j (some (.int (0 + (i : Int))))) H' Q')
    (hd : ∀ D H', Same H H' → H D = none → H' D = some (.lst ((List.range n).map f)) → Q D H') : ∀ D, H D = none → ∃ W : Nat → Nat → Hp → Prop, (∃ m, W 0 m (upd H D (.lst []))) ∧ ∀ i m H, W i m H →
      ((Itr 0 n).stop i H ∧ Q D H) ∨ ((Itr 0 n).go i H ∧ ∃ Nx : Hp → Prop, (∀ H', Nx H' → ∃ m', m' < m ∧ W (i + 1) m' H') ∧ ∀ x H', (Itr 0 n).yld i H x H' → (gName j) x (wipe σ [j]) H' fun σ2 H2 => wipe σ2 [j] = wipe σ [j] ∧ tYes σ2 H2 fun b H3 =>
        if b = true then te σ2 H3 fun y H4 => ∃ acc, H4 D = some (.lst acc) ∧ acc.length < sizeLine ∧ Nx (upd H4 D (.lst (acc ++ [y]))) else Nx H3) := fun D nD => by
  refine lc_range (fun i H' => Same H H' ∧ H' D = some (.lst ((List.range i).map f))) ⟨same_new nD, upd_same⟩ (fun i H' hi p => ?_) fun H' p => hd D H' p.1 nD p.2
  refine ⟨wipe_set, ?_⟩
  unfold tYes
  dsimp only
  rw [if_pos rfl]
  refine hs i H' hi p.1 _ fun H4 s4 => ⟨_, s4 _ _ p.2, ?_, same_on (p.1.trans s4) nD, ?_⟩
  · rw [List.length_map, List.length_range]
    omega
  · rw [upd_same, List.range_succ, List.map_append]
    rfl
/-- 1 << j -/
theorem op_shl1 {X : Cx} : OpR X (binaryOp .LShift) (fun x y H Q => ∃ j : Int, y = .int j ∧ x = .int 1 ∧ (0 ≤ j ∧ j ≤ 1000000) ∧ Q (.int (2 ^ j.toNat)) H) := by
  intro pins s σ H x y v u Q I rx ry h
  obtain ⟨j, rfl, rfl, ⟨h0, h1⟩, q⟩ := h
  refine op_shlW pins s σ H _ _ v u Q I rx ry ⟨_, _, rfl, rfl, shlk h0 h1 (by decide), q_of q (congrArg V.int (Int.one_mul _).symm)⟩
end Wk

set_option Elab.async false
set_option linter.all false
set_option maxRecDepth 100000
set_option maxHeartbeats 0
namespace K94
open PySem PySem.Spec PyProof.Rows L2
def top (i : Nat) : Stmt := PySem.Challenge.pw_walkmade_k94_whole_equations_of_integers.main.body.getD i (.Pass ⟨0, 0, 0, 0⟩)
def inCls (st : Stmt) (j : Nat) : Stmt := match st with
  | .ClassDef _ _ _ b _ _ _ _ _ _ _ => b.getD j (.Pass ⟨0, 0, 0, 0⟩)
  | _ => .Pass ⟨0, 0, 0, 0⟩
abbrev FnP (K : PySem.W.Frag) (x : Str) (st : Stmt) (f : Addr) (fd : FuncData) : Prop := FunD K x x (defArgs st) (defBody st) (defScope st) [] [] f fd
abbrev s_is_plain : Stmt := top 13
def d_is_plain : He.DefD := ⟨("is_plain", none), "is_plain", "is_plain", defArgs s_is_plain, defBody s_is_plain, defScope s_is_plain, [], []⟩
abbrev s_reduced : Stmt := top 14
def d_reduced : He.DefD := ⟨("reduced", none), "reduced", "reduced", defArgs s_reduced, defBody s_reduced, defScope s_reduced, [], []⟩
abbrev s_fits : Stmt := top 15
def d_fits : He.DefD := ⟨("fits", none), "fits", "fits", defArgs s_fits, defBody s_fits, defScope s_fits, [], []⟩
abbrev s_sign_of : Stmt := top 16
def d_sign_of : He.DefD := ⟨("sign_of", none), "sign_of", "sign_of", defArgs s_sign_of, defBody s_sign_of, defScope s_sign_of, [], []⟩
abbrev s_nan : Stmt := top 17
def d_nan : He.DefD := ⟨("nan", none), "nan", "nan", defArgs s_nan, defBody s_nan, defScope s_nan, [], []⟩
abbrev s_infinity : Stmt := top 18
def d_infinity : He.DefD := ⟨("infinity", none), "infinity", "infinity", defArgs s_infinity, defBody s_infinity, defScope s_infinity, [], []⟩
abbrev s_nearest : Stmt := top 19
def d_nearest : He.DefD := ⟨("nearest", none), "nearest", "nearest", defArgs s_nearest, defBody s_nearest, defScope s_nearest, [], []⟩
abbrev s_wrapped : Stmt := top 20
def d_wrapped : He.DefD := ⟨("wrapped", none), "wrapped", "wrapped", defArgs s_wrapped, defBody s_wrapped, defScope s_wrapped, [], []⟩
abbrev s_to_float : Stmt := top 21
def d_to_float : He.DefD := ⟨("to_float", none), "to_float", "to_float", defArgs s_to_float, defBody s_to_float, defScope s_to_float, [], []⟩
abbrev s_whole_of : Stmt := top 22
def d_whole_of : He.DefD := ⟨("whole_of", none), "whole_of", "whole_of", defArgs s_whole_of, defBody s_whole_of, defScope s_whole_of, [], []⟩
abbrev s_arith : Stmt := top 23
def d_arith : He.DefD := ⟨("arith", none), "arith", "arith", defArgs s_arith, defBody s_arith, defScope s_arith, [], []⟩
abbrev s_whole_or_thrown : Stmt := top 24
def d_whole_or_thrown : He.DefD := ⟨("whole_or_thrown", none), "whole_or_thrown", "whole_or_thrown", defArgs s_whole_or_thrown, defBody s_whole_or_thrown, defScope s_whole_or_thrown, [], []⟩
abbrev s_by_bits : Stmt := top 25
def d_by_bits : He.DefD := ⟨("by_bits", none), "by_bits", "by_bits", defArgs s_by_bits, defBody s_by_bits, defScope s_by_bits, [], []⟩
abbrev s_by_floats : Stmt := top 26
def d_by_floats : He.DefD := ⟨("by_floats", none), "by_floats", "by_floats", defArgs s_by_floats, defBody s_by_floats, defScope s_by_floats, [], []⟩
abbrev s_added : Stmt := top 27
def d_added : He.DefD := ⟨("added", none), "added", "added", defArgs s_added, defBody s_added, defScope s_added, [], []⟩
abbrev s_multiplied : Stmt := top 28
def d_multiplied : He.DefD := ⟨("multiplied", none), "multiplied", "multiplied", defArgs s_multiplied, defBody s_multiplied, defScope s_multiplied, [], []⟩
abbrev s_divided : Stmt := top 29
def d_divided : He.DefD := ⟨("divided", none), "divided", "divided", defArgs s_divided, defBody s_divided, defScope s_divided, [], []⟩
abbrev s_floored : Stmt := top 30
def d_floored : He.DefD := ⟨("floored", none), "floored", "floored", defArgs s_floored, defBody s_floored, defScope s_floored, [], []⟩
abbrev s_remainder : Stmt := top 31
def d_remainder : He.DefD := ⟨("remainder", none), "remainder", "remainder", defArgs s_remainder, defBody s_remainder, defScope s_remainder, [], []⟩
abbrev s_is_whole_number : Stmt := top 38
def d_is_whole_number : He.DefD := ⟨("is_whole_number", none), "is_whole_number", "is_whole_number", defArgs s_is_whole_number, defBody s_is_whole_number, defScope s_is_whole_number, [], []⟩
abbrev s_check_equation : Stmt := top 39
def d_check_equation : He.DefD := ⟨("check_equation", none), "check_equation", "check_equation", defArgs s_check_equation, defBody s_check_equation, defScope s_check_equation, [], []⟩
abbrev s_row_told : Stmt := top 40
def d_row_told : He.DefD := ⟨("row_told", none), "row_told", "row_told", defArgs s_row_told, defBody s_row_told, defScope s_row_told, [], []⟩
abbrev s_bits_told : Stmt := top 41
def d_bits_told : He.DefD := ⟨("bits_told", none), "bits_told", "bits_told", defArgs s_bits_told, defBody s_bits_told, defScope s_bits_told, [], []⟩
abbrev s_span : Stmt := top 42
def d_span : He.DefD := ⟨("span", none), "span", "span", defArgs s_span, defBody s_span, defScope s_span, [], []⟩
abbrev s_inverse : Stmt := top 43
def d_inverse : He.DefD := ⟨("inverse", none), "inverse", "inverse", defArgs s_inverse, defBody s_inverse, defScope s_inverse, [], []⟩
abbrev s_solved_mul : Stmt := top 44
def d_solved_mul : He.DefD := ⟨("solved_mul", none), "solved_mul", "solved_mul", defArgs s_solved_mul, defBody s_solved_mul, defScope s_solved_mul, [], []⟩
abbrev s_solved_floor : Stmt := top 45
def d_solved_floor : He.DefD := ⟨("solved_floor", none), "solved_floor", "solved_floor", defArgs s_solved_floor, defBody s_solved_floor, defScope s_solved_floor, [], []⟩
abbrev s_solved_mod : Stmt := top 46
def d_solved_mod : He.DefD := ⟨("solved_mod", none), "solved_mod", "solved_mod", defArgs s_solved_mod, defBody s_solved_mod, defScope s_solved_mod, [], []⟩
abbrev s_solved_and : Stmt := top 47
def d_solved_and : He.DefD := ⟨("solved_and", none), "solved_and", "solved_and", defArgs s_solved_and, defBody s_solved_and, defScope s_solved_and, [], []⟩
abbrev s_solved_or : Stmt := top 48
def d_solved_or : He.DefD := ⟨("solved_or", none), "solved_or", "solved_or", defArgs s_solved_or, defBody s_solved_or, defScope s_solved_or, [], []⟩
abbrev s_solved_left : Stmt := top 49
def d_solved_left : He.DefD := ⟨("solved_left", none), "solved_left", "solved_left", defArgs s_solved_left, defBody s_solved_left, defScope s_solved_left, [], []⟩
abbrev s_solved : Stmt := top 50
def d_solved : He.DefD := ⟨("solved", none), "solved", "solved", defArgs s_solved, defBody s_solved, defScope s_solved, [], []⟩
abbrev s_count_of : Stmt := top 51
def d_count_of : He.DefD := ⟨("count_of", none), "count_of", "count_of", defArgs s_count_of, defBody s_count_of, defScope s_count_of, [], []⟩
abbrev s_check_solution : Stmt := top 52
def d_check_solution : He.DefD := ⟨("check_solution", none), "check_solution", "check_solution", defArgs s_check_solution, defBody s_check_solution, defScope s_check_solution, [], []⟩
abbrev s_is_whole_or_many : Stmt := top 53
def d_is_whole_or_many : He.DefD := ⟨("is_whole_or_many", none), "is_whole_or_many", "is_whole_or_many", defArgs s_is_whole_or_many, defBody s_is_whole_or_many, defScope s_is_whole_or_many, [], []⟩
abbrev s_how_many_solve : Stmt := top 54
def d_how_many_solve : He.DefD := ⟨("how_many_solve", none), "how_many_solve", "how_many_solve", defArgs s_how_many_solve, defBody s_how_many_solve, defScope s_how_many_solve, [], []⟩
abbrev s_solution_at : Stmt := top 55
def d_solution_at : He.DefD := ⟨("solution_at", none), "solution_at", "solution_at", defArgs s_solution_at, defBody s_solution_at, defScope s_solution_at, [], []⟩
abbrev s_is_told : Stmt := top 56
def d_is_told : He.DefD := ⟨("is_told", none), "is_told", "is_told", defArgs s_is_told, defBody s_is_told, defScope s_is_told, [], []⟩
abbrev s_leads_to : Stmt := top 57
def d_leads_to : He.DefD := ⟨("leads_to", none), "leads_to", "leads_to", defArgs s_leads_to, defBody s_leads_to, defScope s_leads_to, [], []⟩
abbrev s__law_well : Stmt := top 59
def d__law_well : He.DefD := ⟨("_law_well", none), "_law_well", "_law_well", defArgs s__law_well, defBody s__law_well, defScope s__law_well, [], []⟩
abbrev s__law_draw : Stmt := top 60
def d__law_draw : He.DefD := ⟨("_law_draw", none), "_law_draw", "_law_draw", defArgs s__law_draw, defBody s__law_draw, defScope s__law_draw, [], []⟩
abbrev s__law_one : Stmt := top 61
def d__law_one : He.DefD := ⟨("_law_one", none), "_law_one", "_law_one", defArgs s__law_one, defBody s__law_one, defScope s__law_one, [], []⟩
abbrev s__law_wells : Stmt := top 62
def d__law_wells : He.DefD := ⟨("_law_wells", none), "_law_wells", "_law_wells", defArgs s__law_wells, defBody s__law_wells, defScope s__law_wells, [], []⟩
abbrev s__law_great : Stmt := top 63
def d__law_great : He.DefD := ⟨("_law_great", none), "_law_great", "_law_great", defArgs s__law_great, defBody s__law_great, defScope s__law_great, [], []⟩
abbrev s__law_result : Stmt := top 64
def d__law_result : He.DefD := ⟨("_law_result", none), "_law_result", "_law_result", defArgs s__law_result, defBody s__law_result, defScope s__law_result, [], []⟩
abbrev s__law_other : Stmt := top 65
def d__law_other : He.DefD := ⟨("_law_other", none), "_law_other", "_law_other", defArgs s__law_other, defBody s__law_other, defScope s__law_other, [], []⟩
abbrev s__law_are_members_right : Stmt := top 66
def d__law_are_members_right : He.DefD := ⟨("_law_are_members_right", none), "_law_are_members_right", "_law_are_members_right", defArgs s__law_are_members_right, defBody s__law_are_members_right, defScope s__law_are_members_right, [], []⟩
abbrev s__law_are_borders_right : Stmt := top 67
def d__law_are_borders_right : He.DefD := ⟨("_law_are_borders_right", none), "_law_are_borders_right", "_law_are_borders_right", defArgs s__law_are_borders_right, defBody s__law_are_borders_right, defScope s__law_are_borders_right, [], []⟩
abbrev s__law_is_right : Stmt := top 68
def d__law_is_right : He.DefD := ⟨("_law_is_right", none), "_law_is_right", "_law_is_right", defArgs s__law_is_right, defBody s__law_is_right, defScope s__law_is_right, [], []⟩
abbrev s__law_is_counted_right : Stmt := top 69
def d__law_is_counted_right : He.DefD := ⟨("_law_is_counted_right", none), "_law_is_counted_right", "_law_is_counted_right", defArgs s__law_is_counted_right, defBody s__law_is_counted_right, defScope s__law_is_counted_right, [], []⟩
abbrev s_law : Stmt := top 70
def d_law : He.DefD := ⟨("law", none), "law", "law", defArgs s_law, defBody s_law, defScope s_law, [], []⟩
abbrev s_Thrown_init : Stmt := inCls (top 5) 0
def d_Thrown_init : He.DefD := ⟨("Thrown", some "__init__"), "__init__", "Thrown.__init__", defArgs s_Thrown_init, defBody s_Thrown_init, defScope s_Thrown_init, [.int 1], []⟩
def fn : List He.DefD := [d_is_plain, d_reduced, d_fits, d_sign_of, d_nan, d_infinity, d_nearest, d_wrapped, d_to_float, d_whole_of, d_arith, d_whole_or_thrown, d_by_bits, d_by_floats, d_added, d_multiplied, d_divided, d_floored, d_remainder, d_is_whole_number, d_check_equation, d_row_told, d_bits_told, d_span, d_inverse, d_solved_mul, d_solved_floor, d_solved_mod, d_solved_and, d_solved_or, d_solved_left, d_solved, d_count_of, d_check_solution, d_is_whole_or_many, d_how_many_solve, d_solution_at, d_is_told, d_leads_to, d__law_well, d__law_draw, d__law_one, d__law_wells, d__law_great, d__law_result, d__law_other, d__law_are_members_right, d__law_are_borders_right, d__law_is_right, d__law_is_counted_right, d_law, d_Thrown_init]
def fa : List He.Fa := [.int "LEAST" (-9223372036854775808), .int "MOST" (9223372036854775807), .int "ROOM" (9007199254740992), .int "LOWEST" (-1074), .int "TOO_GREAT" (1024), .glo "WORDS", .int "BITS" (64), .int "ALL_BITS" (18446744073709551616),
  .str "ROW" "row", .str "FREE" "bits", .glo "is_plain", .glo "reduced", .glo "fits", .glo "sign_of", .glo "nan", .glo "infinity",
  .glo "nearest", .glo "wrapped", .glo "to_float", .glo "whole_of", .glo "arith", .glo "whole_or_thrown", .glo "by_bits", .glo "by_floats",
  .glo "added", .glo "multiplied", .glo "divided", .glo "floored", .glo "remainder", .glo "is_whole_number", .glo "check_equation", .glo "row_told",
  .glo "bits_told", .glo "span", .glo "inverse", .glo "solved_mul", .glo "solved_floor", .glo "solved_mod", .glo "solved_and", .glo "solved_or",
  .glo "solved_left", .glo "solved", .glo "count_of", .glo "check_solution", .glo "is_whole_or_many", .glo "how_many_solve", .glo "solution_at", .glo "is_told",
  .glo "leads_to", .glo "_law_well", .glo "_law_draw", .glo "_law_one", .glo "_law_wells", .glo "_law_great", .glo "_law_result", .glo "_law_other",
  .glo "_law_are_members_right", .glo "_law_are_borders_right", .glo "_law_is_right", .glo "_law_is_counted_right", .glo "law", .glo "LuaError", .glo "InvalidArgument", .glo "Thrown",
  .glo "Float", .free "ArithmeticError", .free "NotImplemented", .free "abs", .free "all", .free "bool", .free "dict", .free "divmod",
  .free "int", .free "isinstance", .free "len", .free "list", .free "max", .free "min", .free "range", .free "sorted",
  .free "str", .free "sum", .free "tuple", .free "zip"]
/-- what is told of classes: Thrown is an own exception over ArithmeticError with its own __init__; an int is no Float -/
def aeBase : List Value := [.type "ArithmeticError", .type "Exception", .type "BaseException", .type "object"]
def xc (K : PySem.W.Frag) : Bool :=
  PySem.W.excInitIn K (He.ga K "Thrown") aeBase "ArithmeticError.__new__" && PySem.W.excOver K (He.ga K "Thrown") aeBase &&
  decide (PySem.W.findIn K (.ref (He.ga K "Thrown")) "__init__" = some (some (.ref (He.ma K (He.ga K "Thrown") "__init__")))) &&
  PySem.W.isFn K (.ref (He.ma K (He.ga K "Thrown") "__init__")) && PySem.W.keepIn K (.ref (He.ga K "Thrown")) &&
  decide (PySem.W.findIn K (.ref (He.ga K "Thrown")) "__setattr__" = some (some (.builtin "object.__setattr__"))) &&
  decide (PySem.W.findIn K (.ref (He.ga K "Thrown")) "value" = some none) && decide (PySem.W.findIn K (.ref (He.ga K "Thrown")) "level" = some none) &&
  decide (PySem.W.subIn K (.ref (He.ga K "Thrown")) (.type "BaseException") = some true) && decide (PySem.W.typeIn K (.ref (He.ga K "Thrown")) = some (.type "type")) &&
  PySem.W.hasDictIn K (He.ga K "Thrown") && PySem.W.isClsIn K (He.ga K "Thrown") && decide (PySem.W.subIn K (.ref (He.ga K "Thrown")) (.ref (He.ga K "Thrown")) = some true) &&
  decide (PySem.W.kitOne K (.type "int") (.ref (He.ga K "Float")) = some false)
def ex (K : PySem.W.Frag) : Bool := xc K && He.tupB K "WORDS" [.str "add", .str "sub", .str "mul", .str "floor", .str "mod", .str "band", .str "bor", .str "bxor", .str "shl", .str "shr"]
def nm0 : List Str := ["_wall", "LuaError", "InvalidArgument", "Thrown", "LEAST", "MOST", "ROOM", "LOWEST", "TOO_GREAT", "Float", "is_plain", "reduced", "fits", "sign_of", "nan", "infinity", "nearest", "wrapped", "to_float", "whole_of", "arith", "whole_or_thrown", "by_bits", "by_floats", "added", "multiplied", "divided", "floored", "remainder", "WORDS"]
def nm1 : List Str := ["BITS", "ALL_BITS", "ROW", "FREE", "is_whole_number", "check_equation", "row_told", "bits_told", "span", "inverse", "solved_mul", "solved_floor", "solved_mod", "solved_and", "solved_or", "solved_left", "solved", "count_of", "check_solution", "is_whole_or_many", "how_many_solve", "solution_at", "is_told", "leads_to", "_law_well", "_law_draw", "_law_one", "_law_wells", "_law_great", "_law_result"]
def nm2 : List Str := ["_law_other", "_law_are_members_right", "_law_are_borders_right", "_law_is_right", "_law_is_counted_right"]
def names : List Str := nm0 ++ nm1 ++ nm2
abbrev R : PySem.W.OpenRow := PySem.W.OpenLaw.row PySem.Challenge.rw_walkmade_k94_whole_equations_of_integers
abbrev hk : PySem.W.Hook := He.hookX 5 fa fn [] [] ex
def ob (s : PySem.W.SharedT) : He.AlX := He.obsX 5 fa fn [] [] ex (HandSHeadRun.getT s)
theorem ob_eq (s : PySem.W.SharedT) : ob s = hk.obs s.abs := He.obsX_eq (HandSHeadRun.getT_eq s)
theorem run (w : World) : HandSHeadRun.RunEq R (PySem.W.view R.prog [70]) hk ob 4000 names w := by
  intro os
  kernel_rfl
end K94

set_option Elab.async false
set_option linter.all false
set_option maxRecDepth 100000
set_option maxHeartbeats 4000000
namespace K94
open PySem PySem.Spec PyProof.Rows L2 Wk
/-- what the top has left, for the walk -/
structure Tx (K : PySem.W.Frag) (mg : Str → Option Value) : Prop where
  X : ∃ h : Heap, K.In h ∧ h.Ns mainGlobals mg
  c : He.SaysD fa fn K
  e : ex K = true
section
variable {K : PySem.W.Frag} {mg : Str → Option Value}
theorem k_LEAST (T : Tx K mg) : ∃ u, mg "LEAST" = some u ∧ RelV (.int (-9223372036854775808)) u := by
  obtain ⟨h, X, G⟩ := T.X
  obtain ⟨t, e⟩ := He.int_ok X G (T.c.fact 0 (f := .int "LEAST" (-9223372036854775808)) rfl)
  exact ⟨_, e, t, rfl⟩
theorem k_MOST (T : Tx K mg) : ∃ u, mg "MOST" = some u ∧ RelV (.int (9223372036854775807)) u := by
  obtain ⟨h, X, G⟩ := T.X
  obtain ⟨t, e⟩ := He.int_ok X G (T.c.fact 1 (f := .int "MOST" (9223372036854775807)) rfl)
  exact ⟨_, e, t, rfl⟩
theorem k_ROOM (T : Tx K mg) : ∃ u, mg "ROOM" = some u ∧ RelV (.int (9007199254740992)) u := by
  obtain ⟨h, X, G⟩ := T.X
  obtain ⟨t, e⟩ := He.int_ok X G (T.c.fact 2 (f := .int "ROOM" (9007199254740992)) rfl)
  exact ⟨_, e, t, rfl⟩
theorem k_LOWEST (T : Tx K mg) : ∃ u, mg "LOWEST" = some u ∧ RelV (.int (-1074)) u := by
  obtain ⟨h, X, G⟩ := T.X
  obtain ⟨t, e⟩ := He.int_ok X G (T.c.fact 3 (f := .int "LOWEST" (-1074)) rfl)
  exact ⟨_, e, t, rfl⟩
theorem k_TOO_GREAT (T : Tx K mg) : ∃ u, mg "TOO_GREAT" = some u ∧ RelV (.int (1024)) u := by
  obtain ⟨h, X, G⟩ := T.X
  obtain ⟨t, e⟩ := He.int_ok X G (T.c.fact 4 (f := .int "TOO_GREAT" (1024)) rfl)
  exact ⟨_, e, t, rfl⟩
theorem g_WORDS (T : Tx K mg) : mg "WORDS" = some (.ref (He.ga K "WORDS")) := by
  obtain ⟨h, X, G⟩ := T.X
  exact He.glo_ok X G (T.c.fact 5 (f := .glo "WORDS") rfl)
theorem k_BITS (T : Tx K mg) : ∃ u, mg "BITS" = some u ∧ RelV (.int (64)) u := by
  obtain ⟨h, X, G⟩ := T.X
  obtain ⟨t, e⟩ := He.int_ok X G (T.c.fact 6 (f := .int "BITS" (64)) rfl)
  exact ⟨_, e, t, rfl⟩
theorem k_ALL_BITS (T : Tx K mg) : ∃ u, mg "ALL_BITS" = some u ∧ RelV (.int (18446744073709551616)) u := by
  obtain ⟨h, X, G⟩ := T.X
  obtain ⟨t, e⟩ := He.int_ok X G (T.c.fact 7 (f := .int "ALL_BITS" (18446744073709551616)) rfl)
  exact ⟨_, e, t, rfl⟩
theorem k_ROW (T : Tx K mg) : ∃ u, mg "ROW" = some u ∧ RelV (.str "row") u := by
  obtain ⟨h, X, G⟩ := T.X
  obtain ⟨t, e⟩ := He.str_ok X G (T.c.fact 8 (f := .str "ROW" "row") rfl)
  exact ⟨_, e, t, rfl⟩
theorem k_FREE (T : Tx K mg) : ∃ u, mg "FREE" = some u ∧ RelV (.str "bits") u := by
  obtain ⟨h, X, G⟩ := T.X
  obtain ⟨t, e⟩ := He.str_ok X G (T.c.fact 9 (f := .str "FREE" "bits") rfl)
  exact ⟨_, e, t, rfl⟩
theorem g_is_plain (T : Tx K mg) : mg "is_plain" = some (.ref (He.ga K "is_plain")) := by
  obtain ⟨h, X, G⟩ := T.X
  exact He.glo_ok X G (T.c.fact 10 (f := .glo "is_plain") rfl)
theorem g_reduced (T : Tx K mg) : mg "reduced" = some (.ref (He.ga K "reduced")) := by
  obtain ⟨h, X, G⟩ := T.X
  exact He.glo_ok X G (T.c.fact 11 (f := .glo "reduced") rfl)
theorem g_fits (T : Tx K mg) : mg "fits" = some (.ref (He.ga K "fits")) := by
  obtain ⟨h, X, G⟩ := T.X
  exact He.glo_ok X G (T.c.fact 12 (f := .glo "fits") rfl)
theorem g_sign_of (T : Tx K mg) : mg "sign_of" = some (.ref (He.ga K "sign_of")) := by
  obtain ⟨h, X, G⟩ := T.X
  exact He.glo_ok X G (T.c.fact 13 (f := .glo "sign_of") rfl)
theorem g_nan (T : Tx K mg) : mg "nan" = some (.ref (He.ga K "nan")) := by
  obtain ⟨h, X, G⟩ := T.X
  exact He.glo_ok X G (T.c.fact 14 (f := .glo "nan") rfl)
theorem g_infinity (T : Tx K mg) : mg "infinity" = some (.ref (He.ga K "infinity")) := by
  obtain ⟨h, X, G⟩ := T.X
  exact He.glo_ok X G (T.c.fact 15 (f := .glo "infinity") rfl)
theorem g_nearest (T : Tx K mg) : mg "nearest" = some (.ref (He.ga K "nearest")) := by
  obtain ⟨h, X, G⟩ := T.X
  exact He.glo_ok X G (T.c.fact 16 (f := .glo "nearest") rfl)
theorem g_wrapped (T : Tx K mg) : mg "wrapped" = some (.ref (He.ga K "wrapped")) := by
  obtain ⟨h, X, G⟩ := T.X
  exact He.glo_ok X G (T.c.fact 17 (f := .glo "wrapped") rfl)
theorem g_to_float (T : Tx K mg) : mg "to_float" = some (.ref (He.ga K "to_float")) := by
  obtain ⟨h, X, G⟩ := T.X
  exact He.glo_ok X G (T.c.fact 18 (f := .glo "to_float") rfl)
theorem g_whole_of (T : Tx K mg) : mg "whole_of" = some (.ref (He.ga K "whole_of")) := by
  obtain ⟨h, X, G⟩ := T.X
  exact He.glo_ok X G (T.c.fact 19 (f := .glo "whole_of") rfl)
theorem g_arith (T : Tx K mg) : mg "arith" = some (.ref (He.ga K "arith")) := by
  obtain ⟨h, X, G⟩ := T.X
  exact He.glo_ok X G (T.c.fact 20 (f := .glo "arith") rfl)
theorem g_whole_or_thrown (T : Tx K mg) : mg "whole_or_thrown" = some (.ref (He.ga K "whole_or_thrown")) := by
  obtain ⟨h, X, G⟩ := T.X
  exact He.glo_ok X G (T.c.fact 21 (f := .glo "whole_or_thrown") rfl)
theorem g_by_bits (T : Tx K mg) : mg "by_bits" = some (.ref (He.ga K "by_bits")) := by
  obtain ⟨h, X, G⟩ := T.X
  exact He.glo_ok X G (T.c.fact 22 (f := .glo "by_bits") rfl)
theorem g_by_floats (T : Tx K mg) : mg "by_floats" = some (.ref (He.ga K "by_floats")) := by
  obtain ⟨h, X, G⟩ := T.X
  exact He.glo_ok X G (T.c.fact 23 (f := .glo "by_floats") rfl)
theorem g_added (T : Tx K mg) : mg "added" = some (.ref (He.ga K "added")) := by
  obtain ⟨h, X, G⟩ := T.X
  exact He.glo_ok X G (T.c.fact 24 (f := .glo "added") rfl)
theorem g_multiplied (T : Tx K mg) : mg "multiplied" = some (.ref (He.ga K "multiplied")) := by
  obtain ⟨h, X, G⟩ := T.X
  exact He.glo_ok X G (T.c.fact 25 (f := .glo "multiplied") rfl)
theorem g_divided (T : Tx K mg) : mg "divided" = some (.ref (He.ga K "divided")) := by
  obtain ⟨h, X, G⟩ := T.X
  exact He.glo_ok X G (T.c.fact 26 (f := .glo "divided") rfl)
theorem g_floored (T : Tx K mg) : mg "floored" = some (.ref (He.ga K "floored")) := by
  obtain ⟨h, X, G⟩ := T.X
  exact He.glo_ok X G (T.c.fact 27 (f := .glo "floored") rfl)
theorem g_remainder (T : Tx K mg) : mg "remainder" = some (.ref (He.ga K "remainder")) := by
  obtain ⟨h, X, G⟩ := T.X
  exact He.glo_ok X G (T.c.fact 28 (f := .glo "remainder") rfl)
theorem g_is_whole_number (T : Tx K mg) : mg "is_whole_number" = some (.ref (He.ga K "is_whole_number")) := by
  obtain ⟨h, X, G⟩ := T.X
  exact He.glo_ok X G (T.c.fact 29 (f := .glo "is_whole_number") rfl)
theorem g_check_equation (T : Tx K mg) : mg "check_equation" = some (.ref (He.ga K "check_equation")) := by
  obtain ⟨h, X, G⟩ := T.X
  exact He.glo_ok X G (T.c.fact 30 (f := .glo "check_equation") rfl)
theorem g_row_told (T : Tx K mg) : mg "row_told" = some (.ref (He.ga K "row_told")) := by
  obtain ⟨h, X, G⟩ := T.X
  exact He.glo_ok X G (T.c.fact 31 (f := .glo "row_told") rfl)
theorem g_bits_told (T : Tx K mg) : mg "bits_told" = some (.ref (He.ga K "bits_told")) := by
  obtain ⟨h, X, G⟩ := T.X
  exact He.glo_ok X G (T.c.fact 32 (f := .glo "bits_told") rfl)
theorem g_span (T : Tx K mg) : mg "span" = some (.ref (He.ga K "span")) := by
  obtain ⟨h, X, G⟩ := T.X
  exact He.glo_ok X G (T.c.fact 33 (f := .glo "span") rfl)
theorem g_inverse (T : Tx K mg) : mg "inverse" = some (.ref (He.ga K "inverse")) := by
  obtain ⟨h, X, G⟩ := T.X
  exact He.glo_ok X G (T.c.fact 34 (f := .glo "inverse") rfl)
theorem g_solved_mul (T : Tx K mg) : mg "solved_mul" = some (.ref (He.ga K "solved_mul")) := by
  obtain ⟨h, X, G⟩ := T.X
  exact He.glo_ok X G (T.c.fact 35 (f := .glo "solved_mul") rfl)
theorem g_solved_floor (T : Tx K mg) : mg "solved_floor" = some (.ref (He.ga K "solved_floor")) := by
  obtain ⟨h, X, G⟩ := T.X
  exact He.glo_ok X G (T.c.fact 36 (f := .glo "solved_floor") rfl)
theorem g_solved_mod (T : Tx K mg) : mg "solved_mod" = some (.ref (He.ga K "solved_mod")) := by
  obtain ⟨h, X, G⟩ := T.X
  exact He.glo_ok X G (T.c.fact 37 (f := .glo "solved_mod") rfl)
theorem g_solved_and (T : Tx K mg) : mg "solved_and" = some (.ref (He.ga K "solved_and")) := by
  obtain ⟨h, X, G⟩ := T.X
  exact He.glo_ok X G (T.c.fact 38 (f := .glo "solved_and") rfl)
theorem g_solved_or (T : Tx K mg) : mg "solved_or" = some (.ref (He.ga K "solved_or")) := by
  obtain ⟨h, X, G⟩ := T.X
  exact He.glo_ok X G (T.c.fact 39 (f := .glo "solved_or") rfl)
theorem g_solved_left (T : Tx K mg) : mg "solved_left" = some (.ref (He.ga K "solved_left")) := by
  obtain ⟨h, X, G⟩ := T.X
  exact He.glo_ok X G (T.c.fact 40 (f := .glo "solved_left") rfl)
theorem g_solved (T : Tx K mg) : mg "solved" = some (.ref (He.ga K "solved")) := by
  obtain ⟨h, X, G⟩ := T.X
  exact He.glo_ok X G (T.c.fact 41 (f := .glo "solved") rfl)
theorem g_count_of (T : Tx K mg) : mg "count_of" = some (.ref (He.ga K "count_of")) := by
  obtain ⟨h, X, G⟩ := T.X
  exact He.glo_ok X G (T.c.fact 42 (f := .glo "count_of") rfl)
theorem g_check_solution (T : Tx K mg) : mg "check_solution" = some (.ref (He.ga K "check_solution")) := by
  obtain ⟨h, X, G⟩ := T.X
  exact He.glo_ok X G (T.c.fact 43 (f := .glo "check_solution") rfl)
theorem g_is_whole_or_many (T : Tx K mg) : mg "is_whole_or_many" = some (.ref (He.ga K "is_whole_or_many")) := by
  obtain ⟨h, X, G⟩ := T.X
  exact He.glo_ok X G (T.c.fact 44 (f := .glo "is_whole_or_many") rfl)
theorem g_how_many_solve (T : Tx K mg) : mg "how_many_solve" = some (.ref (He.ga K "how_many_solve")) := by
  obtain ⟨h, X, G⟩ := T.X
  exact He.glo_ok X G (T.c.fact 45 (f := .glo "how_many_solve") rfl)
theorem g_solution_at (T : Tx K mg) : mg "solution_at" = some (.ref (He.ga K "solution_at")) := by
  obtain ⟨h, X, G⟩ := T.X
  exact He.glo_ok X G (T.c.fact 46 (f := .glo "solution_at") rfl)
theorem g_is_told (T : Tx K mg) : mg "is_told" = some (.ref (He.ga K "is_told")) := by
  obtain ⟨h, X, G⟩ := T.X
  exact He.glo_ok X G (T.c.fact 47 (f := .glo "is_told") rfl)
theorem g_leads_to (T : Tx K mg) : mg "leads_to" = some (.ref (He.ga K "leads_to")) := by
  obtain ⟨h, X, G⟩ := T.X
  exact He.glo_ok X G (T.c.fact 48 (f := .glo "leads_to") rfl)
theorem g__law_well (T : Tx K mg) : mg "_law_well" = some (.ref (He.ga K "_law_well")) := by
  obtain ⟨h, X, G⟩ := T.X
  exact He.glo_ok X G (T.c.fact 49 (f := .glo "_law_well") rfl)
theorem g__law_draw (T : Tx K mg) : mg "_law_draw" = some (.ref (He.ga K "_law_draw")) := by
  obtain ⟨h, X, G⟩ := T.X
  exact He.glo_ok X G (T.c.fact 50 (f := .glo "_law_draw") rfl)
theorem g__law_one (T : Tx K mg) : mg "_law_one" = some (.ref (He.ga K "_law_one")) := by
  obtain ⟨h, X, G⟩ := T.X
  exact He.glo_ok X G (T.c.fact 51 (f := .glo "_law_one") rfl)
theorem g__law_wells (T : Tx K mg) : mg "_law_wells" = some (.ref (He.ga K "_law_wells")) := by
  obtain ⟨h, X, G⟩ := T.X
  exact He.glo_ok X G (T.c.fact 52 (f := .glo "_law_wells") rfl)
theorem g__law_great (T : Tx K mg) : mg "_law_great" = some (.ref (He.ga K "_law_great")) := by
  obtain ⟨h, X, G⟩ := T.X
  exact He.glo_ok X G (T.c.fact 53 (f := .glo "_law_great") rfl)
theorem g__law_result (T : Tx K mg) : mg "_law_result" = some (.ref (He.ga K "_law_result")) := by
  obtain ⟨h, X, G⟩ := T.X
  exact He.glo_ok X G (T.c.fact 54 (f := .glo "_law_result") rfl)
theorem g__law_other (T : Tx K mg) : mg "_law_other" = some (.ref (He.ga K "_law_other")) := by
  obtain ⟨h, X, G⟩ := T.X
  exact He.glo_ok X G (T.c.fact 55 (f := .glo "_law_other") rfl)
theorem g__law_are_members_right (T : Tx K mg) : mg "_law_are_members_right" = some (.ref (He.ga K "_law_are_members_right")) := by
  obtain ⟨h, X, G⟩ := T.X
  exact He.glo_ok X G (T.c.fact 56 (f := .glo "_law_are_members_right") rfl)
theorem g__law_are_borders_right (T : Tx K mg) : mg "_law_are_borders_right" = some (.ref (He.ga K "_law_are_borders_right")) := by
  obtain ⟨h, X, G⟩ := T.X
  exact He.glo_ok X G (T.c.fact 57 (f := .glo "_law_are_borders_right") rfl)
theorem g__law_is_right (T : Tx K mg) : mg "_law_is_right" = some (.ref (He.ga K "_law_is_right")) := by
  obtain ⟨h, X, G⟩ := T.X
  exact He.glo_ok X G (T.c.fact 58 (f := .glo "_law_is_right") rfl)
theorem g__law_is_counted_right (T : Tx K mg) : mg "_law_is_counted_right" = some (.ref (He.ga K "_law_is_counted_right")) := by
  obtain ⟨h, X, G⟩ := T.X
  exact He.glo_ok X G (T.c.fact 59 (f := .glo "_law_is_counted_right") rfl)
theorem g_law (T : Tx K mg) : mg "law" = some (.ref (He.ga K "law")) := by
  obtain ⟨h, X, G⟩ := T.X
  exact He.glo_ok X G (T.c.fact 60 (f := .glo "law") rfl)
theorem g_LuaError (T : Tx K mg) : mg "LuaError" = some (.ref (He.ga K "LuaError")) := by
  obtain ⟨h, X, G⟩ := T.X
  exact He.glo_ok X G (T.c.fact 61 (f := .glo "LuaError") rfl)
theorem g_InvalidArgument (T : Tx K mg) : mg "InvalidArgument" = some (.ref (He.ga K "InvalidArgument")) := by
  obtain ⟨h, X, G⟩ := T.X
  exact He.glo_ok X G (T.c.fact 62 (f := .glo "InvalidArgument") rfl)
theorem g_Thrown (T : Tx K mg) : mg "Thrown" = some (.ref (He.ga K "Thrown")) := by
  obtain ⟨h, X, G⟩ := T.X
  exact He.glo_ok X G (T.c.fact 63 (f := .glo "Thrown") rfl)
theorem g_Float (T : Tx K mg) : mg "Float" = some (.ref (He.ga K "Float")) := by
  obtain ⟨h, X, G⟩ := T.X
  exact He.glo_ok X G (T.c.fact 64 (f := .glo "Float") rfl)
theorem m_ArithmeticError (T : Tx K mg) : mg "ArithmeticError" = none := by
  obtain ⟨h, X, G⟩ := T.X
  exact He.free_ok X G (T.c.fact 65 (f := .free "ArithmeticError") rfl)
theorem m_NotImplemented (T : Tx K mg) : mg "NotImplemented" = none := by
  obtain ⟨h, X, G⟩ := T.X
  exact He.free_ok X G (T.c.fact 66 (f := .free "NotImplemented") rfl)
theorem m_abs (T : Tx K mg) : mg "abs" = none := by
  obtain ⟨h, X, G⟩ := T.X
  exact He.free_ok X G (T.c.fact 67 (f := .free "abs") rfl)
theorem m_all (T : Tx K mg) : mg "all" = none := by
  obtain ⟨h, X, G⟩ := T.X
  exact He.free_ok X G (T.c.fact 68 (f := .free "all") rfl)
theorem m_bool (T : Tx K mg) : mg "bool" = none := by
  obtain ⟨h, X, G⟩ := T.X
  exact He.free_ok X G (T.c.fact 69 (f := .free "bool") rfl)
theorem m_dict (T : Tx K mg) : mg "dict" = none := by
  obtain ⟨h, X, G⟩ := T.X
  exact He.free_ok X G (T.c.fact 70 (f := .free "dict") rfl)
theorem m_divmod (T : Tx K mg) : mg "divmod" = none := by
  obtain ⟨h, X, G⟩ := T.X
  exact He.free_ok X G (T.c.fact 71 (f := .free "divmod") rfl)
theorem m_int (T : Tx K mg) : mg "int" = none := by
  obtain ⟨h, X, G⟩ := T.X
  exact He.free_ok X G (T.c.fact 72 (f := .free "int") rfl)
theorem m_isinstance (T : Tx K mg) : mg "isinstance" = none := by
  obtain ⟨h, X, G⟩ := T.X
  exact He.free_ok X G (T.c.fact 73 (f := .free "isinstance") rfl)
theorem m_len (T : Tx K mg) : mg "len" = none := by
  obtain ⟨h, X, G⟩ := T.X
  exact He.free_ok X G (T.c.fact 74 (f := .free "len") rfl)
theorem m_list (T : Tx K mg) : mg "list" = none := by
  obtain ⟨h, X, G⟩ := T.X
  exact He.free_ok X G (T.c.fact 75 (f := .free "list") rfl)
theorem m_max (T : Tx K mg) : mg "max" = none := by
  obtain ⟨h, X, G⟩ := T.X
  exact He.free_ok X G (T.c.fact 76 (f := .free "max") rfl)
theorem m_min (T : Tx K mg) : mg "min" = none := by
  obtain ⟨h, X, G⟩ := T.X
  exact He.free_ok X G (T.c.fact 77 (f := .free "min") rfl)
theorem m_range (T : Tx K mg) : mg "range" = none := by
  obtain ⟨h, X, G⟩ := T.X
  exact He.free_ok X G (T.c.fact 78 (f := .free "range") rfl)
theorem m_sorted (T : Tx K mg) : mg "sorted" = none := by
  obtain ⟨h, X, G⟩ := T.X
  exact He.free_ok X G (T.c.fact 79 (f := .free "sorted") rfl)
theorem m_str (T : Tx K mg) : mg "str" = none := by
  obtain ⟨h, X, G⟩ := T.X
  exact He.free_ok X G (T.c.fact 80 (f := .free "str") rfl)
theorem m_sum (T : Tx K mg) : mg "sum" = none := by
  obtain ⟨h, X, G⟩ := T.X
  exact He.free_ok X G (T.c.fact 81 (f := .free "sum") rfl)
theorem m_tuple (T : Tx K mg) : mg "tuple" = none := by
  obtain ⟨h, X, G⟩ := T.X
  exact He.free_ok X G (T.c.fact 82 (f := .free "tuple") rfl)
theorem m_zip (T : Tx K mg) : mg "zip" = none := by
  obtain ⟨h, X, G⟩ := T.X
  exact He.free_ok X G (T.c.fact 83 (f := .free "zip") rfl)
theorem k_WORDS (T : Tx K mg) : ∃ u, mg "WORDS" = some u ∧ RelV (.ref (He.ga K "WORDS")) u := ⟨_, g_WORDS T, rfl⟩
theorem f_is_plain (T : Tx K mg) : ∃ fd, FnP K "is_plain" s_is_plain (He.ga K "is_plain") fd := T.c.def_ 0 (d := d_is_plain) rfl
theorem f_reduced (T : Tx K mg) : ∃ fd, FnP K "reduced" s_reduced (He.ga K "reduced") fd := T.c.def_ 1 (d := d_reduced) rfl
theorem f_fits (T : Tx K mg) : ∃ fd, FnP K "fits" s_fits (He.ga K "fits") fd := T.c.def_ 2 (d := d_fits) rfl
theorem f_sign_of (T : Tx K mg) : ∃ fd, FnP K "sign_of" s_sign_of (He.ga K "sign_of") fd := T.c.def_ 3 (d := d_sign_of) rfl
theorem f_nan (T : Tx K mg) : ∃ fd, FnP K "nan" s_nan (He.ga K "nan") fd := T.c.def_ 4 (d := d_nan) rfl
theorem f_infinity (T : Tx K mg) : ∃ fd, FnP K "infinity" s_infinity (He.ga K "infinity") fd := T.c.def_ 5 (d := d_infinity) rfl
theorem f_nearest (T : Tx K mg) : ∃ fd, FnP K "nearest" s_nearest (He.ga K "nearest") fd := T.c.def_ 6 (d := d_nearest) rfl
theorem f_wrapped (T : Tx K mg) : ∃ fd, FnP K "wrapped" s_wrapped (He.ga K "wrapped") fd := T.c.def_ 7 (d := d_wrapped) rfl
theorem f_to_float (T : Tx K mg) : ∃ fd, FnP K "to_float" s_to_float (He.ga K "to_float") fd := T.c.def_ 8 (d := d_to_float) rfl
theorem f_whole_of (T : Tx K mg) : ∃ fd, FnP K "whole_of" s_whole_of (He.ga K "whole_of") fd := T.c.def_ 9 (d := d_whole_of) rfl
theorem f_arith (T : Tx K mg) : ∃ fd, FnP K "arith" s_arith (He.ga K "arith") fd := T.c.def_ 10 (d := d_arith) rfl
theorem f_whole_or_thrown (T : Tx K mg) : ∃ fd, FnP K "whole_or_thrown" s_whole_or_thrown (He.ga K "whole_or_thrown") fd := T.c.def_ 11 (d := d_whole_or_thrown) rfl
theorem f_by_bits (T : Tx K mg) : ∃ fd, FnP K "by_bits" s_by_bits (He.ga K "by_bits") fd := T.c.def_ 12 (d := d_by_bits) rfl
theorem f_by_floats (T : Tx K mg) : ∃ fd, FnP K "by_floats" s_by_floats (He.ga K "by_floats") fd := T.c.def_ 13 (d := d_by_floats) rfl
theorem f_added (T : Tx K mg) : ∃ fd, FnP K "added" s_added (He.ga K "added") fd := T.c.def_ 14 (d := d_added) rfl
theorem f_multiplied (T : Tx K mg) : ∃ fd, FnP K "multiplied" s_multiplied (He.ga K "multiplied") fd := T.c.def_ 15 (d := d_multiplied) rfl
theorem f_divided (T : Tx K mg) : ∃ fd, FnP K "divided" s_divided (He.ga K "divided") fd := T.c.def_ 16 (d := d_divided) rfl
theorem f_floored (T : Tx K mg) : ∃ fd, FnP K "floored" s_floored (He.ga K "floored") fd := T.c.def_ 17 (d := d_floored) rfl
theorem f_remainder (T : Tx K mg) : ∃ fd, FnP K "remainder" s_remainder (He.ga K "remainder") fd := T.c.def_ 18 (d := d_remainder) rfl
theorem f_is_whole_number (T : Tx K mg) : ∃ fd, FnP K "is_whole_number" s_is_whole_number (He.ga K "is_whole_number") fd := T.c.def_ 19 (d := d_is_whole_number) rfl
theorem f_check_equation (T : Tx K mg) : ∃ fd, FnP K "check_equation" s_check_equation (He.ga K "check_equation") fd := T.c.def_ 20 (d := d_check_equation) rfl
theorem f_row_told (T : Tx K mg) : ∃ fd, FnP K "row_told" s_row_told (He.ga K "row_told") fd := T.c.def_ 21 (d := d_row_told) rfl
theorem f_bits_told (T : Tx K mg) : ∃ fd, FnP K "bits_told" s_bits_told (He.ga K "bits_told") fd := T.c.def_ 22 (d := d_bits_told) rfl
theorem f_span (T : Tx K mg) : ∃ fd, FnP K "span" s_span (He.ga K "span") fd := T.c.def_ 23 (d := d_span) rfl
theorem f_inverse (T : Tx K mg) : ∃ fd, FnP K "inverse" s_inverse (He.ga K "inverse") fd := T.c.def_ 24 (d := d_inverse) rfl
theorem f_solved_mul (T : Tx K mg) : ∃ fd, FnP K "solved_mul" s_solved_mul (He.ga K "solved_mul") fd := T.c.def_ 25 (d := d_solved_mul) rfl
theorem f_solved_floor (T : Tx K mg) : ∃ fd, FnP K "solved_floor" s_solved_floor (He.ga K "solved_floor") fd := T.c.def_ 26 (d := d_solved_floor) rfl
theorem f_solved_mod (T : Tx K mg) : ∃ fd, FnP K "solved_mod" s_solved_mod (He.ga K "solved_mod") fd := T.c.def_ 27 (d := d_solved_mod) rfl
theorem f_solved_and (T : Tx K mg) : ∃ fd, FnP K "solved_and" s_solved_and (He.ga K "solved_and") fd := T.c.def_ 28 (d := d_solved_and) rfl
theorem f_solved_or (T : Tx K mg) : ∃ fd, FnP K "solved_or" s_solved_or (He.ga K "solved_or") fd := T.c.def_ 29 (d := d_solved_or) rfl
theorem f_solved_left (T : Tx K mg) : ∃ fd, FnP K "solved_left" s_solved_left (He.ga K "solved_left") fd := T.c.def_ 30 (d := d_solved_left) rfl
theorem f_solved (T : Tx K mg) : ∃ fd, FnP K "solved" s_solved (He.ga K "solved") fd := T.c.def_ 31 (d := d_solved) rfl
theorem f_count_of (T : Tx K mg) : ∃ fd, FnP K "count_of" s_count_of (He.ga K "count_of") fd := T.c.def_ 32 (d := d_count_of) rfl
theorem f_check_solution (T : Tx K mg) : ∃ fd, FnP K "check_solution" s_check_solution (He.ga K "check_solution") fd := T.c.def_ 33 (d := d_check_solution) rfl
theorem f_is_whole_or_many (T : Tx K mg) : ∃ fd, FnP K "is_whole_or_many" s_is_whole_or_many (He.ga K "is_whole_or_many") fd := T.c.def_ 34 (d := d_is_whole_or_many) rfl
theorem f_how_many_solve (T : Tx K mg) : ∃ fd, FnP K "how_many_solve" s_how_many_solve (He.ga K "how_many_solve") fd := T.c.def_ 35 (d := d_how_many_solve) rfl
theorem f_solution_at (T : Tx K mg) : ∃ fd, FnP K "solution_at" s_solution_at (He.ga K "solution_at") fd := T.c.def_ 36 (d := d_solution_at) rfl
theorem f_is_told (T : Tx K mg) : ∃ fd, FnP K "is_told" s_is_told (He.ga K "is_told") fd := T.c.def_ 37 (d := d_is_told) rfl
theorem f_leads_to (T : Tx K mg) : ∃ fd, FnP K "leads_to" s_leads_to (He.ga K "leads_to") fd := T.c.def_ 38 (d := d_leads_to) rfl
theorem f__law_well (T : Tx K mg) : ∃ fd, FnP K "_law_well" s__law_well (He.ga K "_law_well") fd := T.c.def_ 39 (d := d__law_well) rfl
theorem f__law_draw (T : Tx K mg) : ∃ fd, FnP K "_law_draw" s__law_draw (He.ga K "_law_draw") fd := T.c.def_ 40 (d := d__law_draw) rfl
theorem f__law_one (T : Tx K mg) : ∃ fd, FnP K "_law_one" s__law_one (He.ga K "_law_one") fd := T.c.def_ 41 (d := d__law_one) rfl
theorem f__law_wells (T : Tx K mg) : ∃ fd, FnP K "_law_wells" s__law_wells (He.ga K "_law_wells") fd := T.c.def_ 42 (d := d__law_wells) rfl
theorem f__law_great (T : Tx K mg) : ∃ fd, FnP K "_law_great" s__law_great (He.ga K "_law_great") fd := T.c.def_ 43 (d := d__law_great) rfl
theorem f__law_result (T : Tx K mg) : ∃ fd, FnP K "_law_result" s__law_result (He.ga K "_law_result") fd := T.c.def_ 44 (d := d__law_result) rfl
theorem f__law_other (T : Tx K mg) : ∃ fd, FnP K "_law_other" s__law_other (He.ga K "_law_other") fd := T.c.def_ 45 (d := d__law_other) rfl
theorem f__law_are_members_right (T : Tx K mg) : ∃ fd, FnP K "_law_are_members_right" s__law_are_members_right (He.ga K "_law_are_members_right") fd := T.c.def_ 46 (d := d__law_are_members_right) rfl
theorem f__law_are_borders_right (T : Tx K mg) : ∃ fd, FnP K "_law_are_borders_right" s__law_are_borders_right (He.ga K "_law_are_borders_right") fd := T.c.def_ 47 (d := d__law_are_borders_right) rfl
theorem f__law_is_right (T : Tx K mg) : ∃ fd, FnP K "_law_is_right" s__law_is_right (He.ga K "_law_is_right") fd := T.c.def_ 48 (d := d__law_is_right) rfl
theorem f__law_is_counted_right (T : Tx K mg) : ∃ fd, FnP K "_law_is_counted_right" s__law_is_counted_right (He.ga K "_law_is_counted_right") fd := T.c.def_ 49 (d := d__law_is_counted_right) rfl
theorem f_law (T : Tx K mg) : ∃ fd, FnP K "law" s_law (He.ga K "law") fd := T.c.def_ 50 (d := d_law) rfl
theorem f_Thrown_init (T : Tx K mg) : ∃ fd, FunD K "__init__" "Thrown.__init__" (defArgs s_Thrown_init) (defBody s_Thrown_init) (defScope s_Thrown_init) [V.int 1] [] (He.ma K (He.ga K "Thrown") "__init__") fd := T.c.def_ 51 (d := d_Thrown_init) rfl
end
end K94

set_option Elab.async false
set_option linter.all false
set_option maxRecDepth 100000
set_option maxHeartbeats 4000000
/-! ints by their bits -/
namespace K94
open PySem PySem.W PyProof.Rows
abbrev bAnd := Builtin.bitAnd
abbrev bOr := Builtin.bitOr
abbrev bNot := Builtin.bitNot
abbrev bXor := Builtin.bitXor
theorem le_mulr {a b : Int} (ha : 0 ≤ a) (hb : 1 ≤ b) : a ≤ a * b := by
  have := Int.mul_le_mul_of_nonneg_left hb ha
  omega
theorem le_mull {a b : Int} (hb : 0 ≤ b) (ha : 1 ≤ a) : b ≤ a * b := by
  rw [Int.mul_comm]
  exact le_mulr hb ha
/-- the bit with a number -/
def tb (x : Int) (i : Nat) : Bool := decide (x / 2 ^ i % 2 = 1)
theorem p2 (n : Nat) : (0 : Int) < 2 ^ n := kbt_pos n
theorem tb0 (x : Int) : tb x 0 = decide (x % 2 = 1) := by
  unfold tb
  rw [Int.pow_zero, Int.ediv_one]
theorem tb_succ (x : Int) (i : Nat) : tb x (i + 1) = tb (x / 2) i := by
  unfold tb
  rw [Int.pow_succ, Int.mul_comm, ← Int.ediv_ediv_of_nonneg (by decide)]
theorem tb_and : ∀ (i : Nat) (x y : Int), tb (bAnd x y) i = (tb x i && tb y i)
  | 0, x, y => by
    rw [tb0, tb0, tb0, show bAnd x y = _ from kbt_halves x y]
    by_cases h1 : x % 2 = 1 <;> by_cases h2 : y % 2 = 1 <;> simp [h1, h2] <;> omega
  | i + 1, x, y => by
    rw [tb_succ, tb_succ, tb_succ, ← tb_and i (x / 2) (y / 2)]
    congr 1
    rw [show bAnd x y = _ from kbt_halves x y]
    show (2 * bAnd (x / 2) (y / 2) + _) / 2 = bAnd (x / 2) (y / 2)
    split <;> omega
theorem tb_not : ∀ (i : Nat) (x : Int), tb (bNot x) i = !tb x i
  | 0, x => by
    rw [tb0, tb0, show bNot x = -x - 1 from rfl]
    by_cases h : x % 2 = 1 <;> simp [h] <;> omega
  | i + 1, x => by
    rw [tb_succ, tb_succ, ← tb_not i (x / 2)]
    congr 1
    show (-x - 1) / 2 = -(x / 2) - 1
    omega
theorem tb_or (i : Nat) (x y : Int) : tb (bOr x y) i = (tb x i || tb y i) := by
  show tb (bNot (bAnd (bNot x) (bNot y))) i = _
  rw [tb_not, tb_and, tb_not, tb_not]
  cases tb x i <;> cases tb y i <;> rfl
theorem not_not (x : Int) : bNot (bNot x) = x := by
  show -(-x - 1) - 1 = x
  omega
/-- two ints with the same bits are one -/
theorem tb_ext : ∀ (n : Nat) (x y : Int), x.natAbs + y.natAbs ≤ n → (∀ i, tb x i = tb y i) → x = y
  | n, x, y, hn, h => by
    have h0 := h 0
    rw [tb0, tb0] at h0
    have e2 : x % 2 = y % 2 := by
      by_cases a : x % 2 = 1 <;> by_cases b : y % 2 = 1 <;> simp [a, b] at h0 <;> omega
    by_cases hx : (x = 0 ∨ x = -1) ∧ (y = 0 ∨ y = -1)
    · obtain ⟨a, b⟩ := hx
      rcases a with rfl | rfl <;> rcases b with rfl | rfl <;> first | rfl | (exfalso; revert e2; decide)
    · cases n with
      | zero => exfalso; apply hx; omega
      | succ n =>
        have e := tb_ext n (x / 2) (y / 2) (by omega) fun i => by rw [← tb_succ, ← tb_succ]; exact h (i + 1)
        omega
theorem ext {x y : Int} (h : ∀ i, tb x i = tb y i) : x = y := tb_ext _ x y (Nat.le_refl _) h
theorem tb_zero (i : Nat) : tb 0 i = false := by unfold tb; rw [Int.zero_ediv]; rfl
theorem tb_m1 : ∀ i : Nat, tb (-1) i = true
  | 0 => rfl
  | i + 1 => by rw [tb_succ, show (-1 : Int) / 2 = -1 from rfl]; exact tb_m1 i
theorem and_m1 (x : Int) : bAnd x (-1) = x := ext fun i => by rw [tb_and, tb_m1, Bool.and_true]
theorem and_zero (x : Int) : bAnd x 0 = 0 := ext fun i => by rw [tb_and, tb_zero, Bool.and_false]
/-! ### & and | -/
theorem and_sol {x o : Int} : bAnd (bAnd x o) (bNot o) = 0 := ext fun i => by
  rw [tb_and, tb_and, tb_not, tb_zero]
  cases tb x i <;> cases tb o i <;> rfl
theorem or_none {x o : Int} : bAnd o (bNot (bOr x o)) = 0 := ext fun i => by
  rw [tb_and, tb_not, tb_or, tb_zero]
  cases tb x i <;> cases tb o i <;> rfl
theorem bit_of {x y : Int} (h : x = y) (i : Nat) : tb x i = tb y i := by rw [h]
theorem or_sol {x o r : Int} (h : bAnd o (bNot r) = 0) : bAnd x (bNot o) = bAnd r (bNot o) ↔ bOr x o = r := by
  have hb := fun i => bit_of h i
  constructor
  · intro e
    refine ext fun i => ?_
    have h1 := bit_of e i
    have h2 := hb i
    rw [tb_and, tb_and, tb_not] at h1
    rw [tb_and, tb_not, tb_zero] at h2
    rw [tb_or]
    revert h1 h2
    cases tb x i <;> cases tb o i <;> cases tb r i <;> simp
  · intro e
    refine ext fun i => ?_
    rw [← e, tb_and, tb_and, tb_not, tb_or]
    cases tb x i <;> cases tb o i <;> rfl
theorem disj1 (r o : Int) : bAnd (bAnd r (bNot o)) o = 0 := ext fun i => by
  rw [tb_and, tb_and, tb_not, tb_zero]
  cases tb r i <;> cases tb o i <;> rfl
end K94

set_option Elab.async false
set_option linter.all false
set_option maxRecDepth 100000
set_option maxHeartbeats 4000000
namespace K94
open PySem PySem.W PyProof.Rows
/-- an int as one of 64 bits -/
def wrap (n : Int) : Int := (n + 2 ^ 63) % 2 ^ 64 - 2 ^ 63
/-- an int of 64 bits -/
def InR (n : Int) : Prop := -9223372036854775808 ≤ n ∧ n ≤ 9223372036854775807
instance (n : Int) : Decidable (InR n) := inferInstanceAs (Decidable (_ ∧ _))
theorem inR_dec {n : Int} (c : -9223372036854775808 ≤ n) : decide (n ≤ 9223372036854775807) = decide (InR n) := by
  by_cases d : n ≤ 9223372036854775807
  · rw [decide_eq_true d, decide_eq_true (show InR n from ⟨c, d⟩)]
  · rw [decide_eq_false d, decide_eq_false fun z : InR n => d z.2]
theorem wrap_in (n : Int) : InR (wrap n) := by unfold InR wrap; omega
theorem wrap_id {n : Int} (h : InR n) : wrap n = n := by unfold InR at h; unfold wrap; omega
theorem wrap_eq {n r : Int} (h : InR r) : wrap n = r ↔ n % 2 ^ 64 = r % 2 ^ 64 := by unfold InR at h; unfold wrap; omega
theorem wrap_mod (n : Int) : wrap n % 2 ^ 64 = n % 2 ^ 64 := by unfold wrap; omega
theorem wrap_wrap {a b : Int} : wrap a = wrap b ↔ a % 2 ^ 64 = b % 2 ^ 64 := by unfold wrap; omega
/-! ### bits of ints of 64 bits -/
theorem and_div : ∀ (n : Nat) (x y : Int), bAnd x y / 2 ^ n = bAnd (x / 2 ^ n) (y / 2 ^ n)
  | 0, x, y => by rw [Int.pow_zero, Int.ediv_one, Int.ediv_one, Int.ediv_one]
  | n + 1, x, y => by
    have e : ∀ z : Int, z / 2 ^ (n + 1) = z / 2 / 2 ^ n := fun z => by rw [Int.pow_succ, Int.mul_comm, ← Int.ediv_ediv_of_nonneg (by decide)]
    rw [e, e, e, ← and_div n (x / 2) (y / 2)]
    congr 1
    rw [show bAnd x y = _ from kbt_halves x y]
    show (2 * bAnd (x / 2) (y / 2) + _) / 2 = bAnd (x / 2) (y / 2)
    split <;> omega
theorem inR_top {x : Int} : InR x ↔ x / 2 ^ 63 = 0 ∨ x / 2 ^ 63 = -1 := by unfold InR; omega
theorem and_in {x y : Int} (hx : InR x) (hy : InR y) : InR (bAnd x y) := by
  rw [inR_top] at hx hy ⊢
  rw [and_div]
  rcases hx with a | a <;> rcases hy with b | b <;> rw [a, b] <;> first | exact .inl rfl | exact .inr rfl
theorem not_in {x : Int} (hx : InR x) : InR (bNot x) := by
  unfold InR at *
  show _ ≤ -x - 1 ∧ -x - 1 ≤ _
  omega
theorem or_in {x y : Int} (hx : InR x) (hy : InR y) : InR (bOr x y) := not_in (and_in (not_in hx) (not_in hy))
/-- the parts of x within and outside z -/
theorem parts (x z : Int) : bAnd x z + bAnd x (bNot z) = x := by
  have h0 : bAnd (bAnd x z) (bAnd x (bNot z)) = 0 := ext fun i => by
    rw [tb_and, tb_and, tb_and, tb_not, tb_zero]
    cases tb x i <;> cases tb z i <;> rfl
  have h1 : bOr (bAnd x z) (bAnd x (bNot z)) = x := ext fun i => by
    rw [tb_or, tb_and, tb_and, tb_not]
    cases tb x i <;> cases tb z i <;> rfl
  have h2 : bOr (bAnd x z) (bAnd x (bNot z)) = bAnd x z + bAnd x (bNot z) - bAnd (bAnd x z) (bAnd x (bNot z)) := bitOr_and _ _
  omega
theorem xor_bits (x y : Int) : bXor x y = bAnd (bOr x y) (bNot (bAnd x y)) := by
  have h := parts (bOr x y) (bAnd x y)
  have h1 : bAnd (bOr x y) (bAnd x y) = bAnd x y := ext fun i => by
    rw [tb_and, tb_or, tb_and]
    cases tb x i <;> cases tb y i <;> rfl
  rw [h1] at h
  show bOr x y - bAnd x y = _
  omega
theorem tb_xor (i : Nat) (x y : Int) : tb (bXor x y) i = (tb x i ^^ tb y i) := by
  rw [xor_bits, tb_and, tb_or, tb_not, tb_and]
  cases tb x i <;> cases tb y i <;> rfl
theorem xor_in {x y : Int} (hx : InR x) (hy : InR y) : InR (bXor x y) := by
  rw [xor_bits]
  exact and_in (or_in hx hy) (not_in (and_in hx hy))
theorem xor_sol {x o r : Int} : x = bXor r o ↔ bXor x o = r := by
  constructor
  · rintro rfl
    refine ext fun i => ?_
    rw [tb_xor, tb_xor]
    cases tb r i <;> cases tb o i <;> rfl
  · rintro rfl
    refine ext fun i => ?_
    rw [tb_xor, tb_xor]
    cases tb x i <;> cases tb o i <;> rfl
theorem and_mask (x : Int) (k : Nat) : bAnd x (2 ^ k - 1) = x % 2 ^ k := kbt_mask x k
theorem and_nmask (x : Int) (k : Nat) : bAnd x (bNot (2 ^ k - 1)) = x - x % 2 ^ k := by
  have h := parts x (2 ^ k - 1)
  rw [and_mask] at h
  omega
/-! ### what the shifts lead to -/
/-- x << m -/
theorem shl_sol {x r : Int} {m : Nat} (hm : m ≤ 63) (hr : InR r) (hx : InR x) (h : r % 2 ^ 64 % 2 ^ m = 0) :
    bAnd x (bNot (wrap (2 ^ 64 - 1 - (2 ^ (64 - m) - 1)))) = wrap (r % 2 ^ 64 / 2 ^ m) ↔ wrap (x * 2 ^ m) = r := by
  rw [wrap_eq hr]
  have e64 : (2 : Int) ^ 64 = 2 ^ (64 - m) * 2 ^ m := by rw [← Int.pow_add]; congr 1; omega
  have hp := p2 m
  have hq := p2 (64 - m)
  have key : x * 2 ^ m % 2 ^ 64 = x % 2 ^ (64 - m) * 2 ^ m := by
    rw [e64, Int.mul_comm x, Int.mul_comm (2 ^ (64 - m)), Int.mul_emod_mul_of_pos _ _ hp, Int.mul_comm]
  rw [key]
  have hd : r % 2 ^ 64 = r % 2 ^ 64 / 2 ^ m * 2 ^ m := by
    have := Int.emod_add_mul_ediv (r % 2 ^ 64) (2 ^ m)
    rw [h, Int.mul_comm] at this
    omega
  have iff2 : x % 2 ^ (64 - m) * 2 ^ m = r % 2 ^ 64 ↔ x % 2 ^ (64 - m) = r % 2 ^ 64 / 2 ^ m := by
    constructor
    · intro z
      rw [hd] at z
      exact Int.eq_of_mul_eq_mul_right (by omega) z
    · intro z
      rw [z]
      exact hd.symm
  rw [iff2]
  cases m with
  | zero =>
    rw [show (64 - 0 : Nat) = 64 from rfl, Int.pow_zero, Int.ediv_one, show wrap (2 ^ 64 - 1 - (2 ^ 64 - 1)) = 0 by decide, show bNot 0 = -1 from rfl, and_m1]
    have e := (wrap_eq (n := r % 2 ^ 64) hr).mpr (by omega)
    rw [e]
    unfold InR at *
    omega
  | succ m =>
    have b1 : (2 : Int) ^ (64 - (m + 1)) ≤ 2 ^ 63 := by
      have : (2 : Int) ^ 63 = 2 ^ (64 - (m + 1)) * 2 ^ m := by rw [← Int.pow_add]; congr 1; omega
      rw [this]
      have := p2 m
      exact le_mulr (by omega) (by omega)
    have e1 : wrap (2 ^ 64 - 1 - (2 ^ (64 - (m + 1)) - 1)) = -(2 ^ (64 - (m + 1))) := by
      unfold wrap
      generalize (2 : Int) ^ (64 - (m + 1)) = q at *
      omega
    rw [e1, show bNot (-(2 ^ (64 - (m + 1)))) = 2 ^ (64 - (m + 1)) - 1 by show - -(2 : Int) ^ (64 - (m + 1)) - 1 = _; omega, and_mask]
    have b2 : InR (r % 2 ^ 64 / 2 ^ (m + 1)) := by
      have hn : 0 ≤ r % 2 ^ 64 / 2 ^ (m + 1) := Int.ediv_nonneg (by omega) (by omega)
      have hl : r % 2 ^ 64 / 2 ^ (m + 1) < 2 ^ (64 - (m + 1)) := Int.ediv_lt_of_lt_mul hp (by rw [← e64]; omega)
      unfold InR
      omega
    rw [wrap_id b2]
theorem shl_none {x r : Int} {m : Nat} (hm : m ≤ 63) (hr : InR r) (h : ¬ r % 2 ^ 64 % 2 ^ m = 0) : ¬ wrap (x * 2 ^ m) = r := by
  rw [wrap_eq hr]
  intro z
  apply h
  rw [← z]
  have e64 : (2 : Int) ^ 64 = 2 ^ (64 - m) * 2 ^ m := by rw [← Int.pow_add]; congr 1; omega
  rw [e64, Int.emod_emod_of_dvd _ (Int.dvd_mul_left _ _), Int.mul_emod_left]
theorem shlT_ok {r : Int} {m : Nat} (hm : m ≤ 63) (hr : InR r) : InR (wrap (2 ^ 64 - 1 - (2 ^ (64 - m) - 1))) ∧ InR (wrap (r % 2 ^ 64 / 2 ^ m)) ∧ bAnd (wrap (r % 2 ^ 64 / 2 ^ m)) (wrap (2 ^ 64 - 1 - (2 ^ (64 - m) - 1))) = 0 := by
  refine ⟨wrap_in _, wrap_in _, ?_⟩
  cases m with
  | zero =>
    rw [show (64 - 0 : Nat) = 64 from rfl, show wrap (2 ^ 64 - 1 - (2 ^ 64 - 1)) = 0 by decide, and_zero]
  | succ m =>
    have e64 : (2 : Int) ^ 64 = 2 ^ (64 - (m + 1)) * 2 ^ (m + 1) := by rw [← Int.pow_add]; congr 1; omega
    have hp := p2 (m + 1)
    have hq := p2 (64 - (m + 1))
    have b1 : (2 : Int) ^ (64 - (m + 1)) ≤ 2 ^ 63 := by
      have : (2 : Int) ^ 63 = 2 ^ (64 - (m + 1)) * 2 ^ m := by rw [← Int.pow_add]; congr 1; omega
      rw [this]
      have := p2 m
      exact le_mulr (by omega) (by omega)
    have hn : 0 ≤ r % 2 ^ 64 / 2 ^ (m + 1) := Int.ediv_nonneg (by omega) (by omega)
    have hl : r % 2 ^ 64 / 2 ^ (m + 1) < 2 ^ (64 - (m + 1)) := Int.ediv_lt_of_lt_mul hp (by rw [← e64]; omega)
    have e1 : wrap (2 ^ 64 - 1 - (2 ^ (64 - (m + 1)) - 1)) = bNot (2 ^ (64 - (m + 1)) - 1) := by
      show _ = -((2 : Int) ^ (64 - (m + 1)) - 1) - 1
      unfold wrap
      generalize (2 : Int) ^ (64 - (m + 1)) = q at *
      omega
    have e2 : wrap (r % 2 ^ 64 / 2 ^ (m + 1)) = bAnd (r % 2 ^ 64 / 2 ^ (m + 1)) (2 ^ (64 - (m + 1)) - 1) := by
      rw [and_mask, Int.emod_eq_of_lt hn hl, wrap_id]
      unfold InR
      omega
    rw [e1, e2, and_sol]
/-- x >> k, unsigned -/
theorem shr_sol {x r : Int} {k : Nat} (h1 : 1 ≤ k) (h2 : k ≤ 63) (hr : InR r) (hx : InR x) (h : r % 2 ^ 64 / 2 ^ (64 - k) = 0) :
    bAnd x (bNot (wrap (2 ^ 64 - 1 - (2 ^ 64 - 2 ^ k)))) = wrap (r % 2 ^ 64 * 2 ^ k) ↔ wrap (x % 2 ^ 64 / 2 ^ k) = r := by
  have hp := p2 k
  have hq := p2 (64 - k)
  have e64 : (2 : Int) ^ 64 = 2 ^ (64 - k) * 2 ^ k := by rw [← Int.pow_add]; congr 1; omega
  have e63 : (2 : Int) ^ 63 = 2 ^ (63 - k) * 2 ^ k := by rw [← Int.pow_add]; congr 1; omega
  have b1 : (2 : Int) ^ (64 - k) ≤ 2 ^ 63 := by
    obtain ⟨j, rfl⟩ : ∃ j, k = j + 1 := ⟨k - 1, by omega⟩
    have : (2 : Int) ^ 63 = 2 ^ (64 - (j + 1)) * 2 ^ j := by rw [← Int.pow_add]; congr 1; omega
    rw [this]
    have := p2 j
    exact le_mulr (by omega) (by omega)
  have b2 : (2 : Int) ^ k ≤ 2 ^ 63 := by
    rw [e63]
    have := p2 (63 - k)
    exact le_mull (by omega) (by omega)
  have e1 : wrap (2 ^ 64 - 1 - (2 ^ 64 - 2 ^ k)) = 2 ^ k - 1 := by
    unfold wrap
    generalize (2 : Int) ^ k = q at *
    omega
  rw [e1, and_nmask]
  have ht : r % 2 ^ 64 < 2 ^ (64 - k) := by
    have := Int.emod_add_mul_ediv (r % 2 ^ 64) (2 ^ (64 - k))
    rw [h, Int.mul_zero] at this
    have := Int.emod_lt_of_pos (r % 2 ^ 64) hq
    omega
  have rr : r = r % 2 ^ 64 := by unfold InR at hr; omega
  -- X = x % 2 ^ 64
  have hX0 : 0 ≤ x % 2 ^ 64 := by omega
  have hX1 : x % 2 ^ 64 < 2 ^ 64 := by omega
  have hv0 : 0 ≤ x % 2 ^ 64 / 2 ^ k := Int.ediv_nonneg hX0 (by omega)
  have hv1 : x % 2 ^ 64 / 2 ^ k < 2 ^ (64 - k) := Int.ediv_lt_of_lt_mul hp (by rw [← e64]; exact hX1)
  rw [wrap_id (show InR (x % 2 ^ 64 / 2 ^ k) by unfold InR; omega)]
  have hmm : x % 2 ^ 64 % 2 ^ k = x % 2 ^ k := by rw [e64]; exact Int.emod_emod_of_dvd _ (Int.dvd_mul_left _ _)
  have hdiv := Int.emod_add_mul_ediv (x % 2 ^ 64) (2 ^ k)
  have m0 := Int.emod_nonneg x (show (2 : Int) ^ k ≠ 0 by omega)
  have m1 := Int.emod_lt_of_pos x hp
  -- x - x % 2 ^ k is one of 64 bits
  have hl : -9223372036854775808 ≤ x - x % 2 ^ k := by
    have d1 := Int.emod_add_mul_ediv x (2 ^ k)
    have : (-(2 ^ (63 - k)) : Int) ≤ x / 2 ^ k := by
      rw [Int.le_ediv_iff_mul_le hp]
      unfold InR at hx
      have : (-(2 : Int) ^ (63 - k)) * 2 ^ k = -(2 ^ 63) := by rw [e63, Int.neg_mul]
      omega
    have h3 : (-(2 : Int) ^ (63 - k)) * 2 ^ k ≤ x / 2 ^ k * 2 ^ k := Int.mul_le_mul_of_nonneg_right this (by omega)
    rw [Int.neg_mul, ← e63] at h3
    rw [Int.mul_comm] at d1
    omega
  have hin : InR (x - x % 2 ^ k) := by unfold InR at *; omega
  have flip : x - x % 2 ^ k = wrap (r % 2 ^ 64 * 2 ^ k) ↔ (x - x % 2 ^ k) % 2 ^ 64 = r % 2 ^ 64 * 2 ^ k % 2 ^ 64 := by
    constructor
    · intro z
      exact ((wrap_eq hin).mp z.symm).symm
    · intro z
      exact ((wrap_eq hin).mpr z.symm).symm
  rw [flip]
  have l1 : r % 2 ^ 64 * 2 ^ k < 2 ^ 64 := by
    rw [e64]
    exact Int.mul_lt_mul_of_pos_right (by rw [← e64]; exact ht) hp
  have l0 : 0 ≤ r % 2 ^ 64 * 2 ^ k := Int.mul_nonneg (by omega) (by omega)
  rw [Int.emod_eq_of_lt l0 l1]
  have lhs : (x - x % 2 ^ k) % 2 ^ 64 = x % 2 ^ 64 / 2 ^ k * 2 ^ k := by
    rw [Int.mul_comm] at hdiv
    rw [hmm] at hdiv
    have g0 : 0 ≤ x % 2 ^ 64 / 2 ^ k * 2 ^ k := Int.mul_nonneg hv0 (by omega)
    generalize x % 2 ^ 64 / 2 ^ k * 2 ^ k = g at *
    generalize x % 2 ^ k = m at *
    omega
  rw [lhs]
  constructor
  · intro z
    rw [rr]
    exact Int.eq_of_mul_eq_mul_right (by omega) z
  · intro z
    rw [z, ← rr]
theorem shr_none {x r : Int} {k : Nat} (h1 : 1 ≤ k) (h2 : k ≤ 63) (hr : InR r) (h : ¬ r % 2 ^ 64 / 2 ^ (64 - k) = 0) : ¬ wrap (x % 2 ^ 64 / 2 ^ k) = r := by
  have hp := p2 k
  have hq := p2 (64 - k)
  have e64 : (2 : Int) ^ 64 = 2 ^ (64 - k) * 2 ^ k := by rw [← Int.pow_add]; congr 1; omega
  have b1 : (2 : Int) ^ (64 - k) ≤ 2 ^ 63 := by
    obtain ⟨j, rfl⟩ : ∃ j, k = j + 1 := ⟨k - 1, by omega⟩
    have : (2 : Int) ^ 63 = 2 ^ (64 - (j + 1)) * 2 ^ j := by rw [← Int.pow_add]; congr 1; omega
    rw [this]
    have := p2 j
    exact le_mulr (by omega) (by omega)
  have hv0 : 0 ≤ x % 2 ^ 64 / 2 ^ k := Int.ediv_nonneg (by omega) (by omega)
  have hv1 : x % 2 ^ 64 / 2 ^ k < 2 ^ (64 - k) := Int.ediv_lt_of_lt_mul hp (by rw [← e64]; omega)
  rw [wrap_id (show InR (x % 2 ^ 64 / 2 ^ k) by unfold InR; omega)]
  rintro rfl
  apply h
  generalize x % 2 ^ 64 / 2 ^ k = v at *
  rw [show v % 2 ^ 64 = v by omega]
  exact Int.ediv_eq_zero_of_lt hv0 hv1
theorem shrT_ok {r : Int} {k : Nat} (h1 : 1 ≤ k) (h2 : k ≤ 63) (hr : InR r) : InR (wrap (2 ^ 64 - 1 - (2 ^ 64 - 2 ^ k))) ∧ InR (wrap (r % 2 ^ 64 * 2 ^ k)) ∧ bAnd (wrap (r % 2 ^ 64 * 2 ^ k)) (wrap (2 ^ 64 - 1 - (2 ^ 64 - 2 ^ k))) = 0 := by
  refine ⟨wrap_in _, wrap_in _, ?_⟩
  have hp := p2 k
  have e64 : (2 : Int) ^ 64 = 2 ^ (64 - k) * 2 ^ k := by rw [← Int.pow_add]; congr 1; omega
  have e63 : (2 : Int) ^ 63 = 2 ^ (63 - k) * 2 ^ k := by rw [← Int.pow_add]; congr 1; omega
  have b2 : (2 : Int) ^ k ≤ 2 ^ 63 := by
    rw [e63]
    have := p2 (63 - k)
    exact le_mull (by omega) (by omega)
  have e1 : wrap (2 ^ 64 - 1 - (2 ^ 64 - 2 ^ k)) = 2 ^ k - 1 := by
    unfold wrap
    generalize (2 : Int) ^ k = q at *
    omega
  rw [e1, and_mask]
  have e2 : wrap (r % 2 ^ 64 * 2 ^ k) % 2 ^ k = wrap (r % 2 ^ 64 * 2 ^ k) % 2 ^ 64 % 2 ^ k := by
    rw [e64]
    exact (Int.emod_emod_of_dvd _ (Int.dvd_mul_left _ _)).symm
  rw [e2, wrap_mod]
  conv => lhs; rw [e64]
  rw [Int.emod_emod_of_dvd _ (Int.dvd_mul_left _ _), Int.mul_emod_left]
end K94

set_option Elab.async false
set_option linter.all false
set_option maxRecDepth 100000
set_option maxHeartbeats 4000000
namespace K94
open PySem PySem.W PyProof.Rows
/-- integers that are told -/
inductive Tl where
  | non
  | row (f s m : Int)
  | bits (b fr : Int)
def memT : Tl → Int → Prop
  | .non, _ => False
  | .row f s m, x => f ≤ x ∧ x ≤ f + s * (m - 1) ∧ (x - f) % s = 0
  | .bits b fr, x => bAnd x (bNot fr) = b
def OkT : Tl → Prop
  | .non => True
  | .row f s m => InR f ∧ 1 ≤ s ∧ s ≤ 18446744073709551616 ∧ 1 ≤ m ∧ m ≤ 18446744073709551616 ∧ f + s * (m - 1) ≤ 9223372036854775807
  | .bits b fr => InR b ∧ InR fr ∧ bAnd b fr = 0
def rowT (f s m : Int) : Tl := if 0 < m then .row f (if 1 < m then s else 1) m else .non
def bitsT (x m : Int) : Tl := .bits (wrap x) (wrap m)
def spanT (lo hi : Int) : Tl :=
  rowT (if -9223372036854775808 > lo then -9223372036854775808 else lo) 1 ((if 9223372036854775807 < hi then 9223372036854775807 else hi) - (if -9223372036854775808 > lo then -9223372036854775808 else lo) + 1)
theorem row_mem {f s m x : Int} : memT (rowT f s m) x ↔ 0 < m ∧ f ≤ x ∧ x ≤ f + s * (m - 1) ∧ (x - f) % s = 0 := by
  unfold rowT
  by_cases h : 0 < m
  · rw [if_pos h]
    by_cases h1 : 1 < m
    · rw [if_pos h1]
      exact ⟨fun z => ⟨h, z⟩, fun z => z.2⟩
    · rw [if_neg h1]
      have e : m = 1 := by omega
      subst e
      show (f ≤ x ∧ x ≤ f + 1 * (1 - 1) ∧ (x - f) % 1 = 0) ↔ _
      rw [show (1 : Int) - 1 = 0 from rfl, Int.mul_zero, Int.mul_zero]
      constructor
      · intro ⟨a, b, _⟩
        have : x - f = 0 := by omega
        exact ⟨by omega, a, b, by rw [this, Int.zero_emod]⟩
      · intro ⟨_, a, b, _⟩
        exact ⟨a, b, by omega⟩
  · rw [if_neg h]
    exact ⟨fun z => z.elim, fun z => h z.1⟩
theorem row_ok {f s m : Int} (hf : InR f) (hs : 1 ≤ s) (hs2 : s ≤ 18446744073709551616) (hm : m ≤ 18446744073709551616) (hl : 0 < m → f + s * (m - 1) ≤ 9223372036854775807) : OkT (rowT f s m) := by
  unfold rowT
  by_cases h : 0 < m
  · rw [if_pos h]
    by_cases h1 : 1 < m
    · rw [if_pos h1]
      exact ⟨hf, hs, hs2, by omega, hm, hl h⟩
    · rw [if_neg h1]
      refine ⟨hf, by omega, by omega, by omega, hm, ?_⟩
      have : m = 1 := by omega
      subst this
      unfold InR at hf
      omega
  · rw [if_neg h]
    trivial
theorem one_mem {f x : Int} : memT (rowT f 1 1) x ↔ x = f := by
  rw [row_mem]
  omega
theorem one_ok {f : Int} (h : InR f) : OkT (rowT f 1 1) := row_ok h (by omega) (by omega) (by omega) fun _ => by unfold InR at h; omega
theorem span_mem {lo hi x : Int} (hx : InR x) : memT (spanT lo hi) x ↔ lo ≤ x ∧ x ≤ hi := by
  unfold spanT
  rw [row_mem]
  unfold InR at hx
  split <;> split <;> omega
theorem span_ok (lo hi : Int) : OkT (spanT lo hi) := by
  unfold spanT
  generalize hl : (if -9223372036854775808 > lo then -9223372036854775808 else lo) = l
  generalize hh : (if 9223372036854775807 < hi then 9223372036854775807 else hi) = h
  have h1 : -9223372036854775808 ≤ l := by split at hl <;> omega
  have h2 : h ≤ 9223372036854775807 := by split at hh <;> omega
  by_cases c : 0 < h - l + 1
  · refine row_ok ?_ (by omega) (by omega) (by omega) fun _ => by omega
    unfold InR
    omega
  · unfold rowT
    rw [if_neg c]
    trivial
/-! ### floor -/
def floorT (o r : Int) : Tl := if o = 0 then .non else if o = -1 then rowT (wrap (0 - r)) 1 1 else if 0 < o then spanT (r * o) (r * o + o - 1) else spanT ((r + 1) * o + 1) (r * o)
theorem fdiv_neg' (x o : Int) : x.fdiv o = (-x).fdiv (-o) := by rw [Int.neg_fdiv_neg]
theorem floor_sol {x o r : Int} (hx : InR x) (ho : InR o) (hr : InR r) (h0 : o ≠ 0) : memT (floorT o r) x ↔ wrap (x.fdiv o) = r := by
  unfold floorT
  rw [if_neg h0]
  by_cases h1 : o = -1
  · rw [if_pos h1, one_mem, h1, fdiv_neg', show - -1 = (1 : Int) from rfl, Int.fdiv_one]
    unfold InR at *
    unfold wrap
    omega
  · rw [if_neg h1]
    by_cases h2 : 0 < o
    · rw [if_pos h2, span_mem hx, Int.fdiv_eq_ediv_of_nonneg x (by omega)]
      have a := Int.emod_add_mul_ediv x o
      have b := Int.emod_nonneg x h0
      have c := Int.emod_lt_of_pos x h2
      have hd : InR (x / o) := by
        unfold InR at *
        refine ⟨?_, ?_⟩
        · rw [Int.le_ediv_iff_mul_le h2]
          have := Int.mul_le_mul_of_nonneg_left (show (1 : Int) ≤ o by omega) (show (0 : Int) ≤ 9223372036854775808 by omega)
          have e : -9223372036854775808 * o = -(9223372036854775808 * o) := Int.neg_mul ..
          omega
        · have : x / o < 9223372036854775808 := by
            rw [Int.ediv_lt_iff_lt_mul h2]
            have := Int.mul_le_mul_of_nonneg_left (show (1 : Int) ≤ o by omega) (show (0 : Int) ≤ 9223372036854775808 by omega)
            omega
          omega
      rw [wrap_id hd]
      constructor
      · intro ⟨p, q⟩
        refine Int.le_antisymm ?_ ?_
        · have : x / o < r + 1 := by
            rw [Int.ediv_lt_iff_lt_mul h2, Int.add_mul, Int.one_mul]
            omega
          omega
        · rw [Int.le_ediv_iff_mul_le h2]
          exact p
      · rintro rfl
        rw [Int.mul_comm] at a
        omega
    · rw [if_neg h2, span_mem hx, fdiv_neg' x o]
      have h3 : 0 < -o := by omega
      rw [Int.fdiv_eq_ediv_of_nonneg (-x) (by omega)]
      have a := Int.emod_add_mul_ediv (-x) (-o)
      have b := Int.emod_nonneg (-x) (show -o ≠ 0 by omega)
      have c := Int.emod_lt_of_pos (-x) h3
      have hd : InR (-x / -o) := by
        unfold InR at *
        refine ⟨?_, ?_⟩
        · rw [Int.le_ediv_iff_mul_le h3]
          have := Int.mul_le_mul_of_nonneg_left (show (1 : Int) ≤ -o by omega) (show (0 : Int) ≤ 9223372036854775808 by omega)
          have e : -9223372036854775808 * -o = -(9223372036854775808 * -o) := Int.neg_mul ..
          omega
        · have : -x / -o < 9223372036854775808 := by
            rw [Int.ediv_lt_iff_lt_mul h3]
            have := Int.mul_le_mul_of_nonneg_left (show (2 : Int) ≤ -o by omega) (show (0 : Int) ≤ 9223372036854775808 by omega)
            omega
          omega
      rw [wrap_id hd]
      have e1 : (r + 1) * o = r * o + o := by rw [Int.add_mul, Int.one_mul]
      have e2 : r * -o = -(r * o) := Int.mul_neg ..
      constructor
      · intro ⟨p, q⟩
        refine Int.le_antisymm ?_ ?_
        · have : -x / -o < r + 1 := by
            rw [Int.ediv_lt_iff_lt_mul h3, Int.add_mul, Int.one_mul]
            omega
          omega
        · rw [Int.le_ediv_iff_mul_le h3]
          omega
      · intro z
        have e3 : -o * r = -(r * o) := by rw [Int.mul_comm, Int.mul_neg]
        rw [z, e3] at a
        omega
theorem floor_ok (o r : Int) : OkT (floorT o r) := by
  unfold floorT
  split
  · trivial
  · split
    · exact one_ok (wrap_in _)
    · split
      · exact span_ok _ _
      · exact span_ok _ _
/-! ### mod -/
def iabs (n : Int) : Int := if n < 0 then -n else n
def modT (o r : Int) : Tl :=
  if o = 0 ∨ (r ≠ 0 ∧ decide (r < 0) ≠ decide (o < 0)) ∨ iabs o ≤ iabs r then .non
  else rowT (-9223372036854775808 + (r - -9223372036854775808) % iabs o) (iabs o) ((9223372036854775807 - (-9223372036854775808 + (r - -9223372036854775808) % iabs o)) / iabs o + 1)
theorem iabs_pos {o : Int} (h : o ≠ 0) : 0 < iabs o := by unfold iabs; split <;> omega
theorem emod_abs (x o : Int) : x % iabs o = x % o := by
  unfold iabs
  split
  · exact Int.emod_neg ..
  · rfl
/-- what is left behind o is r just if r is in o's range and x goes to r by steps of o -/
theorem fmod_iff {x o r : Int} (h0 : o ≠ 0) : x.fmod o = r ↔ (¬ (r ≠ 0 ∧ decide (r < 0) ≠ decide (o < 0)) ∧ iabs r < iabs o) ∧ (x - r) % iabs o = 0 := by
  rw [emod_abs]
  have hd : ∀ y : Int, y % o = 0 ↔ ∃ q, y = o * q := fun y => by
    rw [← Int.dvd_iff_emod_eq_zero]
    exact Iff.rfl
  have hdef := Int.fmod_def x o
  have hb : (0 < o → 0 ≤ x.fmod o ∧ x.fmod o < o) ∧ (o < 0 → o < x.fmod o ∧ x.fmod o ≤ 0) := by
    constructor
    · intro h
      exact ⟨Int.fmod_nonneg_of_pos x h, Int.fmod_lt_of_pos x h⟩
    · intro h
      have a := Int.fmod_nonneg_of_pos (-x) (show 0 < -o by omega)
      have b := Int.fmod_lt_of_pos (-x) (show 0 < -o by omega)
      have e : (-x).fmod (-o) = -(x.fmod o) := by
        rw [Int.fmod_def, Int.fmod_def, Int.neg_fdiv_neg, Int.neg_mul]
        omega
      omega
  constructor
  · intro e
    rw [e] at hb
    refine ⟨?_, (hd _).mpr ⟨x.fdiv o, by omega⟩⟩
    have h2 : 0 < o ∨ o < 0 := by omega
    unfold iabs
    rcases h2 with h2 | h2
    · have := hb.1 h2
      have n1 : ¬ r < 0 := by omega
      have n2 : ¬ o < 0 := by omega
      rw [if_neg n1, if_neg n2]
      refine ⟨fun z => ?_, by omega⟩
      rw [decide_eq_false n1, decide_eq_false n2] at z
      exact z.2 rfl
    · have := hb.2 h2
      rw [if_pos h2]
      refine ⟨fun z => ?_, by split <;> omega⟩
      have n1 : r < 0 := by omega
      rw [decide_eq_true n1, decide_eq_true h2] at z
      exact z.2 rfl
  · intro ⟨⟨z1, z2⟩, z3⟩
    obtain ⟨q, hq⟩ := (hd _).mp z3
    -- both lie in o's range, and part by a multiple of o
    have key : x.fmod o - r = o * (q - x.fdiv o) := by rw [Int.mul_sub]; omega
    have hz : q - x.fdiv o = 0 := by
      generalize q - x.fdiv o = d at *
      have h2 : 0 < o ∨ o < 0 := by omega
      have lo : ∀ {a b : Int}, 0 < a → 1 ≤ b → a ≤ a * b := fun ha hb => le_mulr (by omega) hb
      rcases h2 with h2 | h2
      · have b1 := hb.1 h2
        have n2 : ¬ o < 0 := by omega
        have r0 : 0 ≤ r ∧ r < o := by
          unfold iabs at z2
          rw [if_neg n2] at z2
          by_cases n1 : r < 0
          · exact absurd ⟨by omega, by rw [decide_eq_true n1, decide_eq_false n2]; decide⟩ z1
          · rw [if_neg n1] at z2
            omega
        by_cases d1 : 1 ≤ d
        · have := lo h2 d1
          omega
        · by_cases d2 : 1 ≤ -d
          · have := lo h2 d2
            rw [Int.mul_neg] at this
            omega
          · omega
      · have b1 := hb.2 h2
        have r0 : r ≤ 0 ∧ o < r := by
          unfold iabs at z2
          rw [if_pos h2] at z2
          by_cases n1 : r < 0
          · rw [if_pos n1] at z2
            omega
          · by_cases n3 : r = 0
            · omega
            · exact absurd ⟨n3, by rw [decide_eq_false n1, decide_eq_true h2]; decide⟩ z1
        by_cases d1 : 1 ≤ d
        · have := lo (show 0 < -o by omega) d1
          rw [Int.neg_mul] at this
          omega
        · by_cases d2 : 1 ≤ -d
          · have := lo (show 0 < -o by omega) d2
            rw [Int.neg_mul_neg] at this
            omega
          · omega
    rw [hz, Int.mul_zero] at key
    omega
theorem mod_sol {x o r : Int} (hx : InR x) (ho : InR o) (h0 : o ≠ 0) : memT (modT o r) x ↔ x.fmod o = r := by
  rw [fmod_iff h0]
  unfold modT
  by_cases c : (r ≠ 0 ∧ decide (r < 0) ≠ decide (o < 0)) ∨ iabs o ≤ iabs r
  · rw [if_pos (.inr c)]
    refine ⟨fun z => z.elim, fun ⟨⟨a, b⟩, _⟩ => ?_⟩
    rcases c with c | c
    · exact (a c).elim
    · exact absurd b (by omega)
  · rw [if_neg (by
      intro z
      rcases z with z | z
      · exact h0 z
      · exact c z), row_mem]
    have p := iabs_pos h0
    have ple : iabs o ≤ 9223372036854775808 := by unfold iabs InR at *; split <;> omega
    have c' : ¬ (r ≠ 0 ∧ decide (r < 0) ≠ decide (o < 0)) ∧ iabs r < iabs o := by
      refine ⟨fun z => c (.inl z), ?_⟩
      by_cases q : iabs o ≤ iabs r
      · exact absurd (.inr q) c
      · omega
    generalize iabs o = s at *
    have e1 := Int.emod_nonneg (r - -9223372036854775808) (show s ≠ 0 by omega)
    have e2 := Int.emod_lt_of_pos (r - -9223372036854775808) p
    have e3 := Int.emod_add_mul_ediv (r - -9223372036854775808) s
    generalize hf : (r - -9223372036854775808) % s = f at *
    generalize (r - -9223372036854775808) / s = g at *
    have d1 := Int.emod_add_mul_ediv (9223372036854775807 - (-9223372036854775808 + f)) s
    have d2 := Int.emod_nonneg (9223372036854775807 - (-9223372036854775808 + f)) (show s ≠ 0 by omega)
    have d3 := Int.emod_lt_of_pos (9223372036854775807 - (-9223372036854775808 + f)) p
    have d4 : 0 ≤ (9223372036854775807 - (-9223372036854775808 + f)) / s := Int.ediv_nonneg (by omega) (by omega)
    generalize (9223372036854775807 - (-9223372036854775808 + f)) / s = k at *
    -- x - first and x - r are multiples of s together
    have same : (x - (-9223372036854775808 + f)) % s = 0 ↔ (x - r) % s = 0 := by
      have e : x - r = x - (-9223372036854775808 + f) + s * (-g) := by rw [Int.mul_neg]; omega
      rw [e, Int.add_mul_emod_self_left]
    rw [same, show k + 1 - 1 = k by omega]
    constructor
    · intro ⟨_, _, _, z⟩
      exact ⟨c', z⟩
    · intro ⟨_, z⟩
      refine ⟨by omega, ?_, ?_, z⟩
      · -- x is at or above the first one
        have z2 := same.mpr z
        have a := Int.emod_add_mul_ediv (x - (-9223372036854775808 + f)) s
        rw [z2] at a
        generalize (x - (-9223372036854775808 + f)) / s = j at *
        by_cases hj : 0 ≤ j
        · have := Int.mul_nonneg (show 0 ≤ s by omega) hj
          omega
        · have := le_mulr (show 0 ≤ s by omega) (show 1 ≤ -j by omega)
          rw [Int.mul_neg] at this
          unfold InR at hx
          omega
      · have z2 := same.mpr z
        have a := Int.emod_add_mul_ediv (x - (-9223372036854775808 + f)) s
        rw [z2] at a
        generalize (x - (-9223372036854775808 + f)) / s = j at *
        by_cases hj : j ≤ k
        · have := Int.mul_le_mul_of_nonneg_left hj (show 0 ≤ s by omega)
          omega
        · have := Int.mul_le_mul_of_nonneg_left (show k + 1 ≤ j by omega) (show 0 ≤ s by omega)
          rw [Int.mul_add, Int.mul_one] at this
          unfold InR at hx
          omega
theorem mod_ok {o r : Int} (ho : InR o) : OkT (modT o r) := by
  unfold modT
  split
  · trivial
  · rename_i h
    have h0 : o ≠ 0 := fun z => h (.inl z)
    have p := iabs_pos h0
    have ple : iabs o ≤ 9223372036854775808 := by unfold iabs InR at *; split <;> omega
    generalize iabs o = s at *
    have e1 := Int.emod_nonneg (r - -9223372036854775808) (show s ≠ 0 by omega)
    have e2 := Int.emod_lt_of_pos (r - -9223372036854775808) p
    generalize (r - -9223372036854775808) % s = f at *
    have d1 := Int.emod_add_mul_ediv (9223372036854775807 - (-9223372036854775808 + f)) s
    have d2 := Int.emod_nonneg (9223372036854775807 - (-9223372036854775808 + f)) (show s ≠ 0 by omega)
    have d4 : 0 ≤ (9223372036854775807 - (-9223372036854775808 + f)) / s := Int.ediv_nonneg (by omega) (by omega)
    generalize (9223372036854775807 - (-9223372036854775808 + f)) / s = k at *
    have := le_mull (b := k) d4 (show 1 ≤ s by omega)
    refine row_ok ?_ (by omega) (by omega) (by omega) fun _ => ?_
    · unfold InR
      omega
    · rw [show k + 1 - 1 = k by omega]
      omega
end K94

set_option Elab.async false
set_option linter.all false
set_option maxRecDepth 100000
set_option maxHeartbeats 4000000
namespace K94
open PySem PySem.W PyProof.Rows
/-! ### what an odd number has to be times to be 1 -/
def invN (n : Int) : Nat → Int
  | 0 => n
  | k + 1 => invN n k * (2 - n * invN n k) % 18446744073709551616
theorem inv_range {n : Int} (h0 : 0 ≤ n) (h1 : n < 18446744073709551616) : ∀ k, 0 ≤ invN n k ∧ invN n k < 18446744073709551616
  | 0 => ⟨h0, h1⟩
  | k + 1 => ⟨Int.emod_nonneg _ (by decide), Int.emod_lt_of_pos _ (by decide)⟩
theorem pow_dvd {a b : Nat} (h : a ≤ b) : (2 : Int) ^ a ∣ 2 ^ b := by
  refine ⟨2 ^ (b - a), ?_⟩
  rw [← Int.pow_add]
  congr 1
  omega
theorem inv_step {n x : Int} {a b : Nat} (hb : b ≤ 2 * a) (h64 : b ≤ 64) (h : (2 : Int) ^ a ∣ 1 - n * x) : (2 : Int) ^ b ∣ 1 - n * (x * (2 - n * x) % 18446744073709551616) := by
  have hd := Int.emod_add_mul_ediv (x * (2 - n * x)) 18446744073709551616
  generalize x * (2 - n * x) / 18446744073709551616 = q at hd
  have e : x * (2 - n * x) % 18446744073709551616 = x * (2 - n * x) - 18446744073709551616 * q := by omega
  rw [e]
  have e2 : 1 - n * (x * (2 - n * x) - 18446744073709551616 * q) = (1 - n * x) * (1 - n * x) + 18446744073709551616 * (n * q) := by
    rw [Int.mul_sub, Int.mul_left_comm n 18446744073709551616 q, ← Int.mul_assoc n x]
    generalize n * x = y
    rw [Int.sub_mul, Int.mul_sub, Int.mul_sub, Int.mul_sub]
    omega
  rw [e2]
  refine Int.dvd_add ?_ ?_
  · refine Int.dvd_trans (pow_dvd hb) ?_
    rw [Nat.two_mul, Int.pow_add]
    exact Int.mul_dvd_mul h h
  · refine Int.dvd_trans (pow_dvd h64) ?_
    exact ⟨n * q, by rw [show (2 : Int) ^ 64 = 18446744073709551616 from rfl]⟩
theorem inv_ok {n : Int} (h : n % 2 = 1) : (18446744073709551616 : Int) ∣ 1 - n * invN n 6 := by
  have s0 : (2 : Int) ^ 3 ∣ 1 - n * invN n 0 := by
    show (8 : Int) ∣ 1 - n * n
    rw [Int.dvd_iff_emod_eq_zero]
    have e : n * n % 8 = (n % 8) * (n % 8) % 8 := Int.mul_emod ..
    have c : n % 8 = 1 ∨ n % 8 = 3 ∨ n % 8 = 5 ∨ n % 8 = 7 := by omega
    rcases c with c | c | c | c <;> rw [c] at e <;> omega
  have s1 := inv_step (b := 6) (by decide) (by decide) s0
  have s2 := inv_step (b := 12) (by decide) (by decide) s1
  have s3 := inv_step (b := 24) (by decide) (by decide) s2
  have s4 := inv_step (b := 48) (by decide) (by decide) s3
  have s5 := inv_step (b := 64) (by decide) (by decide) s4
  have s6 := inv_step (b := 64) (by decide) (by decide) s5
  exact s6
/-! ### mul -/
/-- twos: how many times 2 divides o -/
def mulT (t : Nat) (o r : Int) : Tl :=
  if o = 0 then (if r = 0 then bitsT 0 18446744073709551615 else .non) else
  if ¬ r % 2 ^ t = 0 then .non else
  rowT (if -9223372036854775808 ≤ r / 2 ^ t * invN (o / 2 ^ t % 18446744073709551616) 6 % (18446744073709551616 / 2 ^ t) + -9223372036854775808 / (18446744073709551616 / 2 ^ t) * (18446744073709551616 / 2 ^ t)
        then r / 2 ^ t * invN (o / 2 ^ t % 18446744073709551616) 6 % (18446744073709551616 / 2 ^ t) + -9223372036854775808 / (18446744073709551616 / 2 ^ t) * (18446744073709551616 / 2 ^ t)
        else r / 2 ^ t * invN (o / 2 ^ t % 18446744073709551616) 6 % (18446744073709551616 / 2 ^ t) + -9223372036854775808 / (18446744073709551616 / 2 ^ t) * (18446744073709551616 / 2 ^ t) + 18446744073709551616 / 2 ^ t)
    (18446744073709551616 / 2 ^ t) (2 ^ t)
/-- an int but 0 is an odd one times a power of two -/
theorem odd_part : ∀ (n : Nat) (o : Int), o ≠ 0 → o.natAbs ≤ n → ∃ (t : Nat) (u : Int), o = 2 ^ t * (2 * u + 1)
  | 0, o, h0, h => absurd h (by omega)
  | n + 1, o, h0, h => by
    by_cases c : o % 2 = 1
    · exact ⟨0, o / 2, by rw [Int.pow_zero, Int.one_mul]; omega⟩
    · obtain ⟨t, u, e⟩ := odd_part n (o / 2) (by omega) (by omega)
      refine ⟨t + 1, u, ?_⟩
      rw [Int.pow_succ, Int.mul_comm (2 ^ t) 2, Int.mul_assoc, ← e]
      omega
theorem twos {o : Int} (h0 : o ≠ 0) (ho : InR o) : ∃ (t : Nat) (u : Int), t ≤ 63 ∧ o = 2 ^ t * (2 * u + 1) ∧ bAnd o (0 - o) = 2 ^ t ∧ (Builtin.Int.intBits (bAnd o (0 - o)) : Int) - 1 = t := by
  obtain ⟨t, u, e⟩ := odd_part _ o h0 (Nat.le_refl _)
  have ht : t ≤ 63 := by
    by_cases c : t ≤ 63
    · exact c
    · exfalso
      have e2 : (2 : Int) ^ t = 18446744073709551616 * 2 ^ (t - 64) := by
        rw [show (18446744073709551616 : Int) = 2 ^ 64 from rfl, ← Int.pow_add]
        congr 1
        omega
      have p := p2 (t - 64)
      rw [e2, Int.mul_assoc] at e
      have hne : 2 ^ (t - 64) * (2 * u + 1) ≠ 0 := by
        intro z
        rw [z] at e
        exact h0 (by omega)
      unfold InR at ho
      omega
  have hand : bAnd o (0 - o) = 2 ^ t := by
    rw [e, Int.zero_sub]
    exact kbt_low t u
  refine ⟨t, u, ht, e, hand, ?_⟩
  rw [hand]
  have hb : Builtin.Int.intBits (2 ^ t) = t + 1 := by
    unfold Builtin.Int.intBits
    have p := p2 t
    rw [if_neg (by simp; omega)]
    rw [← kbt_cast t, Int.natAbs_natCast, Nat.log2_two_pow]
  rw [hb]
  omega
theorem mul_sol {x o r u : Int} {t : Nat} (hx : InR x) (ho : InR o) (hr : InR r) (ht : t ≤ 63) (h0 : o ≠ 0) (e : o = 2 ^ t * (2 * u + 1)) : OkT (mulT t o r) ∧ (memT (mulT t o r) x ↔ wrap (x * o) = r) := by
  have hp := p2 t
  have hq := p2 (64 - t)
  have e64 : (18446744073709551616 : Int) = 2 ^ (64 - t) * 2 ^ t := by rw [show (18446744073709551616 : Int) = 2 ^ 64 from rfl, ← Int.pow_add]; congr 1; omega
  have es : (18446744073709551616 : Int) / 2 ^ t = 2 ^ (64 - t) := by
    conv => lhs; rw [e64]
    exact Int.mul_ediv_cancel _ (by omega)
  have eo : o / 2 ^ t = 2 * u + 1 := by rw [e]; exact Int.mul_ediv_cancel_left _ (by omega)
  unfold mulT
  rw [if_neg h0, es, eo]
  rw [wrap_eq hr]
  have lead : x * o = 2 ^ t * (x * (2 * u + 1)) := by rw [e, Int.mul_left_comm]
  have m64 : x * o % 2 ^ 64 = 2 ^ t * (x * (2 * u + 1) % 2 ^ (64 - t)) := by
    rw [show (2 : Int) ^ 64 = 2 ^ t * 2 ^ (64 - t) by rw [← Int.pow_add]; congr 1; omega, lead, Int.mul_emod_mul_of_pos _ _ hp]
  by_cases c : r % 2 ^ t = 0
  · rw [if_neg (fun z => z c)]
    -- r = 2 ^ t * g
    have er := Int.emod_add_mul_ediv r (2 ^ t)
    rw [c, Int.zero_add] at er
    generalize hg : r / 2 ^ t = g at *
    have r64 : r % 2 ^ 64 = 2 ^ t * (g % 2 ^ (64 - t)) := by
      rw [← er, show (2 : Int) ^ 64 = 2 ^ t * 2 ^ (64 - t) by rw [← Int.pow_add]; congr 1; omega, Int.mul_emod_mul_of_pos _ _ hp]
    have iff1 : x * o % 2 ^ 64 = r % 2 ^ 64 ↔ x * (2 * u + 1) % 2 ^ (64 - t) = g % 2 ^ (64 - t) := by
      rw [m64, r64]
      constructor
      · intro z
        exact Int.eq_of_mul_eq_mul_left (by omega) z
      · intro z
        rw [z]
    rw [iff1]
    -- the inverse
    have hodd : (2 * u + 1) % 18446744073709551616 % 2 = 1 := by omega
    have hi := inv_ok hodd
    generalize hv : invN ((2 * u + 1) % 18446744073709551616) 6 = v at *
    have hi2 : (2 : Int) ^ (64 - t) ∣ 1 - (2 * u + 1) * v := by
      have d1 : (2 : Int) ^ (64 - t) ∣ 18446744073709551616 := pow_dvd (b := 64) (by omega)
      have d2 := Int.dvd_trans d1 hi
      have dm := Int.emod_add_mul_ediv (2 * u + 1) 18446744073709551616
      have e3 : 1 - (2 * u + 1) * v = 1 - (2 * u + 1) % 18446744073709551616 * v - 18446744073709551616 * ((2 * u + 1) / 18446744073709551616 * v) := by
        conv => lhs; rw [← dm]
        rw [Int.add_mul, Int.mul_assoc]
        omega
      rw [e3]
      exact Int.dvd_sub d2 (Int.dvd_trans d1 ⟨_, rfl⟩)
    generalize hS : (2 : Int) ^ (64 - t) = S at *
    -- x goes to g just if x is g * v by steps of S
    have iff2 : x * (2 * u + 1) % S = g % S ↔ (x - g * v) % S = 0 := by
      have h3 : x * (2 * u + 1) % S = g % S ↔ S ∣ x * (2 * u + 1) - g := by
        rw [Int.emod_eq_emod_iff_emod_sub_eq_zero, ← Int.dvd_iff_emod_eq_zero]
      rw [h3, ← Int.dvd_iff_emod_eq_zero]
      constructor
      · intro d
        -- x - g v = v (x w - g) + x (1 - w v)
        have e4 : x - g * v = v * (x * (2 * u + 1) - g) + x * (1 - (2 * u + 1) * v) := by
          generalize 2 * u + 1 = w
          rw [Int.mul_sub, Int.mul_sub, Int.mul_one, Int.mul_comm v g, Int.mul_left_comm v x w, Int.mul_comm v w]
          omega
        rw [e4]
        exact Int.dvd_add (Int.dvd_mul_of_dvd_right d) (Int.dvd_mul_of_dvd_right hi2)
      · intro d
        have e4 : x * (2 * u + 1) - g = (2 * u + 1) * (x - g * v) + -g * (1 - (2 * u + 1) * v) := by
          generalize 2 * u + 1 = w
          rw [Int.mul_sub, Int.mul_sub, Int.mul_one, Int.mul_comm w x, Int.mul_left_comm w g v, Int.neg_mul]
          omega
        rw [e4]
        exact Int.dvd_add (Int.dvd_mul_of_dvd_right d) (Int.dvd_mul_of_dvd_right hi2)
    rw [iff2]
    have hSp : 0 < S := hq
    have l0 := Int.emod_nonneg (g * v) (show S ≠ 0 by omega)
    have l1 := Int.emod_lt_of_pos (g * v) hSp
    have lz := Int.emod_add_mul_ediv (g * v) S
    generalize g * v / S = z0 at lz
    generalize hL : g * v % S = L at *
    have same : ∀ y : Int, (y - g * v) % S = 0 ↔ (y - L) % S = 0 := fun y => by
      have e5 : y - L = y - g * v + S * z0 := by omega
      rw [e5, Int.add_mul_emod_self_left]
    rw [same, row_mem]
    by_cases tz : t = 0
    · subst tz
      have eS : S = 18446744073709551616 := by rw [← hS]; rfl
      subst eS
      rw [show (-9223372036854775808 : Int) / 18446744073709551616 * 18446744073709551616 = -18446744073709551616 by decide, show (2 : Int) ^ 0 = 1 from rfl]
      constructor
      · refine row_ok ?_ (by omega) (by omega) (by omega) fun _ => ?_
        · unfold InR
          split <;> omega
        · split <;> omega
      · unfold InR at hx
        split <;> omega
    · have e63 : (9223372036854775808 : Int) = S * 2 ^ (t - 1) := by
        rw [show (9223372036854775808 : Int) = 2 ^ 63 from rfl, ← hS, ← Int.pow_add]
        congr 1
        omega
      have eL : -9223372036854775808 / S * S = -9223372036854775808 := by
        have : (-9223372036854775808 : Int) = S * -(2 ^ (t - 1)) := by rw [Int.mul_neg, ← e63]
        rw [this, Int.mul_ediv_cancel_left _ (by omega), Int.mul_comm]
      rw [eL]
      have hf : -9223372036854775808 ≤ L + -9223372036854775808 := by omega
      rw [if_pos hf]
      have hS2 : S ≤ 9223372036854775808 := by
        rw [e63]
        exact le_mulr (by omega) (by have := p2 (t - 1); omega)
      have hend : S * (2 ^ t - 1) = 18446744073709551616 - S := by rw [Int.mul_sub, Int.mul_one, ← e64]
      have ht2 : (2 : Int) ^ t ≤ 18446744073709551616 := by
        rw [e64]
        exact le_mull (by omega) (by omega)
      refine ⟨row_ok ?_ (by omega) (by omega) ht2 fun _ => by omega, ?_⟩
      · unfold InR
        omega
      · have same2 : (x - (L + -9223372036854775808)) % S = 0 ↔ (x - L) % S = 0 := by
          have e6 : x - (L + -9223372036854775808) = x - L + S * 2 ^ (t - 1) := by rw [← e63]; omega
          rw [e6, Int.add_mul_emod_self_left]
        rw [same2, hend]
        constructor
        · intro ⟨_, _, _, z⟩
          exact z
        · intro z
          have z2 := same2.mpr z
          have a := Int.emod_add_mul_ediv (x - (L + -9223372036854775808)) S
          rw [z2] at a
          generalize (x - (L + -9223372036854775808)) / S = j at *
          have hj : 0 ≤ j := by
            by_cases c : 0 ≤ j
            · exact c
            · have := le_mulr (show 0 ≤ S by omega) (show 1 ≤ -j by omega)
              rw [Int.mul_neg] at this
              unfold InR at hx
              omega
          have hj2 : j ≤ 2 ^ t - 1 := by
            by_cases c : j ≤ 2 ^ t - 1
            · exact c
            · have := Int.mul_le_mul_of_nonneg_left (show (2 : Int) ^ t ≤ j by omega) (show 0 ≤ S by omega)
              rw [← e64] at this
              unfold InR at hx
              omega
          have := Int.mul_le_mul_of_nonneg_left hj2 (show 0 ≤ S by omega)
          have := Int.mul_nonneg (show 0 ≤ S by omega) hj
          exact ⟨by omega, by omega, by omega, z⟩
  · rw [if_pos c]
    refine ⟨trivial, fun z => z.elim, fun z => c ?_⟩
    have : r % 2 ^ t = r % 2 ^ 64 % 2 ^ t := by
      rw [show (2 : Int) ^ 64 = 2 ^ (64 - t) * 2 ^ t by rw [← Int.pow_add]; congr 1; omega]
      exact (Int.emod_emod_of_dvd _ (Int.dvd_mul_left _ _)).symm
    rw [this, ← z, m64, Int.mul_emod_right]
end K94

set_option Elab.async false
set_option linter.all false
set_option maxRecDepth 100000
set_option maxHeartbeats 4000000
namespace K94
open PySem PySem.W PyProof.Rows
/-! ### the words, what they lead to, what is told -/
inductive Wd where
  | add | sub | mul | floor | mod | band | bor | bxor | shl | shr
def shlM (x m : Int) : Int := if m ≤ -64 ∨ 64 ≤ m then 0 else if m < 0 then wrap (x % 18446744073709551616 / 2 ^ (0 - m).toNat) else wrap (x * 2 ^ m.toNat)
def arithM : Wd → Int → Int → Option Int
  | .add, x, o => some (wrap (x + o))
  | .sub, x, o => some (wrap (x - o))
  | .mul, x, o => some (wrap (x * o))
  | .floor, x, o => if o = 0 then none else some (wrap (x.fdiv o))
  | .mod, x, o => if o = 0 then none else some (x.fmod o)
  | .band, x, o => some (bAnd x o)
  | .bor, x, o => some (bOr x o)
  | .bxor, x, o => some (bXor x o)
  | .shl, x, o => some (shlM x o)
  | .shr, x, o => some (shlM x (0 - o))
def leftT (m r : Int) : Tl :=
  if 64 ≤ iabs m then (if r = 0 then bitsT 0 18446744073709551615 else .non)
  else if 0 ≤ m then (if r % 18446744073709551616 % 2 ^ m.toNat = 0 then bitsT (r % 18446744073709551616 / 2 ^ m.toNat) (18446744073709551615 - (2 ^ (64 - m).toNat - 1)) else .non)
  else (if r % 18446744073709551616 / 2 ^ (64 + m).toNat = 0 then bitsT (r % 18446744073709551616 * 2 ^ (0 - m).toNat) (18446744073709551615 - (18446744073709551616 - 2 ^ (0 - m).toNat)) else .non)
def twosOf (o : Int) : Nat := Builtin.Int.intBits (bAnd o (0 - o)) - 1
def solvedM : Wd → Int → Int → Tl
  | .add, o, r => rowT (wrap (r - o)) 1 1
  | .sub, o, r => rowT (wrap (r + o)) 1 1
  | .mul, o, r => mulT (twosOf o) o r
  | .floor, o, r => floorT o r
  | .mod, o, r => modT o r
  | .band, o, r => if bAnd r (bNot o) = 0 then bitsT r (bNot o) else .non
  | .bor, o, r => if bAnd o (bNot r) = 0 then bitsT (bAnd r (bNot o)) o else .non
  | .bxor, o, r => rowT (bXor r o) 1 1
  | .shl, o, r => leftT o r
  | .shr, o, r => leftT (0 - o) r
theorem shlM_in (x m : Int) : InR (shlM x m) := by
  unfold shlM
  split
  · unfold InR; omega
  · split <;> exact wrap_in _
theorem arith_in {w : Wd} {x o r : Int} (hx : InR x) (ho : InR o) (h : arithM w x o = some r) : InR r := by
  cases w with
  | add => cases h; exact wrap_in _
  | sub => cases h; exact wrap_in _
  | mul => cases h; exact wrap_in _
  | floor =>
    by_cases c : o = 0 <;> simp [arithM, c] at h
    rw [← h]
    exact wrap_in _
  | mod =>
    by_cases c : o = 0 <;> simp [arithM, c] at h
    have e := ((fmod_iff c).mp h).1.2
    unfold iabs InR at *
    split at e <;> split at e <;> omega
  | band => cases h; exact and_in hx ho
  | bor => cases h; exact or_in hx ho
  | bxor => cases h; exact xor_in hx ho
  | shl => cases h; exact shlM_in _ _
  | shr => cases h; exact shlM_in _ _
theorem bitsT_all {x : Int} : memT (bitsT 0 18446744073709551615) x := by
  show bAnd x (bNot (wrap 18446744073709551615)) = wrap 0
  rw [show wrap 18446744073709551615 = -1 by decide, show bNot (-1) = 0 from rfl, show wrap 0 = 0 by decide, and_zero]
theorem bitsT_all_ok : OkT (bitsT 0 18446744073709551615) := ⟨wrap_in _, wrap_in _, by rw [show wrap 0 = 0 by decide]; exact ext fun i => by rw [tb_and, tb_zero, Bool.false_and]⟩
theorem left_ok {m r : Int} (hr : InR r) : OkT (leftT m r) ∧ ∀ x, InR x → (memT (leftT m r) x ↔ shlM x m = r) := by
  unfold leftT shlM iabs
  by_cases c : m ≤ -64 ∨ 64 ≤ m
  · rw [if_pos (show (64 : Int) ≤ if m < 0 then -m else m by split <;> omega), ]
    by_cases z : r = 0
    · rw [if_pos z]
      refine ⟨bitsT_all_ok, fun x hx => ?_⟩
      rw [if_pos c]
      exact ⟨fun _ => z.symm, fun _ => bitsT_all⟩
    · rw [if_neg z]
      refine ⟨trivial, fun x hx => ?_⟩
      rw [if_pos c]
      exact ⟨fun h => h.elim, fun h => z h.symm⟩
  · rw [if_neg (show ¬ (64 : Int) ≤ if m < 0 then -m else m by split <;> omega)]
    by_cases z : 0 ≤ m
    · rw [if_pos z]
      obtain ⟨k, rfl⟩ := Int.eq_ofNat_of_zero_le z
      have hk : k ≤ 63 := by omega
      rw [show ((64 : Int) - (k : Int)).toNat = 64 - k by omega, Int.toNat_natCast]
      have hn : ¬ ((k : Int) < 0) := by omega
      by_cases d : r % 18446744073709551616 % 2 ^ k = 0
      · rw [if_pos d]
        obtain ⟨a1, a2, a3⟩ := shlT_ok hk hr
        refine ⟨⟨a2, a1, a3⟩, fun x hx => ?_⟩
        rw [if_neg c, if_neg hn]
        exact shl_sol hk hr hx d
      · rw [if_neg d]
        refine ⟨trivial, fun x hx => ?_⟩
        rw [if_neg c, if_neg hn]
        exact ⟨fun h => h.elim, fun h => (shl_none hk hr d h).elim⟩
    · rw [if_neg z]
      obtain ⟨k, e⟩ := Int.eq_ofNat_of_zero_le (show 0 ≤ -m by omega)
      have em : m = -(k : Int) := by omega
      subst em
      have h1 : 1 ≤ k := by omega
      have hk : k ≤ 63 := by omega
      rw [show ((64 : Int) + -(k : Int)).toNat = 64 - k by omega, show ((0 : Int) - -(k : Int)).toNat = k by omega]
      have hn : -(k : Int) < 0 := by omega
      by_cases d : r % 18446744073709551616 / 2 ^ (64 - k) = 0
      · rw [if_pos d]
        obtain ⟨a1, a2, a3⟩ := shrT_ok h1 hk hr
        refine ⟨⟨a2, a1, a3⟩, fun x hx => ?_⟩
        rw [if_neg c, if_pos hn]
        exact shr_sol h1 hk hr hx d
      · rw [if_neg d]
        refine ⟨trivial, fun x hx => ?_⟩
        rw [if_neg c, if_pos hn]
        exact ⟨fun h => h.elim, fun h => (shr_none h1 hk hr d h).elim⟩
theorem some_iff {a b : Int} : some a = some b ↔ a = b := ⟨Option.some.inj, fun h => by rw [h]⟩
theorem solved_ok {w : Wd} {o r : Int} (ho : InR o) (hr : InR r) : OkT (solvedM w o r) ∧ ∀ x, InR x → (memT (solvedM w o r) x ↔ arithM w x o = some r) := by
  cases w with
  | add =>
    refine ⟨one_ok (wrap_in _), fun x hx => ?_⟩
    show memT (rowT (wrap (r - o)) 1 1) x ↔ some (wrap (x + o)) = some r
    rw [one_mem, some_iff]
    unfold InR wrap at *
    omega
  | sub =>
    refine ⟨one_ok (wrap_in _), fun x hx => ?_⟩
    show memT (rowT (wrap (r + o)) 1 1) x ↔ some (wrap (x - o)) = some r
    rw [one_mem, some_iff]
    unfold InR wrap at *
    omega
  | mul =>
    show OkT (mulT (twosOf o) o r) ∧ ∀ x, InR x → (memT (mulT (twosOf o) o r) x ↔ some (wrap (x * o)) = some r)
    by_cases h0 : o = 0
    · subst h0
      unfold mulT
      rw [if_pos rfl]
      by_cases z : r = 0
      · rw [if_pos z]
        refine ⟨bitsT_all_ok, fun x hx => ⟨fun _ => ?_, fun _ => bitsT_all⟩⟩
        rw [Int.mul_zero, z]
        rfl
      · rw [if_neg z]
        refine ⟨trivial, fun x hx => ⟨fun h => h.elim, fun h => ?_⟩⟩
        rw [Int.mul_zero] at h
        exact z (Option.some.inj h).symm
    · obtain ⟨t, u, ht, e, _, hb⟩ := twos h0 ho
      have et : twosOf o = t := by unfold twosOf; omega
      rw [et]
      exact ⟨(mul_sol ho ho hr ht h0 e).1, fun x hx => by rw [some_iff]; exact (mul_sol hx ho hr ht h0 e).2⟩
  | floor =>
    refine ⟨floor_ok o r, fun x hx => ?_⟩
    show memT (floorT o r) x ↔ (if o = 0 then none else some (wrap (x.fdiv o))) = some r
    by_cases h0 : o = 0
    · rw [if_pos h0]
      unfold floorT
      rw [if_pos h0]
      exact ⟨fun h => h.elim, fun h => by cases h⟩
    · rw [if_neg h0, some_iff]
      exact floor_sol hx ho hr h0
  | mod =>
    refine ⟨mod_ok ho, fun x hx => ?_⟩
    show memT (modT o r) x ↔ (if o = 0 then none else some (x.fmod o)) = some r
    by_cases h0 : o = 0
    · rw [if_pos h0]
      unfold modT
      rw [if_pos (.inl h0)]
      exact ⟨fun h => h.elim, fun h => by cases h⟩
    · rw [if_neg h0, some_iff]
      exact mod_sol hx ho h0
  | band =>
    show OkT (if bAnd r (bNot o) = 0 then bitsT r (bNot o) else .non) ∧ ∀ x, InR x → (memT (if bAnd r (bNot o) = 0 then bitsT r (bNot o) else .non) x ↔ some (bAnd x o) = some r)
    by_cases c : bAnd r (bNot o) = 0
    · rw [if_pos c]
      refine ⟨⟨wrap_in _, wrap_in _, ?_⟩, fun x hx => ?_⟩
      · rw [wrap_id hr, wrap_id (not_in ho), c]
      · rw [some_iff]
        show bAnd x (bNot (wrap (bNot o))) = wrap r ↔ _
        rw [wrap_id hr, wrap_id (not_in ho), not_not]
    · rw [if_neg c]
      refine ⟨trivial, fun x hx => ⟨fun h => h.elim, fun h => ?_⟩⟩
      apply c
      rw [← Option.some.inj h]
      exact and_sol
  | bor =>
    show OkT (if bAnd o (bNot r) = 0 then bitsT (bAnd r (bNot o)) o else .non) ∧ ∀ x, InR x → (memT (if bAnd o (bNot r) = 0 then bitsT (bAnd r (bNot o)) o else .non) x ↔ some (bOr x o) = some r)
    by_cases c : bAnd o (bNot r) = 0
    · rw [if_pos c]
      refine ⟨⟨wrap_in _, wrap_in _, ?_⟩, fun x hx => ?_⟩
      · rw [wrap_id ho, wrap_id (and_in hr (not_in ho))]
        exact disj1 r o
      · rw [some_iff]
        show bAnd x (bNot (wrap o)) = wrap (bAnd r (bNot o)) ↔ _
        rw [wrap_id ho, wrap_id (and_in hr (not_in ho))]
        exact or_sol c
    · rw [if_neg c]
      refine ⟨trivial, fun x hx => ⟨fun h => h.elim, fun h => ?_⟩⟩
      apply c
      rw [← Option.some.inj h]
      exact or_none
  | bxor =>
    refine ⟨one_ok (xor_in hr ho), fun x hx => ?_⟩
    show memT (rowT (bXor r o) 1 1) x ↔ some (bXor x o) = some r
    rw [one_mem, some_iff]
    exact xor_sol
  | shl =>
    obtain ⟨a, b⟩ := left_ok (m := o) hr
    exact ⟨a, fun x hx => by
      show memT (leftT o r) x ↔ some (shlM x o) = some r
      rw [some_iff]
      exact b x hx⟩
  | shr =>
    obtain ⟨a, b⟩ := left_ok (m := 0 - o) hr
    exact ⟨a, fun x hx => by
      show memT (leftT (0 - o) r) x ↔ some (shlM x (0 - o)) = some r
      rw [some_iff]
      exact b x hx⟩
/-! ### the free bits, one by one -/
def pd (mask : Int) : Nat → Nat → Int → Int → Int
  | 0, _, _, f => f
  | k + 1, at_, n, f => if tb mask at_ = true then pd mask k (at_ + 1) (n / 2) (bOr f (n % 2 * 2 ^ at_)) else pd mask k (at_ + 1) n f
def popF (mask : Int) : Nat → Nat → Nat
  | 0, _ => 0
  | k + 1, at_ => (if tb mask at_ = true then 1 else 0) + popF mask k (at_ + 1)
theorem tb_pow (c : Int) (hc : c = 0 ∨ c = 1) : ∀ (a i : Nat), tb (c * 2 ^ a) i = (decide (a = i) && decide (c = 1))
  | 0, 0 => by rw [tb0, Int.pow_zero, Int.mul_one]; rcases hc with rfl | rfl <;> rfl
  | 0, i + 1 => by
    rw [tb_succ, Int.pow_zero, Int.mul_one, show c / 2 = 0 by omega, tb_zero]
    rfl
  | a + 1, 0 => by
    rw [tb0, Int.pow_succ, ← Int.mul_assoc]
    have : ¬ c * 2 ^ a * 2 % 2 = 1 := by omega
    rw [decide_eq_false this]
    rfl
  | a + 1, i + 1 => by
    rw [tb_succ, Int.pow_succ, ← Int.mul_assoc, Int.mul_ediv_cancel _ (by decide), tb_pow c hc a i]
    congr 1
    by_cases e : a = i
    · rw [decide_eq_true e, decide_eq_true (by rw [e])]
    · rw [decide_eq_false e, decide_eq_false (by omega)]
theorem pd_zero (mask : Int) : ∀ (k a : Nat) (f : Int), pd mask k a 0 f = f
  | 0, _, _ => rfl
  | k + 1, a, f => by
    unfold pd
    have e : bOr f (0 % 2 * 2 ^ a) = f := ext fun i => by rw [tb_or, show (0 : Int) % 2 = 0 from rfl, Int.zero_mul, tb_zero, Bool.or_false]
    split
    · rw [e]
      exact pd_zero mask k (a + 1) f
    · exact pd_zero mask k (a + 1) f
/-- a bit that is not free, or lies ahead, stays -/
theorem pd_stay (mask : Int) : ∀ (k a : Nat) (n f : Int) (i : Nat), (i < a ∨ a + k ≤ i ∨ tb mask i = false) → tb (pd mask k a n f) i = tb f i
  | 0, _, _, _, _, _ => rfl
  | k + 1, a, n, f, i, h => by
    unfold pd
    by_cases c : tb mask a = true
    · rw [if_pos c, pd_stay mask k (a + 1) _ _ i (by
        rcases h with h | h | h
        · exact .inl (by omega)
        · exact .inr (.inl (by omega))
        · exact .inr (.inr h)), tb_or, tb_pow _ (by omega)]
      have : a ≠ i := by
        rintro rfl
        rcases h with h | h | h
        · omega
        · omega
        · rw [h] at c; cases c
      rw [decide_eq_false this, Bool.false_and, Bool.or_false]
    · rw [if_neg c]
      exact pd_stay mask k (a + 1) _ _ i (by
        rcases h with h | h | h
        · exact .inl (by omega)
        · exact .inr (.inl (by omega))
        · exact .inr (.inr h))
theorem half_lt {n : Int} {p : Nat} (h : n < 2 ^ (1 + p)) : n / 2 < 2 ^ p := by
  rw [Nat.add_comm, Int.pow_succ] at h
  omega
/-- unlike numbers, unlike bits -/
theorem pd_inj (mask : Int) : ∀ (k a : Nat) (n n' f : Int), 0 ≤ n → n < 2 ^ popF mask k a → 0 ≤ n' → n' < 2 ^ popF mask k a → (∀ i, a ≤ i → tb mask i = true → tb f i = false) →
    (∀ i, i < a + k → tb (pd mask k a n f) i = tb (pd mask k a n' f) i) → n = n'
  | 0, a, n, n', f, h0, h1, g0, g1, _, _ => by
    have e : (2 : Int) ^ popF mask 0 a = 1 := rfl
    omega
  | k + 1, a, n, n', f, h0, h1, g0, g1, hf, h => by
    unfold pd at h
    unfold popF at h1 g1
    by_cases c : tb mask a = true
    · rw [if_pos c] at h1 g1
      simp only [c, if_true] at h
      have e := h a (by omega)
      rw [pd_stay mask k (a + 1) _ _ a (.inl (by omega)), pd_stay mask k (a + 1) _ _ a (.inl (by omega)), tb_or, tb_or, tb_pow _ (by omega), tb_pow _ (by omega), hf a (Nat.le_refl _) c] at e
      simp at e
      have e2 : n % 2 = n' % 2 := by omega
      have := pd_inj mask k (a + 1) (n / 2) (n' / 2) (bOr f (n % 2 * 2 ^ a)) (by omega) (half_lt h1) (by omega) (half_lt g1) (fun i hi ht => by
        rw [tb_or, hf i (by omega) ht, tb_pow _ (by omega), decide_eq_false (by omega)]
        rfl) (fun i hi => by
        have := h i (by omega)
        rw [← e2] at this
        exact this)
      omega
    · rw [if_neg c, Nat.zero_add] at h1 g1
      simp only [if_neg c] at h
      exact pd_inj mask k (a + 1) n n' f h0 h1 g0 g1 (fun i hi ht => hf i (by omega) ht) fun i hi => h i (by omega)
/-- whatever has the fixed bits is met -/
theorem pd_sur (mask : Int) : ∀ (k a : Nat) (x f : Int), (∀ i, a ≤ i → tb mask i = true → tb f i = false) → (∀ i, (i < a ∨ a + k ≤ i ∨ tb mask i = false) → tb x i = tb f i) →
    ∃ n, 0 ≤ n ∧ n < 2 ^ popF mask k a ∧ pd mask k a n f = x
  | 0, a, x, f, _, h => ⟨0, by omega, by show (0 : Int) < 2 ^ 0; decide, (ext fun i => (h i (by omega)).symm)⟩
  | k + 1, a, x, f, hf, h => by
    by_cases c : tb mask a = true
    · have hb : ∃ b : Int, (b = 0 ∨ b = 1) ∧ (tb x a = decide (b = 1)) := by
        cases tb x a with
        | true => exact ⟨1, .inr rfl, rfl⟩
        | false => exact ⟨0, .inl rfl, rfl⟩
      obtain ⟨b, hb, hxb⟩ := hb
      obtain ⟨n, n0, n1, e⟩ := pd_sur mask k (a + 1) x (bOr f (b * 2 ^ a)) (fun i hi ht => by
        rw [tb_or, hf i (by omega) ht, tb_pow _ hb, decide_eq_false (by omega)]
        rfl) (fun i hi => by
        rw [tb_or, tb_pow _ hb]
        by_cases ia : a = i
        · subst ia
          rw [hf a (Nat.le_refl _) c, decide_eq_true rfl, hxb]
          rfl
        · rw [decide_eq_false ia, Bool.false_and, Bool.or_false]
          exact h i (by
            rcases hi with hi | hi | hi
            · exact .inl (by omega)
            · exact .inr (.inl (by omega))
            · exact .inr (.inr hi)))
      refine ⟨2 * n + b, by omega, ?_, ?_⟩
      · unfold popF
        rw [if_pos c, Nat.add_comm, Int.pow_succ]
        omega
      · unfold pd
        rw [if_pos c, show (2 * n + b) / 2 = n by omega, show (2 * n + b) % 2 = b by omega]
        exact e
    · obtain ⟨n, n0, n1, e⟩ := pd_sur mask k (a + 1) x f (fun i hi ht => hf i (by omega) ht) (fun i hi => by
        by_cases ia : a = i
        · subst ia
          exact h a (.inr (.inr (by simpa using c)))
        · exact h i (by
            rcases hi with hi | hi | hi
            · exact .inl (by omega)
            · exact .inr (.inl (by omega))
            · exact .inr (.inr hi)))
      refine ⟨n, n0, ?_, ?_⟩
      · unfold popF
        rw [if_neg c, Nat.zero_add]
        exact n1
      · unfold pd
        rw [if_neg c]
        exact e
end K94

set_option Elab.async false
set_option linter.all false
set_option maxRecDepth 100000
set_option maxHeartbeats 4000000
namespace K94
open PySem PySem.W PyProof.Rows
theorem tb_add (x : Int) : ∀ (i j : Nat), tb x (i + j) = tb (x / 2 ^ i) j := fun i j => by
  unfold tb
  rw [Int.pow_add, ← Int.ediv_ediv_of_nonneg (Int.le_of_lt (p2 i))]
theorem tb_high {x : Int} (h : InR x) {i : Nat} (hi : 63 ≤ i) : tb x i = tb x 63 := by
  rw [inR_top] at h
  obtain ⟨j, rfl⟩ : ∃ j, i = 63 + j := ⟨i - 63, by omega⟩
  have e1 := tb_add x 63 j
  have e0 := tb_add x 63 0
  rw [show 63 + 0 = 63 from rfl] at e0
  rw [e1, e0]
  rcases h with h | h
  · rw [h, tb_zero, tb_zero]
  · rw [h, tb_m1, tb_m1]
theorem ext64 {x y : Int} (hx : InR x) (hy : InR y) (h : ∀ i, i < 64 → tb x i = tb y i) : x = y := ext fun i => by
  by_cases c : i < 64
  · exact h i c
  · rw [tb_high hx (by omega), tb_high hy (by omega)]
    exact h 63 (by omega)
theorem tb_mask : ∀ (k i : Nat), tb (2 ^ k - 1) i = decide (i < k)
  | 0, i => by
    rw [show (2 : Int) ^ 0 - 1 = 0 from rfl, tb_zero, decide_eq_false (by omega)]
  | k + 1, 0 => by
    have := p2 k
    rw [tb0, Int.pow_succ, decide_eq_true (by omega), decide_eq_true (by omega)]
  | k + 1, i + 1 => by
    have := p2 k
    rw [tb_succ, Int.pow_succ, show ((2 : Int) ^ k * 2 - 1) / 2 = 2 ^ k - 1 by omega, tb_mask k i]
    by_cases c : i < k
    · rw [decide_eq_true c, decide_eq_true (by omega)]
    · rw [decide_eq_false c, decide_eq_false (by omega)]
theorem tb_mod (x : Int) (i : Nat) : tb (x % 18446744073709551616) i = (tb x i && decide (i < 64)) := by
  have e := and_mask x 64
  rw [show (2 : Int) ^ 64 = 18446744073709551616 from rfl] at e
  rw [← e, tb_and, show (18446744073709551616 : Int) - 1 = 2 ^ 64 - 1 from rfl, tb_mask]
theorem tb_wrap (x : Int) {i : Nat} (h : i < 64) : tb (wrap x) i = tb x i := by
  have e : wrap x % 18446744073709551616 = x % 18446744073709551616 := wrap_mod x
  have a := tb_mod (wrap x) i
  have b := tb_mod x i
  rw [e, b, decide_eq_true h, Bool.and_true, Bool.and_true] at a
  exact a.symm
/-! ### how many are told, and which -/
def cntT : Tl → Int
  | .non => 0
  | .row _ _ m => m
  | .bits _ fr => 2 ^ popF (fr % 18446744073709551616) 64 0
def solAt : Tl → Int → Int
  | .non, _ => 0
  | .row f s _, n => f + s * n
  | .bits b fr, n => wrap (pd (fr % 18446744073709551616) 64 0 n (b % 18446744073709551616))
theorem free_fixed {b fr : Int} (h : bAnd b fr = 0) (i : Nat) (ht : tb (fr % 18446744073709551616) i = true) : tb (b % 18446744073709551616) i = false := by
  rw [tb_mod] at ht ⊢
  have := bit_of h i
  rw [tb_and, tb_zero] at this
  revert ht this
  cases tb fr i <;> cases tb b i <;> simp
theorem sol_mem {t : Tl} {n : Int} (ok : OkT t) (h0 : 0 ≤ n) (h1 : n < cntT t) : InR (solAt t n) ∧ memT t (solAt t n) := by
  cases t with
  | non => exact absurd h1 (by show ¬ n < 0; omega)
  | row f s m =>
    obtain ⟨a, b, c, d, e, g⟩ := ok
    have h1 : n < m := h1
    have i1 := Int.mul_nonneg (show 0 ≤ s by omega) h0
    have i2 := Int.mul_le_mul_of_nonneg_left (show n ≤ m - 1 by omega) (show 0 ≤ s by omega)
    refine ⟨?_, ?_⟩
    · show InR (f + s * n)
      unfold InR at *
      omega
    · show f ≤ f + s * n ∧ f + s * n ≤ f + s * (m - 1) ∧ (f + s * n - f) % s = 0
      refine ⟨by omega, by omega, ?_⟩
      rw [show f + s * n - f = s * n by omega, Int.mul_emod_right]
  | bits b fr =>
    obtain ⟨hb, hf, hd⟩ := ok
    refine ⟨wrap_in _, ?_⟩
    show bAnd (wrap _) (bNot fr) = b
    refine ext64 (and_in (wrap_in _) (not_in hf)) hb fun i hi => ?_
    rw [tb_and, tb_not, tb_wrap _ hi]
    by_cases c : tb fr i = true
    · have := bit_of hd i
      rw [tb_and, tb_zero, c, Bool.and_true] at this
      rw [c, this]
      simp
    · have c : tb fr i = false := by simpa using c
      rw [pd_stay _ _ _ _ _ i (.inr (.inr (by rw [tb_mod, c]; rfl))), tb_mod, c, decide_eq_true hi]
      simp
theorem sol_inj {t : Tl} {n n' : Int} (ok : OkT t) (h0 : 0 ≤ n) (h1 : n < cntT t) (g0 : 0 ≤ n') (g1 : n' < cntT t) (e : solAt t n = solAt t n') : n = n' := by
  cases t with
  | non => exact absurd h1 (by show ¬ n < 0; omega)
  | row f s m =>
    obtain ⟨_, b, _⟩ := ok
    have e2 : f + s * n = f + s * n' := e
    exact Int.eq_of_mul_eq_mul_left (show s ≠ 0 by omega) (by omega)
  | bits b fr =>
    obtain ⟨hb, hf, hd⟩ := ok
    exact pd_inj _ 64 0 n n' _ h0 h1 g0 g1 (fun i _ ht => free_fixed hd i ht) fun i hi => by
      have := bit_of (show wrap _ = wrap _ from e) i
      rw [tb_wrap _ (by omega), tb_wrap _ (by omega)] at this
      exact this
theorem sol_sur {t : Tl} {x : Int} (ok : OkT t) (hx : InR x) (h : memT t x) : ∃ n, 0 ≤ n ∧ n < cntT t ∧ solAt t n = x := by
  cases t with
  | non => exact h.elim
  | row f s m =>
    obtain ⟨_, b, _⟩ := ok
    obtain ⟨p, q, z⟩ := h
    have a := Int.emod_add_mul_ediv (x - f) s
    rw [z] at a
    generalize (x - f) / s = j at *
    refine ⟨j, ?_, ?_, by show f + s * j = x; omega⟩
    · by_cases c : 0 ≤ j
      · exact c
      · have := le_mulr (show 0 ≤ s by omega) (show 1 ≤ -j by omega)
        rw [Int.mul_neg] at this
        omega
    · show j < m
      by_cases c : j < m
      · exact c
      · have := Int.mul_le_mul_of_nonneg_left (show m ≤ j by omega) (show 0 ≤ s by omega)
        rw [Int.mul_sub, Int.mul_one] at q
        omega
  | bits b fr =>
    obtain ⟨hb, hf, hd⟩ := ok
    have h : bAnd x (bNot fr) = b := h
    obtain ⟨n, n0, n1, e⟩ := pd_sur (fr % 18446744073709551616) 64 0 (x % 18446744073709551616) (b % 18446744073709551616) (fun i _ ht => free_fixed hd i ht) fun i hi => by
      rw [tb_mod, tb_mod]
      by_cases c : i < 64
      · have ht : tb (fr % 18446744073709551616) i = false := by
          rcases hi with hi | hi | hi
          · omega
          · omega
          · exact hi
        rw [tb_mod, decide_eq_true c, Bool.and_true] at ht
        have := bit_of h i
        rw [tb_and, tb_not, ht] at this
        rw [← this]
        simp
      · rw [decide_eq_false c, Bool.and_false, Bool.and_false]
    refine ⟨n, n0, n1, ?_⟩
    show wrap (pd _ 64 0 n _) = x
    rw [e]
    exact (wrap_eq hx).mpr (by rw [show (18446744073709551616 : Int) = 2 ^ 64 from rfl]; omega)
theorem pop_le (mask : Int) : ∀ k a, popF mask k a ≤ k
  | 0, _ => Nat.le_refl _
  | k + 1, a => by
    unfold popF
    have := pop_le mask k (a + 1)
    split <;> omega
theorem pow_le {a b : Nat} (h : a ≤ b) : (2 : Int) ^ a ≤ 2 ^ b := by
  rw [← kbt_cast, ← kbt_cast]
  exact Int.ofNat_le.mpr (Nat.pow_le_pow_right (by decide) h)
theorem cnt_bound {t : Tl} (ok : OkT t) : 0 ≤ cntT t ∧ cntT t ≤ 18446744073709551616 := by
  cases t with
  | non => exact ⟨Int.le_refl _, by decide⟩
  | row f s m =>
    obtain ⟨_, _, _, d, e, _⟩ := ok
    exact ⟨by show (0 : Int) ≤ m; omega, e⟩
  | bits b fr =>
    refine ⟨Int.le_of_lt (p2 _), ?_⟩
    exact pow_le (b := 64) (pop_le _ 64 0)
/-- bits counted one by one -/
theorem pop_sum (mask : Int) : ∀ k a, (((List.range k).map fun i => bAnd (mask / 2 ^ (a + i)) 1)).sum = (popF mask k a : Int)
  | 0, _ => rfl
  | k + 1, a => by
    have e : ∀ x : Int, bAnd x 1 = x % 2 := bitAnd_m1
    have ih := pop_sum mask k (a + 1)
    rw [List.range_succ_eq_map, List.map_cons, List.sum_cons, List.map_map]
    unfold popF
    have e2 : ((fun i => bAnd (mask / 2 ^ (a + i)) 1) ∘ Nat.succ) = fun i => bAnd (mask / 2 ^ (a + 1 + i)) 1 := by
      funext i
      show bAnd (mask / 2 ^ (a + (i + 1))) 1 = _
      rw [show a + (i + 1) = a + 1 + i by omega]
    rw [e2, ih, e, Nat.add_zero]
    unfold tb
    split
    · rename_i h
      have h := of_decide_eq_true h
      omega
    · rename_i h
      have h : ¬ mask / 2 ^ a % 2 = 1 := fun z => h (decide_eq_true z)
      omega
end K94

set_option Elab.async false
set_option linter.all false
set_option maxRecDepth 100000
set_option maxHeartbeats 4000000
namespace K94
/-! bits that are counted -/
theorem tb_or1 (m : Int) (b i : Nat) : tb (bOr m (2 ^ b)) i = (tb m i || decide (b = i)) := by
  have e := tb_pow 1 (.inr rfl) b i
  rw [Int.one_mul] at e
  rw [tb_or, e, decide_eq_true (rfl : (1 : Int) = 1), Bool.and_true]
theorem pop_congr {x y : Int} : ∀ k a, (∀ i, a ≤ i → i < a + k → tb x i = tb y i) → popF x k a = popF y k a
  | 0, _, _ => rfl
  | k + 1, a, h => by
    unfold popF
    rw [h a (Nat.le_refl _) (by omega), pop_congr k (a + 1) fun i h1 h2 => h i (by omega) (by omega)]
theorem pop_or (m : Int) (b : Nat) : ∀ k a, popF (bOr m (2 ^ b)) k a ≤ popF m k a + (if a ≤ b then 1 else 0)
  | 0, a => Nat.zero_le _
  | k + 1, a => by
    have ih := pop_or m b k (a + 1)
    unfold popF
    rw [tb_or1]
    by_cases c : b = a
    · subst c
      rw [decide_eq_true rfl, Bool.or_true, if_pos rfl, if_pos (Nat.le_refl _)]
      rw [if_neg (by omega)] at ih
      omega
    · rw [decide_eq_false c, Bool.or_false]
      by_cases d : a ≤ b
      · rw [if_pos d]
        rw [if_pos (by omega)] at ih
        omega
      · rw [if_neg d]
        rw [if_neg (by omega)] at ih
        omega
theorem pop_zero : ∀ k a, popF 0 k a = 0
  | 0, _ => rfl
  | k + 1, a => by
    unfold popF
    rw [tb_zero, pop_zero k (a + 1)]
    rfl
theorem small_tb {x : Int} (h0 : 0 ≤ x) (h1 : x < 18446744073709551616) {i : Nat} (h : 64 ≤ i) : tb x i = false := by
  have e : x % 18446744073709551616 = x := by omega
  rw [← e, tb_mod, decide_eq_false (by omega), Bool.and_false]
theorem tb_small {x : Int} (h : ∀ i, 64 ≤ i → tb x i = false) : 0 ≤ x ∧ x < 18446744073709551616 := by
  have e : x % 18446744073709551616 = x := ext fun i => by
    rw [tb_mod]
    by_cases c : i < 64
    · rw [decide_eq_true c, Bool.and_true]
    · rw [decide_eq_false c, Bool.and_false, h i (by omega)]
  omega
theorem or_small {x : Int} {b : Nat} (h0 : 0 ≤ x) (h1 : x < 18446744073709551616) (hb : b < 64) : 0 ≤ bOr x (2 ^ b) ∧ bOr x (2 ^ b) < 18446744073709551616 := tb_small fun i hi => by
  rw [tb_or1, small_tb h0 h1 hi, decide_eq_false (by omega)]
  rfl
/-- the mask as an int of 64 bits -/
def sgn (m : Int) : Int := if 9223372036854775808 ≤ m then m - 18446744073709551616 else m
theorem sgn_in {m : Int} (h0 : 0 ≤ m) (h1 : m < 18446744073709551616) : InR (sgn m) ∧ sgn m % 18446744073709551616 = m := by
  unfold sgn InR
  split <;> omega
theorem pop_mod (x : Int) : popF (x % 18446744073709551616) 64 0 = popF x 64 0 := pop_congr 64 0 fun i _ h => by rw [tb_mod, decide_eq_true (show i < 64 by omega), Bool.and_true]
theorem cnt_bits {x m : Int} (hm : InR m) : cntT (bitsT x m) = 2 ^ popF m 64 0 := by
  show (2 : Int) ^ popF (wrap m % 18446744073709551616) 64 0 = _
  rw [wrap_id hm, pop_mod]
theorem band_told {x m : Int} : solvedM .band (bNot m) (bAnd x (bNot m)) = bitsT (bAnd x (bNot m)) m := by
  show (if bAnd (bAnd x (bNot m)) (bNot (bNot m)) = 0 then _ else _) = _
  rw [if_pos and_sol, not_not]
theorem bor_told {x m : Int} : solvedM .bor m (bOr x m) = bitsT (bAnd (bOr x m) (bNot m)) m := if_pos or_none
end K94

set_option Elab.async false
set_option linter.all false
set_option maxRecDepth 100000
set_option maxHeartbeats 800000
set_option exponentiation.threshold 10000
local macro_rules | `(tactic| one_item) => `(tactic| first | omega | exact Wk.four_ok (Nat.le_of_ble_eq_true rfl) | (show (0 : Int) < _; omega) | (show (0 : Int) ≤ _; omega) | rfl | exact ⟨by decide, by decide, by decide⟩ | (refine Or.inl (And.intro ?_ ?_) <;> omega) | (refine Or.inr (And.intro ?_ ?_) <;> omega) | (refine Wk.divs ?_ ?_ <;> omega) | (refine Wk.divx ?_ ?_ <;> omega) | (refine Wk.shlk ?_ ?_ ?_ <;> omega) | decide | assumption | fail)
local macro_rules | `(tactic| one_place) => `(tactic| repeat' (first | (refine ⟨_, rfl, ?_⟩) | (refine ⟨_, _, rfl, rfl, ?_⟩) | (refine ⟨rfl, ?_⟩) | (refine ⟨_, _, rfl, ?_⟩) | (refine ⟨_, _, _, rfl, ?_⟩) | (refine ⟨_, _, _, _, rfl, ?_⟩) | (refine ⟨_, _, _, _, rfl, rfl, L2.SqT.of (by assumption), rfl, ?_⟩) | (refine ⟨_, _, _, _, rfl, rfl, L2.SqL.of (by assumption), rfl, ?_⟩) | (refine ⟨_, _, _, _, rfl, rfl, L2.SqL.of L2.upd_same, rfl, ?_⟩) | (refine ⟨_, _, _, _, rfl, rfl, (by assumption), rfl, ?_⟩) | (refine ⟨_, _, _, _, rfl, rfl, L2.upd_same, rfl, ?_⟩) | (refine ⟨_, Wk.tyIs_tup (by assumption), ?_⟩) | (refine ⟨_, _, rfl, .inr ⟨_, L2.SqT.of (by assumption), rfl⟩, ?_⟩) | (refine ⟨_, _, rfl, .inl ⟨_, L2.SqL.of (by assumption), rfl⟩, ?_⟩) | (refine Or.inl ⟨_, rfl, ?_⟩) | (refine Or.inr ⟨_, rfl, ?_⟩) | (refine Wk.if_t ?_ ?_; · decide) | (refine Wk.if_f ?_ ?_; · decide) | (refine And.intro ?_ ?_; · one_item) | fail))

namespace K94
open PySem PySem.Spec PyProof.Rows L2 Wk
/-- what a value tells -/
def TlV (H : Hp) (v : V) : Tl → Prop
  | .non => v = .non
  | .row f s m => ∃ p, v = .ref p ∧ H p = some (.tup [.str "row", .int f, .int s, .int m])
  | .bits b fr => ∃ p, v = .ref p ∧ H p = some (.tup [.str "bits", .int b, .int fr])
theorem TlV.same {H H' : Hp} {v : V} {t : Tl} (h : TlV H v t) (s : ∀ p xs, H p = some (.tup xs) → H' p = some (.tup xs)) : TlV H' v t := by
  cases t with
  | non => exact h
  | row f s' m =>
    obtain ⟨p, e, h⟩ := h
    exact ⟨p, e, s _ _ h⟩
  | bits b fr =>
    obtain ⟨p, e, h⟩ := h
    exact ⟨p, e, s _ _ h⟩
/-- the text of a word -/
def Wd.s : Wd → Str
  | .add => "add" | .sub => "sub" | .mul => "mul" | .floor => "floor" | .mod => "mod" | .band => "band" | .bor => "bor" | .bxor => "bxor" | .shl => "shl" | .shr => "shr"
def wordsV : List V := [.str "add", .str "sub", .str "mul", .str "floor", .str "mod", .str "band", .str "bor", .str "bxor", .str "shl", .str "shr"]
theorem t_WORDS {K : PySem.W.Frag} {mg : Str → Option Value} (T : Tx K mg) (H : Hp) : SqT K H (He.ga K "WORDS") wordsV :=
  He.tupB_ok (vs := [.str "add", .str "sub", .str "mul", .str "floor", .str "mod", .str "band", .str "bor", .str "bxor", .str "shl", .str "shr"]) (He.ba T.e).2 H
section
variable {P : Program} {w : World} {K : PySem.W.Frag} {mg : Str → Option Value} {base : Heap}
theorem sc_wrapped : FnScope ["number"] ["number"] (defScope s_wrapped) := ⟨rfl, rfl, rfl, by decide +kernel, rfl, by decide +kernel, by decide +kernel⟩
def sp_wrapped : Sp := fun vs H Q _ => ∃ n : Int, vs = [.int n] ∧ Q (.int (wrap n)) H
theorem cal_wrapped (T : Tx K mg) : C8.Cal P w K mg base 1 "wrapped" sp_wrapped [] := by
  obtain ⟨fd, F⟩ := f_wrapped T
  refine cal_of F (g_wrapped T) (F.bindsN fun _ _ _ _ _ _ us hl => match us, hl with | [_], _ => rfl) sc_wrapped (fun vs H Q E h => ?_) (fun cdv A outer s H vs Q E hr h => ?_)
  · obtain ⟨n, rfl, _⟩ := h
    rfl
  · obtain ⟨n, rfl, q⟩ := h
    refine ⟨_, (pss_one (ps_ret (pe_op op_sub (pe_op op_mod (pe_op op_add (pv 0) (pe_wk (v := .int (9223372036854775808)) (pe_op op_pow pe_int pe_int) fun _ _ _ q => ⟨_, _, rfl, rfl, ⟨by decide, by decide, by decide⟩, Wk.q_of q (by first | rfl | decide +kernel)⟩)) (pe_wk (v := .int (18446744073709551616)) (pe_op op_pow pe_int pe_int) fun _ _ _ q => ⟨_, _, rfl, rfl, ⟨by decide, by decide, by decide⟩, Wk.q_of q (by first | rfl | decide +kernel)⟩)) (pe_wk (v := .int (9223372036854775808)) (pe_op op_pow pe_int pe_int) fun _ _ _ q => ⟨_, _, rfl, rfl, ⟨by decide, by decide, by decide⟩, Wk.q_of q (by first | rfl | decide +kernel)⟩)))), ?_⟩
    one_place
    exact q
theorem sc_row_told : FnScope ["first", "step", "many"] ["first", "step", "many"] (defScope s_row_told) := ⟨rfl, rfl, rfl, by decide +kernel, rfl, by decide +kernel, by decide +kernel⟩
def sp_row_told : Sp := fun vs H Q _ => ∃ f s m : Int, vs = [.int f, .int s, .int m] ∧ ∀ v H', Same H H' → TlV H' v (rowT f s m) → Q v H'
theorem cal_row_told (T : Tx K mg) : C8.Cal P w K mg base 1 "row_told" sp_row_told [] := by
  obtain ⟨fd, F⟩ := f_row_told T
  refine cal_of F (g_row_told T) (F.bindsN fun _ _ _ _ _ _ us hl => match us, hl with | [_, _, _], _ => rfl) sc_row_told (fun vs H Q E h => ?_) (fun cdv A outer s H vs Q E hr h => ?_)
  · obtain ⟨f, s, m, rfl, _⟩ := h
    rfl
  · obtain ⟨f, s, m, rfl, q⟩ := h
    refine ⟨_, (pss_one (ps_ret (pe_ifExp (pt_cmpR op_gt (pv 2) pe_int (nomark _)) (pe_tup (pa_cons (C8.pe_gc (by rfl) (k_ROW T)) (pa_cons (pv 0) (pa_cons (pe_ifExp (pt_cmpR op_gt (pv 2) pe_int (nomark _)) (pv 1) pe_int) (pa_cons (pv 2) pa_nil))))) pe_non))), ?_⟩
    one_place
    refine ifd (fun c => ?_) (fun c => ?_)
    · one_place
      refine ifd (fun d => ?_) (fun d => ?_)
      · one_place
        refine fun p np => q _ _ (same_new np) ?_
        unfold rowT
        rw [if_pos c, if_pos d]
        exact ⟨p, rfl, upd_same⟩
      · one_place
        refine fun p np => q _ _ (same_new np) ?_
        unfold rowT
        rw [if_pos c, if_neg d]
        exact ⟨p, rfl, upd_same⟩
    · refine q _ _ (same_id H) ?_
      unfold rowT
      rw [if_neg c]
      rfl
theorem sc_bits_told : FnScope ["fixed", "mask"] ["fixed", "mask"] (defScope s_bits_told) := ⟨rfl, rfl, rfl, by decide +kernel, rfl, by decide +kernel, by decide +kernel⟩
def sp_bits_told : Sp := fun vs H Q _ => ∃ b fr : Int, vs = [.int b, .int fr] ∧ ∀ v H', Same H H' → TlV H' v (bitsT b fr) → Q v H'
theorem cal_bits_told (T : Tx K mg) : C8.Cal P w K mg base 2 "bits_told" sp_bits_told [] := by
  obtain ⟨fd, F⟩ := f_bits_told T
  refine cal_of F (g_bits_told T) (F.bindsN fun _ _ _ _ _ _ us hl => match us, hl with | [_, _], _ => rfl) sc_bits_told (fun vs H Q E h => ?_) (fun cdv A outer s H vs Q E hr h => ?_)
  · obtain ⟨b, fr, rfl, _⟩ := h
    rfl
  · obtain ⟨b, fr, rfl, q⟩ := h
    refine ⟨_, (pss_one (ps_ret (pe_tup (pa_cons (C8.pe_gc (by rfl) (k_FREE T)) (pa_cons (C8.pe_c (cal_wrapped T) hr (by decide) (by rfl) (pa_cons (pv 0) pa_nil)) (pa_cons (C8.pe_c (cal_wrapped T) hr (by decide) (by rfl) (pa_cons (pv 1) pa_nil)) pa_nil)))))), ?_⟩
    one_place
    exact fun p np => q _ _ (same_new np) ⟨p, rfl, upd_same⟩
theorem sc_span : FnScope ["low", "high"] ["low", "high"] (defScope s_span) := ⟨rfl, rfl, rfl, by decide +kernel, rfl, by decide +kernel, by decide +kernel⟩
def sp_span : Sp := fun vs H Q _ => ∃ lo hi : Int, vs = [.int lo, .int hi] ∧ ∀ v H', Same H H' → TlV H' v (spanT lo hi) → Q v H'
theorem cal_span (T : Tx K mg) : C8.Cal P w K mg base 2 "span" sp_span [] := by
  obtain ⟨fd, F⟩ := f_span T
  refine cal_of F (g_span T) (F.bindsN fun _ _ _ _ _ _ us hl => match us, hl with | [_, _], _ => rfl) sc_span (fun vs H Q E h => ?_) (fun cdv A outer s H vs Q E hr h => ?_)
  · obtain ⟨b, fr, rfl, _⟩ := h
    rfl
  · obtain ⟨b, fr, rfl, q⟩ := h
    refine ⟨_, (pss_cons (ps_par (i := 0) (j := 1) rfl sc_span.nd rfl rfl (by decide) rfl rfl (pa_cons (pe_callB (call_max2 rfl) (by rfl) (m_max T) (by decide +kernel) (pa_cons (pv 0) (pa_cons (C8.pe_gc (by rfl) (k_LEAST T)) pa_nil))) (pa_cons (pe_callB (call_min2 rfl) (by rfl) (m_min T) (by decide +kernel) (pa_cons (pv 1) (pa_cons (C8.pe_gc (by rfl) (k_MOST T)) pa_nil))) pa_nil)) (by rfl))
      (pss_one (ps_ret (C8.pe_c (cal_row_told T) hr (by decide) (by rfl) (pa_cons (pv 0) (pa_cons pe_int (pa_cons (pe_op op_add (pe_op op_sub (pv 1) (pv 0)) pe_int) pa_nil))))))), ?_⟩
    one_place
    exact q
theorem sc_is_whole_number : FnScope ["thing"] ["thing"] (defScope s_is_whole_number) := ⟨rfl, rfl, rfl, by decide +kernel, rfl, by decide +kernel, by decide +kernel⟩
def sp_is_whole_number : Sp := fun vs H Q _ => ∃ n : Int, vs = [.int n] ∧ Q (.bl (decide (InR n))) H
theorem cal_is_whole_number (T : Tx K mg) : C8.Cal P w K mg base 1 "is_whole_number" sp_is_whole_number [] := by
  obtain ⟨fd, F⟩ := f_is_whole_number T
  refine cal_of F (g_is_whole_number T) (F.bindsN fun _ _ _ _ _ _ us hl => match us, hl with | [_], _ => rfl) sc_is_whole_number (fun vs H Q E h => ?_) (fun cdv A outer s H vs Q E hr h => ?_)
  · obtain ⟨n, rfl, _⟩ := h
    rfl
  · obtain ⟨n, rfl, q⟩ := h
    refine ⟨_, (pss_one (ps_ret (pe_and (pe_isS (n := "int") (m_isinstance T) (m_int T) (pv 0) (by decide +kernel)) (pe_and (pe_not (pe_isS (n := "bool") (m_isinstance T) (m_bool T) (pv 0) (by decide +kernel))) (pe_one (pe_chain op_le op_le (C8.pe_gc (by rfl) (k_LEAST T)) (pv 0) (C8.pe_gc (by rfl) (k_MOST T)))))))), ?_⟩
    one_place
    refine ifd (fun c => ?_) (fun c => ?_)
    · one_place
      exact q_of q (congrArg V.bl (inR_dec c).symm)
    · exact q_of q (congrArg V.bl (decide_eq_false fun z : InR n => c z.1))
theorem sc_is_whole_or_many : FnScope ["thing"] ["thing"] (defScope s_is_whole_or_many) := ⟨rfl, rfl, rfl, by decide +kernel, rfl, by decide +kernel, by decide +kernel⟩
def sp_is_whole_or_many : Sp := fun vs H Q _ => ∃ n : Int, vs = [.int n] ∧ -9223372036854775808 ≤ n ∧ n ≤ 18446744073709551616 ∧ Q (.bl true) H
theorem cal_is_whole_or_many (T : Tx K mg) : C8.Cal P w K mg base 1 "is_whole_or_many" sp_is_whole_or_many [] := by
  obtain ⟨fd, F⟩ := f_is_whole_or_many T
  refine cal_of F (g_is_whole_or_many T) (F.bindsN fun _ _ _ _ _ _ us hl => match us, hl with | [_], _ => rfl) sc_is_whole_or_many (fun vs H Q E h => ?_) (fun cdv A outer s H vs Q E hr h => ?_)
  · obtain ⟨n, rfl, _⟩ := h
    rfl
  · obtain ⟨n, rfl, h0, h1, q⟩ := h
    refine ⟨_, (pss_one (ps_ret (pe_and (pe_isS (n := "int") (m_isinstance T) (m_int T) (pv 0) (by decide +kernel)) (pe_and (pe_not (pe_isS (n := "bool") (m_isinstance T) (m_bool T) (pv 0) (by decide +kernel))) (pe_one (pe_chain op_le op_le (C8.pe_gc (by rfl) (k_LEAST T)) (pv 0) (C8.pe_gc (by rfl) (k_ALL_BITS T)))))))), ?_⟩
    one_place
    refine if_t (decide_eq_true h0) ?_
    one_place
    exact q_of q (congrArg V.bl (decide_eq_true h1).symm)
theorem sc_inverse : FnScope ["number", "found", "turn"] ["number"] (defScope s_inverse) := ⟨rfl, rfl, rfl, by decide +kernel, rfl, by decide +kernel, by decide +kernel⟩
def sp_inverse : Sp := fun vs H Q _ => ∃ n : Int, vs = [.int n] ∧ 0 ≤ n ∧ n < 18446744073709551616 ∧ Q (.int (invN n 6)) H
theorem cal_inverse (T : Tx K mg) : C8.Cal P w K mg base 1 "inverse" sp_inverse [] := by
  obtain ⟨fd, F⟩ := f_inverse T
  refine cal_of F (g_inverse T) (F.bindsN fun _ _ _ _ _ _ us hl => match us, hl with | [_], _ => rfl) sc_inverse (fun vs H Q E h => ?_) (fun cdv A outer s H vs Q E hr h => ?_)
  · obtain ⟨n, rfl, _⟩ := h
    rfl
  · obtain ⟨n, rfl, h0, h1, q⟩ := h
    refine ⟨_, (pss_cons (ps_set (i := 1) sc_inverse.nd rfl (.inl rfl) (pv 0))
      (pss_cons (ps_for PassesOwn.never rfl (pi_range1 rfl (m_range T) (pa_cons pe_int pa_nil)) (pg_name (i := 2) sc_inverse.nd rfl (.inl rfl))
      (pss_one (ps_set (i := 1) sc_inverse.nd rfl (.inl rfl) (pe_op op_mod (pe_op op_mul (pv 1) (pe_op op_sub pe_int (pe_op op_mul (pv 0) (pv 1)))) (C8.pe_gc (by rfl) (k_ALL_BITS T))))))
      (pss_one (ps_ret (pv 1))))), ?_⟩
    one_place
    refine for_range (lo := 0) (n := 6) (fun i σ H' => ∃ y, σ = [some (.int n), some (.int (invN n i)), y] ∧ H' = H) ⟨_, rfl, rfl⟩ (fun i σ H' hi hP => ?_) (fun σ H' hP => ?_)
    · obtain ⟨y, rfl, rfl⟩ := hP
      have b := inv_range h0 h1 i
      one_place
      exact rfl
    · obtain ⟨y, rfl, rfl⟩ := hP
      one_place
      exact q
end
end K94

set_option Elab.async false
set_option linter.all false
set_option maxRecDepth 100000
set_option maxHeartbeats 800000
set_option exponentiation.threshold 10000

namespace K94
open PySem PySem.Spec PyProof.Rows L2 Wk
section
variable {P : Program} {w : World} {K : PySem.W.Frag} {mg : Str → Option Value} {base : Heap}
theorem sc_solved_floor : FnScope ["other", "result"] ["other", "result"] (defScope s_solved_floor) := ⟨rfl, rfl, rfl, by decide +kernel, rfl, by decide +kernel, by decide +kernel⟩
def sp_solved_floor : Sp := fun vs H Q _ => ∃ o r : Int, vs = [.int o, .int r] ∧ InR o ∧ InR r ∧ ∀ v H', Same H H' → TlV H' v (floorT o r) → Q v H'
theorem cal_solved_floor (T : Tx K mg) : C8.Cal P w K mg base 3 "solved_floor" sp_solved_floor [] := by
  obtain ⟨fd, F⟩ := f_solved_floor T
  refine cal_of F (g_solved_floor T) (F.bindsN fun _ _ _ _ _ _ us hl => match us, hl with | [_, _], _ => rfl) sc_solved_floor (fun vs H Q E h => ?_) (fun cdv A outer s H vs Q E hr h => ?_)
  · obtain ⟨o, r, rfl, _⟩ := h
    rfl

  · obtain ⟨o, r, rfl, ho, hr', q⟩ := h
    refine ⟨_, (pss_cons (ps_if (pt_cmpR op_eq (pv 0) pe_int (nomark _)) (pss_one (ps_ret pe_non)) pss_nil)
      (pss_cons (ps_if (pt_cmpR op_eq (pv 0) (pe_wk (v := .int (-1)) (pe_un un_neg pe_int) fun _ _ _ q => ⟨_, rfl, Wk.q_of q (by first | rfl | decide +kernel)⟩) (nomark _)) (pss_one (ps_ret (C8.pe_c (cal_row_told T) hr (by decide) (by rfl) (pa_cons (C8.pe_c (cal_wrapped T) hr (by decide) (by rfl) (pa_cons (pe_op op_sub pe_int (pv 1)) pa_nil)) (pa_cons pe_int (pa_cons pe_int pa_nil)))))) pss_nil)
      (pss_cons (ps_if (pt_cmpR op_gt (pv 0) pe_int (nomark _)) (pss_one (ps_ret (C8.pe_c (cal_span T) hr (by decide) (by rfl) (pa_cons (pe_op op_mul (pv 1) (pv 0)) (pa_cons (pe_op op_sub (pe_op op_add (pe_op op_mul (pv 1) (pv 0)) (pv 0)) pe_int) pa_nil))))) pss_nil)
      (pss_one (ps_ret (C8.pe_c (cal_span T) hr (by decide) (by rfl) (pa_cons (pe_op op_add (pe_op op_mul (pe_op op_add (pv 1) pe_int) (pv 0)) pe_int) (pa_cons (pe_op op_mul (pv 1) (pv 0)) pa_nil)))))))), ?_⟩
    unfold floorT at q
    one_place
    refine ifd (fun c => ?_) (fun c => ?_)
    · have c := V.int.inj c
      rw [if_pos c] at q
      exact q _ _ (same_id H) rfl
    · have c : o ≠ 0 := fun z => c (by rw [z])
      rw [if_neg c] at q
      one_place
      refine ifd (fun d => ?_) (fun d => ?_)
      · have d := V.int.inj d
        rw [if_pos d] at q
        one_place
        exact q
      · have d : o ≠ -1 := fun z => d (by rw [z])
        rw [if_neg d] at q
        one_place
        unfold InR at *
        refine ifd (fun e => ?_) (fun e => ?_)
        · rw [if_pos e] at q
          one_place
          exact q
        · rw [if_neg e] at q
          one_place
          exact q
theorem sc_solved_mod : FnScope ["other", "result", "step", "first"] ["other", "result"] (defScope s_solved_mod) := ⟨rfl, rfl, rfl, by decide +kernel, rfl, by decide +kernel, by decide +kernel⟩
def sp_solved_mod : Sp := fun vs H Q _ => ∃ o r : Int, vs = [.int o, .int r] ∧ InR o ∧ InR r ∧ ∀ v H', Same H H' → TlV H' v (modT o r) → Q v H'
theorem cal_solved_mod (T : Tx K mg) : C8.Cal P w K mg base 2 "solved_mod" sp_solved_mod [] := by
  obtain ⟨fd, F⟩ := f_solved_mod T
  refine cal_of F (g_solved_mod T) (F.bindsN fun _ _ _ _ _ _ us hl => match us, hl with | [_, _], _ => rfl) sc_solved_mod (fun vs H Q E h => ?_) (fun cdv A outer s H vs Q E hr h => ?_)
  · obtain ⟨o, r, rfl, _⟩ := h
    rfl

  · obtain ⟨o, r, rfl, ho, hr', q⟩ := h
    refine ⟨_, (pss_cons (ps_if (PW.pt (pw_or (pt_cmpR op_eq (pv 0) pe_int (nomark _)) (pw_or (PW.pt (pw_and (pt_cmpR op_ne (pv 1) pe_int (nomark _)) (pw_and1 (pt_cmpR op_ne (pe_cmpR op_lt (pv 1) pe_int (nomark _)) (pe_cmpR op_lt (pv 0) pe_int (nomark _)) (nomark _))))) (pw_or1 (pt_cmpR op_ge (pe_callB call_abs (by rfl) (m_abs T) (by decide +kernel) (pa_cons (pv 1) pa_nil)) (pe_callB call_abs (by rfl) (m_abs T) (by decide +kernel) (pa_cons (pv 0) pa_nil)) (nomark _)))))) (pss_one (ps_ret pe_non)) pss_nil)
      (pss_cons (ps_set (i := 2) sc_solved_mod.nd rfl (.inl rfl) (pe_callB call_abs (by rfl) (m_abs T) (by decide +kernel) (pa_cons (pv 0) pa_nil)))
      (pss_cons (ps_set (i := 3) sc_solved_mod.nd rfl (.inl rfl) (pe_op op_add (C8.pe_gc (by rfl) (k_LEAST T)) (pe_op op_mod (pe_op op_sub (pv 1) (C8.pe_gc (by rfl) (k_LEAST T))) (pv 2))))
      (pss_one (ps_ret (C8.pe_c (cal_row_told T) hr (by decide) (by rfl) (pa_cons (pv 3) (pa_cons (pv 2) (pa_cons (pe_op op_add (pe_op op_fdivW (pe_op op_sub (C8.pe_gc (by rfl) (k_MOST T)) (pv 3)) (pv 2)) pe_int) pa_nil))))))))), ?_⟩
    unfold modT at q
    refine if_bs (decide (o = 0 ∨ (r ≠ 0 ∧ decide (r < 0) ≠ decide (o < 0)) ∨ iabs o ≤ iabs r)) (fun Q' q' => ?_) ?_
    · one_place
      refine ifd (fun c => ?_) (fun c => ?_)
      · rw [decide_eq_true (.inl (V.int.inj c))] at q'
        exact q'
      · have c : o ≠ 0 := fun z => c (by rw [z])
        have last : ∀ {b : Bool}, b = decide (iabs o ≤ iabs r) → ¬ (r ≠ 0 ∧ decide (r < 0) ≠ decide (o < 0)) → Q' b H := fun {b} e n => by
          rw [e]
          by_cases z : iabs o ≤ iabs r
          · rw [decide_eq_true z]
            rw [decide_eq_true (.inr (.inr z))] at q'
            exact q'
          · rw [decide_eq_false z]
            rw [decide_eq_false (by rintro (a | a | a) <;> contradiction)] at q'
            exact q'
        one_place
        refine ifn (fun c2 => ?_) (fun c2 => ?_)
        · have c2 : r ≠ 0 := fun z => c2 (by rw [z])
          one_place
          refine ifnb (fun c3 => ?_) (fun c3 => ?_)
          · rw [decide_eq_true (.inr (.inl ⟨c2, c3⟩))] at q'
            exact q'
          · one_place
            exact last rfl fun z => z.2 c3
        · one_place
          exact last rfl fun z => z.1 (V.int.inj c2)
    · refine ifd (fun c => ?_) (fun c => ?_)
      · rw [if_pos c] at q
        exact q _ _ (same_id H) rfl
      · rw [if_neg c] at q
        have p := iabs_pos (o := o) (fun z => c (.inl z))
        have p2 : iabs o < 2 ^ 65 := by unfold iabs InR at *; split <;> omega
        have e : (if o < 0 then -o else o) = iabs o := rfl
        one_place
        exact q
theorem sc_solved_and : FnScope ["other", "result"] ["other", "result"] (defScope s_solved_and) := ⟨rfl, rfl, rfl, by decide +kernel, rfl, by decide +kernel, by decide +kernel⟩
def sp_solved_and : Sp := fun vs H Q _ => ∃ o r : Int, vs = [.int o, .int r] ∧ ∀ v H', Same H H' → TlV H' v (if bAnd r (bNot o) = 0 then bitsT r (bNot o) else .non) → Q v H'
theorem cal_solved_and (T : Tx K mg) : C8.Cal P w K mg base 3 "solved_and" sp_solved_and [] := by
  obtain ⟨fd, F⟩ := f_solved_and T
  refine cal_of F (g_solved_and T) (F.bindsN fun _ _ _ _ _ _ us hl => match us, hl with | [_, _], _ => rfl) sc_solved_and (fun vs H Q E h => ?_) (fun cdv A outer s H vs Q E hr h => ?_)
  · obtain ⟨o, r, rfl, _⟩ := h
    rfl

  · obtain ⟨o, r, rfl, q⟩ := h
    refine ⟨_, (pss_one (ps_ret (pe_ifExp (pt_cmpR op_eq (pe_op op_and (pv 1) (pe_un un_inv (pv 0))) pe_int (nomark _)) (C8.pe_c (cal_bits_told T) hr (by decide) (by rfl) (pa_cons (pv 1) (pa_cons (pe_un un_inv (pv 0)) pa_nil))) pe_non))), ?_⟩
    one_place
    refine ifi (fun c => ?_) (fun c => ?_)
    · rw [if_pos c] at q
      one_place
      exact q
    · rw [if_neg c] at q
      exact q _ _ (same_id H) rfl
theorem sc_solved_or : FnScope ["other", "result"] ["other", "result"] (defScope s_solved_or) := ⟨rfl, rfl, rfl, by decide +kernel, rfl, by decide +kernel, by decide +kernel⟩
def sp_solved_or : Sp := fun vs H Q _ => ∃ o r : Int, vs = [.int o, .int r] ∧ ∀ v H', Same H H' → TlV H' v (if bAnd o (bNot r) = 0 then bitsT (bAnd r (bNot o)) o else .non) → Q v H'
theorem cal_solved_or (T : Tx K mg) : C8.Cal P w K mg base 3 "solved_or" sp_solved_or [] := by
  obtain ⟨fd, F⟩ := f_solved_or T
  refine cal_of F (g_solved_or T) (F.bindsN fun _ _ _ _ _ _ us hl => match us, hl with | [_, _], _ => rfl) sc_solved_or (fun vs H Q E h => ?_) (fun cdv A outer s H vs Q E hr h => ?_)
  · obtain ⟨o, r, rfl, _⟩ := h
    rfl

  · obtain ⟨o, r, rfl, q⟩ := h
    refine ⟨_, (pss_one (ps_ret (pe_ifExp (pt_cmpR op_eq (pe_op op_and (pv 0) (pe_un un_inv (pv 1))) pe_int (nomark _)) (C8.pe_c (cal_bits_told T) hr (by decide) (by rfl) (pa_cons (pe_op op_and (pv 1) (pe_un un_inv (pv 0))) (pa_cons (pv 0) pa_nil))) pe_non))), ?_⟩
    one_place
    refine ifi (fun c => ?_) (fun c => ?_)
    · rw [if_pos c] at q
      one_place
      exact q
    · rw [if_neg c] at q
      exact q _ _ (same_id H) rfl
theorem sc_solved_left : FnScope ["many", "result", "told", "low", "high"] ["many", "result"] (defScope s_solved_left) := ⟨rfl, rfl, rfl, by decide +kernel, rfl, by decide +kernel, by decide +kernel⟩
def sp_solved_left : Sp := fun vs H Q _ => ∃ m r : Int, vs = [.int m, .int r] ∧ ∀ v H', Same H H' → TlV H' v (leftT m r) → Q v H'
theorem cal_solved_left (T : Tx K mg) : C8.Cal P w K mg base 3 "solved_left" sp_solved_left [] := by
  obtain ⟨fd, F⟩ := f_solved_left T
  refine cal_of F (g_solved_left T) (F.bindsN fun _ _ _ _ _ _ us hl => match us, hl with | [_, _], _ => rfl) sc_solved_left (fun vs H Q E h => ?_) (fun cdv A outer s H vs Q E hr h => ?_)
  · obtain ⟨m, r, rfl, _⟩ := h
    rfl

  · obtain ⟨m, r, rfl, q⟩ := h
    refine ⟨_, (pss_cons (ps_if (pt_cmpR op_ge (pe_callB call_abs (by rfl) (m_abs T) (by decide +kernel) (pa_cons (pv 0) pa_nil)) (C8.pe_gc (by rfl) (k_BITS T)) (nomark _)) (pss_one (ps_ret (pe_ifExp (pt_cmpR op_eq (pv 1) pe_int (nomark _)) (C8.pe_c (cal_bits_told T) hr (by decide) (by rfl) (pa_cons pe_int (pa_cons (pe_op op_sub (C8.pe_gc (by rfl) (k_ALL_BITS T)) pe_int) pa_nil))) pe_non))) pss_nil)
      (pss_cons (ps_set (i := 2) sc_solved_left.nd rfl (.inl rfl) (pe_op op_mod (pv 1) (C8.pe_gc (by rfl) (k_ALL_BITS T))))
      (pss_cons (ps_if (pt_cmpR op_ge (pv 0) pe_int (nomark _)) (pss_cons (ps_set (i := 3) sc_solved_left.nd rfl (.inl rfl) (pe_op op_sub (pe_op op_shl1 pe_int (pe_op op_sub (C8.pe_gc (by rfl) (k_BITS T)) (pv 0))) pe_int))
      (pss_one (ps_ret (pe_ifExp (pt_cmpR op_eq (pe_op op_mod (pv 2) (pe_op op_shl1 pe_int (pv 0))) pe_int (nomark _)) (C8.pe_c (cal_bits_told T) hr (by decide) (by rfl) (pa_cons (pe_op op_shr (pv 2) (pv 0)) (pa_cons (pe_op op_sub (pe_op op_sub (C8.pe_gc (by rfl) (k_ALL_BITS T)) pe_int) (pv 3)) pa_nil))) pe_non)))) pss_nil)
      (pss_cons (ps_set (i := 4) sc_solved_left.nd rfl (.inl rfl) (pe_op op_sub (C8.pe_gc (by rfl) (k_ALL_BITS T)) (pe_op op_shl1 pe_int (pe_op op_sub pe_int (pv 0)))))
      (pss_one (ps_ret (pe_ifExp (pt_cmpR op_eq (pe_op op_shr (pv 2) (pe_op op_add (C8.pe_gc (by rfl) (k_BITS T)) (pv 0))) pe_int (nomark _)) (C8.pe_c (cal_bits_told T) hr (by decide) (by rfl) (pa_cons (pe_op op_shlW (pv 2) (pe_op op_sub pe_int (pv 0))) (pa_cons (pe_op op_sub (pe_op op_sub (C8.pe_gc (by rfl) (k_ALL_BITS T)) pe_int) (pv 4)) pa_nil))) pe_non))))))), ?_⟩
    unfold leftT at q
    one_place
    refine ifd (fun c => ?_) (fun c => ?_)
    · rw [if_pos (show 64 ≤ iabs m from c)] at q
      one_place
      refine ifi (fun d => ?_) (fun d => ?_)
      · rw [if_pos d] at q
        one_place
        exact q
      · rw [if_neg d] at q
        exact q _ _ (same_id H) rfl
    · rw [if_neg (show ¬ 64 ≤ iabs m from c)] at q
      have hm : -64 < m ∧ m < 64 := by
        have c : ¬ 64 ≤ (if m < 0 then -m else m) := c
        split at c <;> omega
      one_place
      refine ifd (fun d => ?_) (fun d => ?_)
      · rw [if_pos d] at q
        have hp := p2 m.toNat
        one_place
        refine ifi (fun c => ?_) (fun c => ?_)
        · rw [if_pos c] at q
          one_place
          exact q
        · rw [if_neg c] at q
          exact q _ _ (same_id H) rfl
      · rw [if_neg d] at q
        one_place
        refine ifi (fun c => ?_) (fun c => ?_)
        · rw [if_pos c] at q
          one_place
          exact q
        · rw [if_neg c] at q
          exact q _ _ (same_id H) rfl
theorem sc_solved_mul : FnScope ["other", "result", "twos", "step", "least", "first"] ["other", "result"] (defScope s_solved_mul) := ⟨rfl, rfl, rfl, by decide +kernel, rfl, by decide +kernel, by decide +kernel⟩
def sp_solved_mul : Sp := fun vs H Q _ => ∃ o r : Int, vs = [.int o, .int r] ∧ InR o ∧ InR r ∧ ∀ v H', Same H H' → TlV H' v (mulT (twosOf o) o r) → Q v H'
theorem cal_solved_mul (T : Tx K mg) : C8.Cal P w K mg base 3 "solved_mul" sp_solved_mul [] := by
  obtain ⟨fd, F⟩ := f_solved_mul T
  refine cal_of F (g_solved_mul T) (F.bindsN fun _ _ _ _ _ _ us hl => match us, hl with | [_, _], _ => rfl) sc_solved_mul (fun vs H Q E h => ?_) (fun cdv A outer s H vs Q E hr h => ?_)
  · obtain ⟨o, r, rfl, _⟩ := h
    rfl

  · obtain ⟨o, r, rfl, ho, hr', q⟩ := h
    refine ⟨_, (pss_cons (ps_if (pt_cmpR op_eq (pv 0) pe_int (nomark _)) (pss_one (ps_ret (pe_ifExp (pt_cmpR op_eq (pv 1) pe_int (nomark _)) (C8.pe_c (cal_bits_told T) hr (by decide) (by rfl) (pa_cons pe_int (pa_cons (pe_op op_sub (C8.pe_gc (by rfl) (k_ALL_BITS T)) pe_int) pa_nil))) pe_non))) pss_nil)
      (pss_cons (ps_set (i := 2) sc_solved_mul.nd rfl (.inl rfl) (pe_op op_sub (pe_bits (pe_op op_and (pv 0) (pe_op op_sub pe_int (pv 0)))) pe_int))
      (pss_cons (ps_if (pt_cmpR op_ne (pe_op op_mod (pv 1) (pe_op op_shl1 pe_int (pv 2))) pe_int (nomark _)) (pss_one (ps_ret pe_non)) pss_nil)
      (pss_cons (ps_set (i := 3) sc_solved_mul.nd rfl (.inl rfl) (pe_op op_fdivW (C8.pe_gc (by rfl) (k_ALL_BITS T)) (pe_op op_shl1 pe_int (pv 2))))
      (pss_cons (ps_set (i := 4) sc_solved_mul.nd rfl (.inl rfl) (pe_op op_mod (pe_op op_mul (pe_op op_shr (pv 1) (pv 2)) (C8.pe_c (cal_inverse T) hr (by decide) (by rfl) (pa_cons (pe_op op_mod (pe_op op_shr (pv 0) (pv 2)) (C8.pe_gc (by rfl) (k_ALL_BITS T))) pa_nil))) (pv 3)))
      (pss_cons (ps_set (i := 5) sc_solved_mul.nd rfl (.inl rfl) (pe_op op_add (pv 4) (pe_op op_mul (pe_op op_fdivW (C8.pe_gc (by rfl) (k_LEAST T)) (pv 3)) (pv 3))))
      (pss_cons (ps_set (i := 5) sc_solved_mul.nd rfl (.inl rfl) (pe_ifExp (pt_cmpR op_ge (pv 5) (C8.pe_gc (by rfl) (k_LEAST T)) (nomark _)) (pv 5) (pe_op op_add (pv 5) (pv 3))))
      (pss_one (ps_ret (C8.pe_c (cal_row_told T) hr (by decide) (by rfl) (pa_cons (pv 5) (pa_cons (pv 3) (pa_cons (pe_op op_shl1 pe_int (pv 2)) pa_nil))))))))))))), ?_⟩
    unfold mulT at q
    one_place
    refine ifi (fun c => ?_) (fun c => ?_)
    · rw [if_pos c] at q
      one_place
      refine ifi (fun d => ?_) (fun d => ?_)
      · rw [if_pos d] at q
        one_place
        exact q
      · rw [if_neg d] at q
        exact q _ _ (same_id H) rfl
    · rw [if_neg c] at q
      obtain ⟨t, u, ht, _, _, hb⟩ := twos c ho
      have et : twosOf o = t := by unfold twosOf; omega
      rw [et] at q
      have hp := p2 t
      have hp2 : (2 : Int) ^ t ≤ 2 ^ 63 := pow_le ht
      one_place
      dsimp only
      rw [hb]
      have es : (18446744073709551616 : Int) = 2 ^ (64 - t) * 2 ^ t := by rw [show (18446744073709551616 : Int) = 2 ^ 64 from rfl, ← Int.pow_add]; congr 1; omega
      have es2 : (18446744073709551616 : Int) / 2 ^ t = 2 ^ (64 - t) := by
        conv => lhs; rw [es]
        exact Int.mul_ediv_cancel _ (by omega)
      have hs : (0 : Int) < 18446744073709551616 / 2 ^ t ∧ (18446744073709551616 : Int) / 2 ^ t ≤ 2 ^ 64 := by
        rw [es2]
        exact ⟨p2 _, pow_le (by omega)⟩
      have hl : -9223372036854775808 ≤ -9223372036854775808 / ((18446744073709551616 : Int) / 2 ^ t) ∧ -9223372036854775808 / ((18446744073709551616 : Int) / 2 ^ t) < 1 := by
        generalize (18446744073709551616 : Int) / 2 ^ t = S at hs
        have a := Int.emod_add_mul_ediv (-9223372036854775808) S
        have b := Int.emod_nonneg (-9223372036854775808) (show S ≠ 0 by omega)
        have c := Int.emod_lt_of_pos (-9223372036854775808) hs.1
        refine ⟨?_, ?_⟩
        · rw [Int.le_ediv_iff_mul_le hs.1, Int.neg_mul]
          have := le_mulr (a := 9223372036854775808) (by omega) (show 1 ≤ S by omega)
          omega
        · rw [Int.ediv_lt_iff_lt_mul hs.1]
          omega
      have hq : InR (r / 2 ^ t) := by
        unfold InR at *
        refine ⟨?_, ?_⟩
        · rw [Int.le_ediv_iff_mul_le hp, Int.neg_mul]
          have := le_mulr (a := 9223372036854775808) (by omega) (show 1 ≤ (2 : Int) ^ t by omega)
          omega
        · have : r / 2 ^ t < 9223372036854775808 := by
            rw [Int.ediv_lt_iff_lt_mul hp]
            have := le_mulr (a := 9223372036854775808) (by omega) (show 1 ≤ (2 : Int) ^ t by omega)
            omega
          omega
      have hq1 : InR (r / 2 ^ (t : Int).toNat) := hq
      have hp1 : 0 < (2 : Int) ^ (t : Int).toNat := hp
      have hp3 : (2 : Int) ^ (t : Int).toNat ≤ 2 ^ 63 := hp2
      have hs1 : (0 : Int) < 18446744073709551616 / 2 ^ (t : Int).toNat ∧ (18446744073709551616 : Int) / 2 ^ (t : Int).toNat ≤ 2 ^ 64 := hs
      have hl1 : -9223372036854775808 ≤ -9223372036854775808 / ((18446744073709551616 : Int) / 2 ^ (t : Int).toNat) ∧ -9223372036854775808 / ((18446744073709551616 : Int) / 2 ^ (t : Int).toNat) < 1 := hl
      unfold InR at hq1
      refine ifni (fun d => ?_) (fun d => ?_)
      · rw [if_pos (show ¬ r % 2 ^ t = 0 from d)] at q
        exact q _ _ (same_id H) rfl
      · rw [if_neg (fun z => z (show r % 2 ^ t = 0 from d))] at q
        one_place
        refine ifd (fun e => ?_) (fun e => ?_)
        · rw [if_pos (show -9223372036854775808 ≤ r / 2 ^ t * invN (o / 2 ^ t % 18446744073709551616) 6 % (18446744073709551616 / 2 ^ t) + -9223372036854775808 / (18446744073709551616 / 2 ^ t) * (18446744073709551616 / 2 ^ t) from e)] at q
          one_place
          exact q
        · rw [if_neg (show ¬ -9223372036854775808 ≤ r / 2 ^ t * invN (o / 2 ^ t % 18446744073709551616) 6 % (18446744073709551616 / 2 ^ t) + -9223372036854775808 / (18446744073709551616 / 2 ^ t) * (18446744073709551616 / 2 ^ t) from e)] at q
          one_place
          exact q
end
end K94

set_option Elab.async false
set_option linter.all false
set_option maxRecDepth 100000
set_option maxHeartbeats 800000
set_option exponentiation.threshold 10000

namespace K94
open PySem PySem.Spec PyProof.Rows L2 Wk
section
variable {P : Program} {w : World} {K : PySem.W.Frag} {mg : Str → Option Value} {base : Heap}
theorem sc_check_equation : FnScope ["word", "other", "result"] ["word", "other", "result"] (defScope s_check_equation) := ⟨rfl, rfl, rfl, by decide +kernel, rfl, by decide +kernel, by decide +kernel⟩
def sp_check_equation : Sp := fun vs H Q _ => ∃ (wd : Wd) (o r : Int), vs = [.str wd.s, .int o, .int r] ∧ InR o ∧ InR r ∧ ∀ H', Same H H' → Q .non H'
theorem cal_check_equation (T : Tx K mg) : C8.Cal P w K mg base 2 "check_equation" sp_check_equation [] := by
  obtain ⟨fd, F⟩ := f_check_equation T
  refine cal_of F (g_check_equation T) (F.bindsN fun _ _ _ _ _ _ us hl => match us, hl with | [_, _, _], _ => rfl) sc_check_equation (fun vs H Q E h => ?_) (fun cdv A outer s H vs Q E hr h => ?_)
  · obtain ⟨wd, o, r, rfl, _⟩ := h
    rfl

  · obtain ⟨wd, o, r, rfl, ho, hr', q⟩ := h
    refine ⟨_, (pss_cons (ps_if (PW.pt (pw_or (pt_not (pt_val (pe_isS (n := "str") (m_isinstance T) (m_str T) (pv 0) (by decide +kernel)))) (pw_or1 (pt_cmpR op_notIn_seq (pv 0) (C8.pe_gc (by rfl) (k_WORDS T)) (by rfl))))) (pss_one ps_never) pss_nil)
      (pss_cons (ps_if (pt_not (pt_val (C8.pe_c (cal_is_whole_number T) hr (by decide) (by rfl) (pa_cons (pv 1) pa_nil)))) (pss_one ps_never) pss_nil)
      (pss_one (ps_if (pt_not (pt_val (C8.pe_c (cal_is_whole_number T) hr (by decide) (by rfl) (pa_cons (pv 2) pa_nil)))) (pss_one ps_never) pss_nil)))), ?_⟩
    refine no_s (fun Q' q' => ?_) fun H1 s1 => ?_
    · one_place
      refine ⟨_, _, rfl, .inr (t_WORDS T H), rfl, rfl, ?_⟩
      one_place
      cases wd <;> exact q' _ (same_id H)
    · refine no_s (fun Q' q' => ?_) fun H2 s2 => ?_
      · one_place
        exact nb (Q := Q') (decide_eq_true ho) (q' _ (same_id _))
      · refine no_1 (fun Q' q' => ?_) fun H3 s3 => ?_
        · one_place
          exact nb (Q := Q') (decide_eq_true hr') (q' _ (same_id _))
        · exact q _ (s1.trans (s2.trans s3))
theorem sc_count_of : FnScope ["told", "at"] ["told"] (defScope s_count_of) := ⟨rfl, rfl, rfl, by decide +kernel, rfl, by decide +kernel, by decide +kernel⟩
def sp_count_of : Sp := fun vs H Q _ => ∃ v t, vs = [v] ∧ TlV H v t ∧ OkT t ∧ ∀ H', Same H H' → Q (.int (cntT t)) H'
theorem cal_count_of (T : Tx K mg) : C8.Cal P w K mg base 1 "count_of" sp_count_of [] := by
  obtain ⟨fd, F⟩ := f_count_of T
  refine cal_of F (g_count_of T) (F.bindsN fun _ _ _ _ _ _ us hl => match us, hl with | [_], _ => rfl) sc_count_of (fun vs H Q E h => ?_) (fun cdv A outer s H vs Q E hr h => ?_)
  · obtain ⟨v, t, rfl, _⟩ := h
    rfl

  · obtain ⟨v, t, rfl, ht, ok, q⟩ := h
    refine ⟨_, (pss_cons (ps_if (pt_cmpR op_isN (pv 0) pe_non (nomark _)) (pss_one (ps_ret pe_int)) pss_nil)
      (pss_cons (ps_if (pt_cmpR op_eq (pe_ix (r := rIxT K) ix_tup (pv 0) pe_int (fun _ _ => rfl)) (C8.pe_gc (by rfl) (k_ROW T)) (nomark _)) (pss_one (ps_ret (pe_ix (r := rIxT K) ix_tup (pv 0) pe_int (fun _ _ => rfl)))) pss_nil)
      (pss_one (ps_ret (pe_op op_shl1 pe_int (pe_callB (cr_sum rfl) (by rfl) (m_sum T) (by decide +kernel) (pa_cons (pe_lc (own := [("at", 1)]) (g := gName 1) (tt := tYes) rfl sc_count_of.nd (pi_range1 rfl (m_range T) (pa_cons (C8.pe_gc (by rfl) (k_BITS T)) pa_nil)) (blkOk_by (N := ["told", "at"]) (sc := defScope s_count_of) (by decide +kernel)) (fun _ _ _ _ _ => pg_name (i := 1) sc_count_of.nd rfl (Or.inl rfl)) (fun _ _ _ _ _ => pts_nil) (fun _ _ _ _ _ => (pe_op op_and (pe_op op_shr (pe_op op_mod (pe_ix (r := rIxT K) ix_tup (pv 0) pe_int (fun _ _ => rfl)) (C8.pe_gc (by rfl) (k_ALL_BITS T))) (pv 1)) pe_int))) pa_nil))))))), ?_⟩
    cases t with
    | non =>
      cases ht
      one_place
      exact q _ (same_id H)
    | row f s m =>
      obtain ⟨p, rfl, hp⟩ := ht
      one_place
      exact q _ (same_id H)
    | bits b fr =>
      obtain ⟨p, rfl, hp⟩ := ht
      one_place
      refine lcs_range (n := 64) (j := 1) (fun i => .int (bAnd (fr % 18446744073709551616 / 2 ^ (0 + (i : Int)).toNat) 1)) (by rw [sizeLine_eq]; decide) (fun i H' hi s Q' k => ?_) (fun D H' s nD hD => ?_)
      · have hp := s _ _ hp
        one_place
        exact k _ (same_id _)
      · have e : (((List.range 64).map fun i : Nat => bAnd (fr % 18446744073709551616 / 2 ^ (0 + (i : Int)).toNat) 1)).sum = (popF (fr % 18446744073709551616) 64 0 : Int) := by
          rw [← pop_sum]
          congr 1
        refine ⟨D, (List.range 64).map fun i : Nat => bAnd (fr % 18446744073709551616 / 2 ^ (0 + (i : Int)).toNat) 1, rfl, .inl (.inl ?_), ?_⟩
        · rw [List.map_map]
          exact hD
        · rw [e]
          have q : ∀ H', Same H H' → Q (.int (2 ^ popF (fr % 18446744073709551616) 64 0)) H' := q
          have b := pop_le (fr % 18446744073709551616) 64 0
          generalize popF (fr % 18446744073709551616) 64 0 = pc at *
          one_place
          exact q _ s
theorem sc_check_solution : FnScope ["told", "part"] ["told"] (defScope s_check_solution) := ⟨rfl, rfl, rfl, by decide +kernel, rfl, by decide +kernel, by decide +kernel⟩
def sp_check_solution : Sp := fun vs H Q _ => ∃ v t, vs = [v] ∧ TlV H v t ∧ OkT t ∧ ∀ H', Same H H' → Q .non H'
theorem cal_check_solution (T : Tx K mg) : C8.Cal P w K mg base 2 "check_solution" sp_check_solution [] := by
  obtain ⟨fd, F⟩ := f_check_solution T
  refine cal_of F (g_check_solution T) (F.bindsN fun _ _ _ _ _ _ us hl => match us, hl with | [_], _ => rfl) sc_check_solution (fun vs H Q E h => ?_) (fun cdv A outer s H vs Q E hr h => ?_)
  · obtain ⟨v, t, rfl, _⟩ := h
    rfl

  · obtain ⟨v, t, rfl, ht, ok, q⟩ := h
    refine ⟨_, (pss_cons (ps_if (pt_cmpR op_isN (pv 0) pe_non (nomark _)) (pss_one ps_retN) pss_nil)
      (pss_cons (ps_if (PW.pt (pw_or (pt_not (pt_val (pe_isS (n := "tuple") (m_isinstance T) (m_tuple T) (pv 0) (by decide +kernel)))) (pw_or (pt_cmpR (op_eqD hr.units) (pv 0) (pe_tup pa_nil) (nomark _)) (pw_or1 (pt_not (pt_val (pe_isS (n := "str") (m_isinstance T) (m_str T) (pe_ix (r := rIxT K) ix_tup (pv 0) pe_int (fun _ _ => rfl)) (by decide +kernel)))))))) (pss_one ps_never) pss_nil)
      (pss_cons (ps_if (PW.pt (pw_or (pt_cmpR op_ne (pe_callB call_len (by rfl) (m_len T) (by decide +kernel) (pa_cons (pv 0) pa_nil)) (pe_dget2 (hu_of hr) (pe_disp (pps_cons (C8.pe_gc (by rfl) (k_ROW T)) pe_int (pps_cons (C8.pe_gc (by rfl) (k_FREE T)) pe_int pps_nil)) (by rfl) (by rfl) (fun z => by cases z) (by decide)) (pe_ix (r := rIxT K) ix_tup (pv 0) pe_int (fun _ _ => rfl)) pe_int ⟨rfl, rfl, rfl, rfl⟩) (nomark _)) (pw_or1 (pt_not (pt_val (pe_callB (cr_all rfl) (by rfl) (m_all T) (by decide +kernel) (pa_cons (pe_lc (own := [("part", 1)]) (g := gName 1) (tt := tYes) rfl sc_check_solution.nd (pi_tup (pe_slice (r := rSlT K) sl_tup (pv 0) (po_some pe_int) po_none)) (blkOk_by (N := ["told", "part"]) (sc := defScope s_check_solution) (by decide +kernel)) (fun _ _ _ _ _ => pg_name (i := 1) sc_check_solution.nd rfl (Or.inl rfl)) (fun _ _ _ _ _ => pts_nil) (fun _ _ _ _ _ => (C8.pe_c (cal_is_whole_or_many T) hr (by decide) (by rfl) (pa_cons (pv 1) pa_nil)))) pa_nil))))))) (pss_one ps_never) pss_nil)
      (pss_cons (ps_if (PW.pt (pw_and (pt_cmpR op_eq (pe_ix (r := rIxT K) ix_tup (pv 0) pe_int (fun _ _ => rfl)) (C8.pe_gc (by rfl) (k_ROW T)) (nomark _)) (pw_and1 (PW.pt (pw_or (pt_cmpR op_lt (pe_ix (r := rIxT K) ix_tup (pv 0) pe_int (fun _ _ => rfl)) pe_int (nomark _)) (pw_or (pt_cmpR op_lt (pe_ix (r := rIxT K) ix_tup (pv 0) pe_int (fun _ _ => rfl)) pe_int (nomark _)) (pw_or1 (pt_not (pt_val (C8.pe_c (cal_is_whole_number T) hr (by decide) (by rfl) (pa_cons (pe_ix (r := rIxT K) ix_tup (pv 0) pe_int (fun _ _ => rfl)) pa_nil))))))))))) (pss_one ps_never) pss_nil)
      (pss_cons (ps_if (PW.pt (pw_or (PW.pt (pw_and (pt_cmpR op_eq (pe_ix (r := rIxT K) ix_tup (pv 0) pe_int (fun _ _ => rfl)) (C8.pe_gc (by rfl) (k_ROW T)) (nomark _)) (pw_and1 (pt_cmpR op_gt (pe_op op_add (pe_ix (r := rIxT K) ix_tup (pv 0) pe_int (fun _ _ => rfl)) (pe_op op_mul (pe_ix (r := rIxT K) ix_tup (pv 0) pe_int (fun _ _ => rfl)) (pe_op op_sub (pe_ix (r := rIxT K) ix_tup (pv 0) pe_int (fun _ _ => rfl)) pe_int))) (C8.pe_gc (by rfl) (k_MOST T)) (nomark _))))) (pw_or1 (PW.pt (pw_and (pt_cmpR op_eq (pe_ix (r := rIxT K) ix_tup (pv 0) pe_int (fun _ _ => rfl)) (C8.pe_gc (by rfl) (k_FREE T)) (nomark _)) (pw_and1 (pt_cmpR op_ne (pe_op op_and (pe_ix (r := rIxT K) ix_tup (pv 0) pe_int (fun _ _ => rfl)) (pe_ix (r := rIxT K) ix_tup (pv 0) pe_int (fun _ _ => rfl))) pe_int (nomark _)))))))) (pss_one ps_never) pss_nil)
      (pss_one (ps_if (PW.pt (pw_and (pt_cmpR op_eq (pe_ix (r := rIxT K) ix_tup (pv 0) pe_int (fun _ _ => rfl)) (C8.pe_gc (by rfl) (k_FREE T)) (nomark _)) (pw_and1 (pt_not (pt_val (pe_callB (cr_all rfl) (by rfl) (m_all T) (by decide +kernel) (pa_cons (pe_lc (own := [("part", 1)]) (g := gName 1) (tt := tYes) rfl sc_check_solution.nd (pi_tup (pe_slice (r := rSlT K) sl_tup (pv 0) (po_some pe_int) po_none)) (blkOk_by (N := ["told", "part"]) (sc := defScope s_check_solution) (by decide +kernel)) (fun _ _ _ _ _ => pg_name (i := 1) sc_check_solution.nd rfl (Or.inl rfl)) (fun _ _ _ _ _ => pts_nil) (fun _ _ _ _ _ => (C8.pe_c (cal_is_whole_number T) hr (by decide) (by rfl) (pa_cons (pv 1) pa_nil)))) pa_nil))))))) (pss_one ps_never) pss_nil))))))), ?_⟩
    cases t with
    | non =>
      cases ht
      one_place
      exact q _ (same_id H)
    | row f s0 m =>
      obtain ⟨p, rfl, hp⟩ := ht
      refine no_s (fun Q' q' => ?_) fun H1 s1 => ?_
      · one_place
        exact q' _ (same_id H)
      have hp1 := s1 _ _ hp
      refine no_s (fun Q' q' => ?_) fun H2 s2 => ?_
      · one_place
        intro e ne
        have hpe : (upd H1 e (.tup [])) p = some (.tup [V.str "row", V.int f, V.int s0, V.int m]) := by
          rw [upd_ne (ne_of_none hp1 ne)]
          exact hp1
        refine ⟨.tuple [.str "row", .int f, .int s0, .int m], .tuple [], .tup (SqT.of hpe) (.cons (.str _) (.cons (.int _) (.cons (.int _) (.cons (.int _) .nil)))), .tup (SqT.of upd_same) .nil, shaped_tup ⟨by decide +kernel, rfl, rfl, rfl, trivial⟩, shaped_tup trivial, ?_⟩
        one_place
        exact q' _ (same_new ne)
      have hp2 := s2 _ _ hp1
      refine no_s (fun Q' q' => ?_) fun H3 s3 => ?_
      · one_place
        intro e ne
        one_place
        refine ⟨upd_same, [(.inr "row", .int 4), (.inr "bits", .int 3)], rfl, by decide, ?_⟩
        have hpe : ∀ o, (upd (upd H2 e (.dK [])) e o) p = some (.tup [V.str "row", V.int f, V.int s0, V.int m]) := fun o => by
          rw [upd_ne (ne_of_none hp2 ne), upd_ne (ne_of_none hp2 ne)]
          exact hp2
        refine ⟨_, rfl, .inl ⟨_, .inl upd_same⟩, ?_⟩
        refine ⟨_, rfl, _, _, _, _, rfl, rfl, SqT.of (hpe _), rfl, ?_⟩
        refine ⟨_, .inl ⟨_, .inr "row", .inl upd_same, rfl, rfl⟩, ?_⟩
        one_place
        refine ⟨_, _, rfl, SqT.of (hpe _), (by show ¬ (HT.sIx 4 0 (some 1) = 0 ∧ HT.sIx 4 4 none = 4); decide), fun t nt => ?_⟩
        refine ⟨_, rfl, ⟨_, SqT.of upd_same⟩, ?_⟩
        refine lcs_tup (j := 1) (xs := [.int f, .int s0, .int m]) (fun _ => .bl true) upd_same (small1000 (Nat.le_of_ble_eq_true rfl)) (fun i x H' hi hx s Q'' k => ?_) (fun D H' s nD hD => ?_)
        · have hx : x = .int f ∨ x = .int s0 ∨ x = .int m := by
            match i, hx with
            | 0, hx => exact .inl (Option.some.inj hx).symm
            | 1, hx => exact .inr (.inl (Option.some.inj hx).symm)
            | 2, hx => exact .inr (.inr (Option.some.inj hx).symm)
          obtain ⟨o1, o2, o3, o4, o5, o6⟩ := ok
          unfold InR at o1
          rcases hx with rfl | rfl | rfl
          · one_place
            exact k _ (same_id _)
          · one_place
            exact k _ (same_id _)
          · one_place
            exact k _ (same_id _)
        · refine ⟨D, [true, true, true], rfl, .inl (.inl hD), ?_⟩
          one_place
          exact q' _ ((same_on (same_new ne) ne).trans ((same_new nt).trans s))
      have hp3 := s3 _ _ hp2
      obtain ⟨o1, o2, o3, o4, o5, o6⟩ := ok
      refine no_s (fun Q' q' => ?_) fun H4 s4 => ?_
      · one_place
        refine if_f (decide_eq_false (by omega)) ?_
        one_place
        refine if_f (decide_eq_false (by omega)) ?_
        one_place
        exact nb (Q := Q') (decide_eq_true o1) (q' _ (same_id _))
      have hp4 := s4 _ _ hp3
      refine no_s (fun Q' q' => ?_) fun H5 s5 => ?_
      · one_place
        refine if_f (decide_eq_false (by omega)) ?_
        one_place
        exact q' _ (same_id _)
      have hp5 := s5 _ _ hp4
      refine no_1 (fun Q' q' => ?_) fun H6 s6 => ?_
      · one_place
        exact q' _ (same_id _)
      exact q _ (s1.trans (s2.trans (s3.trans (s4.trans (s5.trans s6)))))
    | bits b fr =>
      obtain ⟨p, rfl, hp⟩ := ht
      refine no_s (fun Q' q' => ?_) fun H1 s1 => ?_
      · one_place
        exact q' _ (same_id H)
      have hp1 := s1 _ _ hp
      refine no_s (fun Q' q' => ?_) fun H2 s2 => ?_
      · one_place
        intro e ne
        have hpe : (upd H1 e (.tup [])) p = some (.tup [V.str "bits", V.int b, V.int fr]) := by
          rw [upd_ne (ne_of_none hp1 ne)]
          exact hp1
        refine ⟨.tuple [.str "bits", .int b, .int fr], .tuple [], .tup (SqT.of hpe) (.cons (.str _) (.cons (.int _) (.cons (.int _) .nil))), .tup (SqT.of upd_same) .nil, shaped_tup ⟨by decide +kernel, rfl, rfl, trivial⟩, shaped_tup trivial, ?_⟩
        one_place
        exact q' _ (same_new ne)
      have hp2 := s2 _ _ hp1
      refine no_s (fun Q' q' => ?_) fun H3 s3 => ?_
      · one_place
        intro e ne
        one_place
        refine ⟨upd_same, [(.inr "row", .int 4), (.inr "bits", .int 3)], rfl, by decide, ?_⟩
        have hpe : ∀ o, (upd (upd H2 e (.dK [])) e o) p = some (.tup [V.str "bits", V.int b, V.int fr]) := fun o => by
          rw [upd_ne (ne_of_none hp2 ne), upd_ne (ne_of_none hp2 ne)]
          exact hp2
        refine ⟨_, rfl, .inl ⟨_, .inl upd_same⟩, ?_⟩
        refine ⟨_, rfl, _, _, _, _, rfl, rfl, SqT.of (hpe _), rfl, ?_⟩
        refine ⟨_, .inl ⟨_, .inr "bits", .inl upd_same, rfl, rfl⟩, ?_⟩
        one_place
        refine ⟨_, _, rfl, SqT.of (hpe _), (by show ¬ (HT.sIx 3 0 (some 1) = 0 ∧ HT.sIx 3 3 none = 3); decide), fun t nt => ?_⟩
        refine ⟨_, rfl, ⟨_, SqT.of upd_same⟩, ?_⟩
        refine lcs_tup (j := 1) (xs := [.int b, .int fr]) (fun _ => .bl true) upd_same (small1000 (Nat.le_of_ble_eq_true rfl)) (fun i x H' hi hx s Q'' k => ?_) (fun D H' s nD hD => ?_)
        · have hx : x = .int b ∨ x = .int fr := by
            match i, hx with
            | 0, hx => exact .inl (Option.some.inj hx).symm
            | 1, hx => exact .inr (Option.some.inj hx).symm
          obtain ⟨o1, o2, o3⟩ := ok
          unfold InR at o1 o2
          rcases hx with rfl | rfl
          · one_place
            exact k _ (same_id _)
          · one_place
            exact k _ (same_id _)
        · refine ⟨D, [true, true], rfl, .inl (.inl hD), ?_⟩
          one_place
          exact q' _ ((same_on (same_new ne) ne).trans ((same_new nt).trans s))
      have hp3 := s3 _ _ hp2
      obtain ⟨o1, o2, o3⟩ := ok
      refine no_s (fun Q' q' => ?_) fun H4 s4 => ?_
      · one_place
        exact q' _ (same_id _)
      have hp4 := s4 _ _ hp3
      refine no_s (fun Q' q' => ?_) fun H5 s5 => ?_
      · one_place
        exact yb (Q := Q') (c := false) (by show (!decide (V.int (bAnd b fr) = V.int 0)) = false; rw [o3]; rfl) (q' _ (same_id _))
      have hp5 := s5 _ _ hp4
      refine no_1 (fun Q' q' => ?_) fun H6 s6 => ?_
      · one_place
        refine ⟨_, _, rfl, SqT.of hp5, (by show ¬ (HT.sIx 3 0 (some 1) = 0 ∧ HT.sIx 3 3 none = 3); decide), fun t nt => ?_⟩
        refine ⟨_, rfl, ⟨_, SqT.of upd_same⟩, ?_⟩
        refine lcs_tup (j := 1) (xs := [.int b, .int fr]) (fun _ => .bl true) upd_same (small1000 (Nat.le_of_ble_eq_true rfl)) (fun i x H' hi hx s Q'' k => ?_) (fun D H' s nD hD => ?_)
        · have hx : x = .int b ∨ x = .int fr := by
            match i, hx with
            | 0, hx => exact .inl (Option.some.inj hx).symm
            | 1, hx => exact .inr (Option.some.inj hx).symm
          rcases hx with rfl | rfl
          · one_place
            exact q_of (k _ (same_id _)) (congrArg V.bl (decide_eq_true o1).symm)
          · one_place
            exact q_of (k _ (same_id _)) (congrArg V.bl (decide_eq_true o2).symm)
        · refine ⟨D, [true, true], rfl, .inl (.inl hD), ?_⟩
          one_place
          exact q' _ ((same_new nt).trans s)
      exact q _ (s1.trans (s2.trans (s3.trans (s4.trans (s5.trans s6)))))
theorem sc_how_many_solve : FnScope ["told"] ["told"] (defScope s_how_many_solve) := ⟨rfl, rfl, rfl, by decide +kernel, rfl, by decide +kernel, by decide +kernel⟩
def sp_how_many_solve : Sp := fun vs H Q _ => ∃ v t, vs = [v] ∧ TlV H v t ∧ OkT t ∧ ∀ H', Same H H' → Q (.int (cntT t)) H'
theorem cal_how_many_solve (T : Tx K mg) : C8.Cal P w K mg base 3 "how_many_solve" sp_how_many_solve [] := by
  obtain ⟨fd, F⟩ := f_how_many_solve T
  refine cal_of F (g_how_many_solve T) (F.bindsN fun _ _ _ _ _ _ us hl => match us, hl with | [_], _ => rfl) sc_how_many_solve (fun vs H Q E h => ?_) (fun cdv A outer s H vs Q E hr h => ?_)
  · obtain ⟨v, t, rfl, _⟩ := h
    rfl

  · obtain ⟨v, t, rfl, ht, ok, q⟩ := h
    refine ⟨_, (pss_cons (ps_expr (C8.pe_c (cal_check_solution T) hr (by decide) (by rfl) (pa_cons (pv 0) pa_nil)))
      (pss_one (ps_ret (C8.pe_c (cal_count_of T) hr (by decide) (by rfl) (pa_cons (pv 0) pa_nil))))), ?_⟩
    one_place
    refine ⟨_, t, rfl, ht, ok, fun H1 s1 => ?_⟩
    one_place
    refine ⟨_, t, rfl, ht.same (fun p xs z => s1 _ _ z), ok, fun H2 s2 => ?_⟩
    exact q _ (s1.trans s2)
theorem sc_is_told : FnScope ["told", "number"] ["told", "number"] (defScope s_is_told) := ⟨rfl, rfl, rfl, by decide +kernel, rfl, by decide +kernel, by decide +kernel⟩
def sp_is_told : Sp := fun vs H Q _ => ∃ v t x, vs = [v, .int x] ∧ TlV H v t ∧ OkT t ∧ InR x ∧ ∀ b H', Same H H' → (b = true ↔ memT t x) → Q (.bl b) H'
theorem cal_is_told (T : Tx K mg) : C8.Cal P w K mg base 3 "is_told" sp_is_told [] := by
  obtain ⟨fd, F⟩ := f_is_told T
  refine cal_of F (g_is_told T) (F.bindsN fun _ _ _ _ _ _ us hl => match us, hl with | [_, _], _ => rfl) sc_is_told (fun vs H Q E h => ?_) (fun cdv A outer s H vs Q E hr h => ?_)
  · obtain ⟨v, t, x, rfl, _⟩ := h
    rfl

  · obtain ⟨v, t, x, rfl, ht, ok, hx, q⟩ := h
    refine ⟨_, (pss_cons (ps_expr (C8.pe_c (cal_check_solution T) hr (by decide) (by rfl) (pa_cons (pv 0) pa_nil)))
      (pss_cons (ps_if (PW.pt (pw_or (pt_cmpR op_isN (pv 0) pe_non (nomark _)) (pw_or1 (pt_not (pt_val (C8.pe_c (cal_is_whole_number T) hr (by decide) (by rfl) (pa_cons (pv 1) pa_nil))))))) (pss_one (ps_ret pe_bl)) pss_nil)
      (pss_cons (ps_if (pt_cmpR op_eq (pe_ix (r := rIxT K) ix_tup (pv 0) pe_int (fun _ _ => rfl)) (C8.pe_gc (by rfl) (k_FREE T)) (nomark _)) (pss_one (ps_ret (pe_cmpR op_eq (pe_op op_and (pv 1) (pe_un un_inv (pe_ix (r := rIxT K) ix_tup (pv 0) pe_int (fun _ _ => rfl)))) (pe_ix (r := rIxT K) ix_tup (pv 0) pe_int (fun _ _ => rfl)) (nomark _)))) pss_nil)
      (pss_one (ps_ret (pe_and (pe_chain op_le op_le (pe_ix (r := rIxT K) ix_tup (pv 0) pe_int (fun _ _ => rfl)) (pv 1) (pe_op op_add (pe_ix (r := rIxT K) ix_tup (pv 0) pe_int (fun _ _ => rfl)) (pe_op op_mul (pe_ix (r := rIxT K) ix_tup (pv 0) pe_int (fun _ _ => rfl)) (pe_op op_sub (pe_ix (r := rIxT K) ix_tup (pv 0) pe_int (fun _ _ => rfl)) pe_int)))) (pe_one (pe_cmpR op_eq (pe_op op_mod (pe_op op_sub (pv 1) (pe_ix (r := rIxT K) ix_tup (pv 0) pe_int (fun _ _ => rfl))) (pe_ix (r := rIxT K) ix_tup (pv 0) pe_int (fun _ _ => rfl))) pe_int (nomark _))))))))), ?_⟩
    one_place
    refine ⟨_, t, rfl, ht, ok, fun H1 s1 => ?_⟩
    have ht := ht.same (H' := H1) (fun p xs z => s1 _ _ z)
    cases t with
    | non =>
      cases ht
      one_place
      exact q false _ s1 (Iff.intro (fun z => Bool.noConfusion z) fun z => False.elim z)
    | row f s0 m =>
      obtain ⟨p, rfl, hp⟩ := ht
      dsimp only
      refine no_s (fun Q' q' => ?_) fun H2 s2 => ?_
      · one_place
        exact nb (Q := Q') (decide_eq_true hx) (q' _ (same_id _))
      have hp2 := s2 _ _ hp
      have q := fun b => q b H2 (s1.trans s2)
      obtain ⟨o1, o2, o3, o4, o5, o6⟩ := ok
      one_place
      refine ifd (fun c => ?_) (fun c => ?_)
      · one_place
        refine ifd (fun c2 => ?_) (fun c2 => ?_)
        · one_place
          refine q _ ?_
          constructor
          · intro z
            exact ⟨c, c2, V.int.inj (of_decide_eq_true z)⟩
          · intro z
            exact decide_eq_true (congrArg V.int z.2.2)
        · refine q false ?_
          exact Iff.intro (fun z => Bool.noConfusion z) fun z => absurd z.2.1 c2
      · one_place
        refine q false ?_
        exact Iff.intro (fun z => Bool.noConfusion z) fun z => absurd z.1 c
    | bits b fr =>
      obtain ⟨p, rfl, hp⟩ := ht
      dsimp only
      refine no_s (fun Q' q' => ?_) fun H2 s2 => ?_
      · one_place
        exact nb (Q := Q') (decide_eq_true hx) (q' _ (same_id _))
      have hp2 := s2 _ _ hp
      one_place
      refine q _ _ (s1.trans s2) ?_
      constructor
      · intro z
        exact V.int.inj (of_decide_eq_true z)
      · intro z
        exact decide_eq_true (congrArg V.int z)
theorem sc_solution_at : FnScope ["told", "number", "found", "mask", "at"] ["told", "number"] (defScope s_solution_at) := ⟨rfl, rfl, rfl, by decide +kernel, rfl, by decide +kernel, by decide +kernel⟩
def sp_solution_at : Sp := fun vs H Q _ => ∃ v t n, vs = [v, .int n] ∧ TlV H v t ∧ OkT t ∧ 0 ≤ n ∧ n < cntT t ∧ ∀ H', Same H H' → Q (.int (solAt t n)) H'
theorem cal_solution_at (T : Tx K mg) : C8.Cal P w K mg base 3 "solution_at" sp_solution_at [] := by
  obtain ⟨fd, F⟩ := f_solution_at T
  refine cal_of F (g_solution_at T) (F.bindsN fun _ _ _ _ _ _ us hl => match us, hl with | [_, _], _ => rfl) sc_solution_at (fun vs H Q E h => ?_) (fun cdv A outer s H vs Q E hr h => ?_)
  · obtain ⟨v, t, n, rfl, _⟩ := h
    rfl

  · obtain ⟨v, t, n, rfl, ht, ok, h0, h1, q⟩ := h
    refine ⟨_, (pss_cons (ps_expr (C8.pe_c (cal_check_solution T) hr (by decide) (by rfl) (pa_cons (pv 0) pa_nil)))
      (pss_cons (ps_if (PW.pt (pw_or (pt_not (pt_val (pe_isS (n := "int") (m_isinstance T) (m_int T) (pv 1) (by decide +kernel)))) (pw_or (pt_val (pe_isS (n := "bool") (m_isinstance T) (m_bool T) (pv 1) (by decide +kernel))) (pw_or1 (pt_not (pt_chain op_le op_lt pe_int (pv 1) (C8.pe_c (cal_count_of T) hr (by decide) (by rfl) (pa_cons (pv 0) pa_nil)))))))) (pss_one ps_never) pss_nil)
      (pss_cons (ps_if (pt_cmpR op_eq (pe_ix (r := rIxT K) ix_tup (pv 0) pe_int (fun _ _ => rfl)) (C8.pe_gc (by rfl) (k_ROW T)) (nomark _)) (pss_one (ps_ret (pe_op op_add (pe_ix (r := rIxT K) ix_tup (pv 0) pe_int (fun _ _ => rfl)) (pe_op op_mul (pe_ix (r := rIxT K) ix_tup (pv 0) pe_int (fun _ _ => rfl)) (pv 1))))) pss_nil)
      (pss_cons (ps_par3 (i := 2) (j := 3) (l := 4) rfl sc_solution_at.nd rfl rfl rfl (by decide) (by decide) (by decide) rfl rfl rfl (pa_cons (pe_op op_mod (pe_ix (r := rIxT K) ix_tup (pv 0) pe_int (fun _ _ => rfl)) (C8.pe_gc (by rfl) (k_ALL_BITS T))) (pa_cons (pe_op op_mod (pe_ix (r := rIxT K) ix_tup (pv 0) pe_int (fun _ _ => rfl)) (C8.pe_gc (by rfl) (k_ALL_BITS T))) (pa_cons pe_int pa_nil))) (by rfl))
      (pss_cons (ps_while PassesOwn.never (pt_cmpR op_gt (pv 1) pe_int (nomark _))
      (pss_cons (ps_if (pt_cmpR op_eq (pe_op op_and (pe_op op_shr (pv 3) (pv 4)) pe_int) pe_int (nomark _)) (pss_cons (ps_set (i := 2) sc_solution_at.nd rfl (.inl rfl) (pe_op op_or (pv 2) (pe_op op_shlW (pe_op op_and (pv 1) pe_int) (pv 4))))
      (pss_one (ps_set (i := 1) sc_solution_at.nd rfl (.inl rfl) (pe_op op_shr (pv 1) pe_int)))) pss_nil)
      (pss_one (ps_aug (i := 4) sc_solution_at.nd rfl (.inl rfl) pe_int ip_add))))
      (pss_one (ps_ret (C8.pe_c (cal_wrapped T) hr (by decide) (by rfl) (pa_cons (pv 2) pa_nil))))))))), ?_⟩
    one_place
    refine ⟨_, t, rfl, ht, ok, fun H1 s1 => ?_⟩
    have ht1 := ht.same (H' := H1) (fun p xs z => s1 _ _ z)
    have hb := cnt_bound ok
    dsimp only
    refine no_s (fun Q' q' => ?_) fun H2 s2 => ?_
    · one_place
      refine if_t (decide_eq_true h0) ?_
      one_place
      refine ⟨_, t, rfl, ht1, ok, fun H2 s2 => ?_⟩
      one_place
      exact nb (Q := Q') (decide_eq_true h1) (q' _ s2)
    have ht2 := ht1.same (H' := H2) (fun p xs z => s2 _ _ z)
    cases t with
    | non => exact absurd h1 (by show ¬ n < 0; omega)
    | row f s0 m =>
      obtain ⟨p, rfl, hp⟩ := ht2
      obtain ⟨o1, o2, o3, o4, o5, o6⟩ := ok
      have h1 : n < m := h1
      one_place
      exact q _ (s1.trans s2)
    | bits b fr =>
      obtain ⟨p, rfl, hp⟩ := ht2
      have q : Q (.int (wrap (pd (fr % 18446744073709551616) 64 0 n (b % 18446744073709551616)))) H2 := q _ (s1.trans s2)
      have h1 : n < 2 ^ popF (fr % 18446744073709551616) 64 0 := h1
      generalize hR : pd (fr % 18446744073709551616) 64 0 n (b % 18446744073709551616) = R at q
      one_place
      refine ⟨fun k σ H' => H' = H2 ∧ ∃ (a : Nat) (n' fd : Int), a + k = 64 ∧ 0 ≤ n' ∧ n' < 2 ^ popF (fr % 18446744073709551616) k a ∧
        pd (fr % 18446744073709551616) k a n' fd = R ∧
        σ = [some (.ref p), some (.int n'), some (.int fd), some (.int (fr % 18446744073709551616)), some (.int a)],
        ⟨64, rfl, 0, n, _, rfl, h0, h1, hR, rfl⟩, fun k σ H' hW => ?_⟩
      obtain ⟨rfl, a, n', fd, hk, g0, g1, g2, rfl⟩ := hW
      have hb1 : Builtin.bitAnd n' 1 = n' % 2 := bitAnd_m1 n'
      generalize hm : fr % 18446744073709551616 = mask at *
      one_place
      refine ifd (fun c => ?_) (fun c => ?_)
      · obtain ⟨k, rfl⟩ : ∃ k', k = k' + 1 := by
          cases k with
          | zero =>
            have : n' < 2 ^ 0 := g1
            omega
          | succ k => exact ⟨k, rfl⟩
        refine ⟨fun σ' H'' => H'' = H' ∧ ∃ (a : Nat) (n' fd : Int), a + k = 64 ∧ 0 ≤ n' ∧ n' < 2 ^ popF mask k a ∧
          pd mask k a n' fd = R ∧
          σ' = [some (.ref p), some (.int n'), some (.int fd), some (.int mask), some (.int a)], fun σ' H'' h => ⟨k, by omega, h⟩, ?_⟩
        unfold pd at g2
        unfold popF at g1
        have hb2 : Builtin.bitAnd (mask / 2 ^ a) 1 = mask / 2 ^ a % 2 := bitAnd_m1 _
        have hb3 : Builtin.bitAnd (mask / 2 ^ (a : Int).toNat) 1 = mask / 2 ^ a % 2 := hb2
        one_place
        refine ifi (fun d => ?_) (fun d => ?_)
        · have ht : tb mask a = true := decide_eq_true (by rw [← hb3]; exact d)
          rw [if_pos ht] at g1 g2
          one_place
          exact ⟨a + 1, n' / 2, bOr fd (n' % 2 * 2 ^ a), by omega, by omega, half_lt g1, g2, by rw [hb1]; rfl⟩
        · have ht : ¬ tb mask a = true := fun z => d (by rw [hb3]; exact of_decide_eq_true z)
          rw [if_neg ht, Nat.zero_add] at g1
          rw [if_neg ht] at g2
          one_place
          exact ⟨a + 1, n', fd, by omega, by omega, g1, g2, rfl⟩
      · have z : n' = 0 := by omega
        subst z
        rw [pd_zero] at g2
        rw [← g2] at q
        one_place
        exact q
end
end K94

set_option Elab.async false
set_option linter.all false
set_option maxRecDepth 100000
set_option maxHeartbeats 4000000
/-! an own exception class over ArithmeticError, with an __init__ that stores -/
namespace Aex
open PySem PySem.Spec PyProof.Rows L2 Wk
open PySem.W (Frag)
abbrev aeMro : List Value := [.type "ArithmeticError", .type "Exception", .type "BaseException", .type "object"]
structure ExcC (K : Frag) (C : Addr) : Prop where
  q : PySem.W.excInitIn K C aeMro "ArithmeticError.__new__" = true
  o : PySem.W.excOver K C aeMro = true
  sa : PySem.W.findIn K (.ref C) "__setattr__" = some (some (.builtin "object.__setattr__"))
  hd : PySem.W.hasDictIn K C = true
  exC : PySem.W.subIn K (.ref C) (.type "BaseException") = some true
  tyC : PySem.W.typeIn K (.ref C) = some (.type "type")
  kC : PySem.W.keepIn K (.ref C) = true
section
variable {prog : Program} {w : World} {A : Around} {E : Value → Shared → Prop} {s : Shared} {K : Frag} {C x t dx : Addr} {f : Str} {u : Value} {Q : Unit → Shared → Prop} {m0 : Str → Option Value} {ns : List Str}
/-- the first field -/
theorem store1 (T : ExcC K C) (X : K.In s.heap) (hx : s.heap.get? x = some (PySem.W.excObj C t none .none)) (ht : PySem.W.findIn K (.ref C) f = some none)
    (h : ∀ h' n dx, (∀ b o, b ≠ x → s.heap.get? b = some o → h'.get? b = some o) → s.heap.objs.size ≤ dx → dx ≠ x → h'.get? x = some (PySem.W.excObj C t (some dx) .none) →
      h'.Ns1 dx (fun y => if y = f then some u else none) → Q () { s with heap := h', toks := n }) : wpAny (model prog w) A (setAttr (.ref x) f u) Q E s := by
  have tk : PySem.W.takerIn K C f = some none := by
    unfold PySem.W.takerIn
    rw [ht]
    rfl
  refine PySem.W.set_plain (od := none) X ⟨hx, rfl, rfl, trivial⟩ T.sa (PySem.W.osa_openX (od := none) PySem.F.store_ArithmeticError X ⟨hx, rfl, rfl, trivial⟩ T.o tk fun b => ?_)
  obtain ⟨cd, hc, hd⟩ := PySem.W.any_some T.hd
  have nx := Nat.ne_of_lt (Heap.lt_size hx)
  refine wpAny_bind (wpAny_pure (wpAny_bind (PySem.W.instanceDict_exc (s := { s with toks := s.toks + 1 }) hx (PySem.W.looks_clsIn X hc) hd ?_)))
  refine PySem.HandSPX.store_in_new ?_ fun h' n hn k => ?_
  · refine ⟨_, #[], _, (Heap.get?_update_other _ _ nx).trans (Heap.get?_push_at rfl rfl), rfl, fun e he => absurd he (by simp), fun _ => rfl⟩
  · refine h h' n s.heap.objs.size (fun b o hb ho => ?_) (Nat.le_refl _) (Ne.symm nx) ?_ hn
    · rw [k.2 b (Nat.ne_of_lt (Heap.lt_size ho)), Heap.get?_update_other _ _ (Ne.symm hb)]
      exact Heap.get?_push_of_some _ ho
    · rw [k.2 x nx]
      exact Heap.get?_update_self _ (Heap.get?_push_of_some _ hx) rfl
/-- a later field -/
theorem store2 (T : ExcC K C) (X : K.In s.heap) (hx : s.heap.get? x = some (PySem.W.excObj C t (some dx) .none)) (hn : s.heap.Ns1 dx m0) (hw : Within m0 ns) (hz : ns.length ≤ 1000) (ht : PySem.W.findIn K (.ref C) f = some none)
    (h : ∀ h' n, (∀ b o, b ≠ dx → s.heap.get? b = some o → h'.get? b = some o) → h'.Ns1 dx (fun y => if y = f then some u else m0 y) → Q () { s with heap := h', toks := n }) : wpAny (model prog w) A (setAttr (.ref x) f u) Q E s := by
  have tk : PySem.W.takerIn K C f = some none := by
    unfold PySem.W.takerIn
    rw [ht]
    rfl
  obtain ⟨od, _, _, ho, _, _⟩ := hn.count hw
  refine PySem.W.set_plain (od := some od) X ⟨hx, rfl, rfl, ho⟩ T.sa (PySem.W.osa_openX (od := some od) PySem.F.store_ArithmeticError X ⟨hx, rfl, rfl, ho⟩ T.o tk fun b => ?_)
  obtain ⟨cd, hc, hd⟩ := PySem.W.any_some T.hd
  refine wpAny_bind (wpAny_pure (wpAny_bind (wpAny_bind (wpAny_loadPart hx (wpAny_bind (PySem.W.Looks.here (s := { s with toks := s.toks + 1 }) (PySem.W.looks_clsIn X hc) ?_))))))
  rw [hd]
  refine wpAny_pure (a := some dx) ?_
  exact PySem.OEX.store_in_old hn hw hz fun h' n hn' k => h h' n (fun b o hb q => (k.2 b hb).trans q) hn'
end
/-! ### in the hand's words -/
theorem exo_ne {e C b : Addr} {d : Option Addr} : exo e C d ≠ .own b := exo_own
section
variable {X : Cx} {pins : List (Addr × Obj)} {σ : L2.St} {H : Hp} {s : Shared} {a C dx : Addr} {f : Str} {y : V} {u : Value} {fs : List (Str × V)} {Q : Unit → Shared → Prop} {E : Value → Shared → Prop} {A : Around}
theorem st1 (T : ExcC X.K C) (I : Inv X pins σ H s) (e : H a = some (exo a C none)) (hno : PySem.W.findIn X.K (.ref C) f = some none) (r : RelV y u)
    (h : ∀ dx s', H dx = none → dx ≠ a → Inv X pins σ (upd (upd H dx (exd dx [(f, y)])) a (exo a C (some dx))) s' → Q () s') : wpAny (model X.prog X.w) A (setAttr (.ref a) f u) Q E s := by
  obtain ⟨t, ho⟩ := exo_at I.hok e
  refine store1 T I.kIn ho hno fun h' n dx k dn ne hx hn => ?_
  -- the heap between: the dict laid, the exception as it was
  have nd : H dx = none := I.hok.fresh dn
  have back : ∀ b, b ≠ a → (h'.update a fun _ => PySem.W.excObj C t none .none).get? b = h'.get? b := fun b hb => Heap.get?_update_other _ _ (Ne.symm hb)
  have backA : (h'.update a fun _ => PySem.W.excObj C t none .none).get? a = some (PySem.W.excObj C t none .none) := Heap.get?_update_self _ hx rfl
  have J1 : Inv X pins σ (upd H dx (exd dx [(f, y)])) { s with heap := h'.update a fun _ => PySem.W.excObj C t none .none, toks := n } := by
    refine I.laid (fun b o q => ?_) dn (exd_ok (hn.at fun o q => (back dx ne).trans q) (relO_put (fs := []) r fun g => True.intro))
    by_cases hb : b = a
    · subst hb
      exact backA.trans (ho.symm.trans q)
    · exact (back b hb).trans (k b o hb q)
  have ea : (upd H dx (exd dx [(f, y)])) a = some (exo a C none) := by
    rw [upd_ne (Ne.symm ne)]
    exact e
  have J2 := J1.write (h' := h') (t' := n) (x := a) (e := a) (o := exo a C (some dx)) (by rw [ea]; exact True.intro) (.inl rfl) (fun b o hb q => (back b hb).symm.trans q) ⟨_, hx⟩ (exo_ok hx)
  exact h dx _ nd ne J2
theorem st2 (T : ExcC X.K C) (I : Inv X pins σ H s) (e : H a = some (exo a C (some dx))) (ed : H dx = some (exd dx fs)) (hl : fs.length ≤ 900) (hno : PySem.W.findIn X.K (.ref C) f = some none) (r : RelV y u)
    (h : ∀ s', Inv X pins σ (upd H dx (exd dx ((f, y) :: fs))) s' → Q () s') : wpAny (model X.prog X.w) A (setAttr (.ref a) f u) Q E s := by
  obtain ⟨t, ho⟩ := exo_at I.hok e
  obtain ⟨mA, hn, rel⟩ := exd_at I.hok ed
  refine store2 T I.kIn ho hn (within_of rel) (by rw [List.length_map]; omega) hno fun h' n k hn' => ?_
  obtain ⟨o', es, ep, eo, er⟩ := id hn'
  exact h _ (I.write (t' := n) (x := dx) (e := dx) (by rw [ed]; exact True.intro) (.inl rfl) k ⟨o', eo⟩ (exd_ok hn' (relO_put r rel)))
theorem ini (T : ExcC X.K C) {us : List Value} {Q : Value → Shared → Prop} (I : Inv X pins σ H s) (e : H a = some (exo a C none)) (hl : us.length ≤ sizeLine) (h : ∀ s', Inv X pins σ H s' → Q .none s') :
    wpAny (model X.prog X.w) A (call (.builtin "ArithmeticError.__init__") (.ref a :: us)) Q E s := by
  obtain ⟨t, ho⟩ := exo_at I.hok e
  obtain ⟨nm, N, qn, bs, bm, hdct, sn, sub, ab, col, dd, k0, k1, k2, k3, k5, hC, hT⟩ := PySem.W.excInit_of I.kIn T.q
  obtain ⟨hp, g, d, tk, os⟩ := s
  refine wpAny_call (PySem.HandSPX.init_base PySem.F.excBase_ArithmeticError hT hC ho hl fun h' t2 k hx => ?_)
  have J := I.write (t' := tk) (x := a) (e := a) (o := exo a C none) (by rw [e]; exact True.intro) (.inl rfl) k ⟨_, hx⟩ (exo_ok hx)
  have same : upd H a (exo a C none) = H := funext fun b => by
    unfold upd
    split
    · rename_i z
      rw [z, e]
    · rfl
  exact h _ (same ▸ J)
end
theorem typ_ae : typeOf (.type "ArithmeticError") = pure (.type "type") := by kernel_rfl
theorem find_ae {K : Frag} : PySem.W.findCls K (.type "ArithmeticError") (.type "type") "__init__" = some (.val (.builtin "ArithmeticError.__init__")) := by kernel_rfl
/-- ArithmeticError.__init__(self, ..) -/
def tAeI (K : Frag) (ta : TA) : TE := fun σ H Q => ta σ H fun vs H1 => ∃ (a C : Addr) (ws : List V), vs = .ref a :: ws ∧ ws.length ≤ 1000 ∧ ExcC K C ∧ H1 a = some (exo a C none) ∧ Q .non H1
/-- self.f = e -/
def tStF (K : Frag) (f : Str) (to te : TE) : TS := fun D σ H => te σ H fun y H1 => to σ H1 fun x H2 => ∃ a C : Addr, x = .ref a ∧ ExcC K C ∧ PySem.W.findIn K (.ref C) f = some none ∧
  ((H2 a = some (exo a C none) ∧ ∀ dx, H2 dx = none → dx ≠ a → D.nx σ (upd (upd H2 dx (exd dx [(f, y)])) a (exo a C (some dx)))) ∨
    ∃ (dx : Addr) (fs : List (Str × V)), H2 a = some (exo a C (some dx)) ∧ H2 dx = some (exd dx fs) ∧ fs.length ≤ 900 ∧ D.nx σ (upd H2 dx (exd dx ((f, y) :: fs))))
/-- C(e, ..): what the exception's dict holds is not told -/
def tMk (C : Addr) (sp : Sp) (dvs : List V) (ta : TA) : L2.St → Hp → XK → Prop := fun σ H Q => ta σ H fun vs H1 => vs.length ≤ 1000 ∧ ∀ a, H1 a = none → sp (.ref a :: (vs ++ dvs)) (upd H1 a (exo a C none))
  (fun v H2 => v = .non ∧ ∃ (d : Addr) (fs : List (Str × V)), H2 a = some (exo a C (some d)) ∧ H2 d = some (exd d fs) ∧ H1 d = none ∧ Q (.ref C) (some d) (upd (del H2 a) d (.xd fs))) (fun _ _ _ => False)
section
variable {X : Cx} {o e : Expr} {es : List Expr} {to te : TE} {ta : TA} {f : Str} {p p' p1 p2 pos : Pos}
theorem pe_aeI {pl : Sem Bool} (hm : X.mg "ArithmeticError" = none) (ha : PA X (e :: es) ta) (hg : Gl X "ArithmeticError" := by rfl)
    (hc : eval (.Call (.Attribute (.Name "ArithmeticError" p1) "__init__" p2) (e :: es) [] pos) X.env = (do
      let c ← eval (.Name "ArithmeticError" p1) X.env
      standAt p2.atName
      let (g, l) ← holding [c] (getMethod c "__init__" pl)
      callWith pos g l (backTo pos (starEach (e :: es) X.env)) (backToKw pos (keywordEach [] X.env))) := by rfl)
    (he : starEach (e :: es) X.env = (false, eval e X.env) :: starEach es X.env := by rfl) (hpl : (backTo pos (starEach es X.env)).any (·.1) = false := by rfl) :
    PE X (.Call (.Attribute (.Name "ArithmeticError" p1) "__init__" p2) (e :: es) [] pos) (tAeI X.K ta) := by
  refine ⟨fun pins s σ H Q I h => ?_⟩
  obtain ⟨m, fr⟩ := I.fr
  refine PySem.W.methodCall_KW (ld_blt I hg hm (u := .type "ArithmeticError") rfl ?_ (by decide) (by decide)) hc
  refine PySem.W.method_type fr I.ok.mod.kin typ_ae (by decide +kernel) find_ae (by decide +kernel) ?_
  refine callWith_method1 (thn (ha.run pos pins _ σ H _ (I.tok _) h) fun us s1 q => ?_) he hpl
  obtain ⟨vs, H1, J, r, a, C, ws, rfl, hl, T, ea, q⟩ := q
  cases r with
  | @cons _ u0 _ ur r0 rr =>
    cases (show u0 = Value.ref a from r0)
    refine ini T J ea ?_ fun s' J' => ⟨.non, H1, J', rfl, q⟩
    have := Paired.length rr
    rw [sizeLine_eq]
    omega
theorem ps_stF (ho : PE X o to) (he : PE X e te) (hs : swapsWith e (some (.Attribute o f p')) pos.line X.env = pure false := by rfl) : PS X (.Assign [.Attribute o f p'] e pos) (tStF X.K f to te) := by
  refine ⟨fun pins s σ H D I h => plainObj_wpAny_Assign_Attribute (thn (he.run pins s σ H _ I h) fun v s1 q => ?_) hs⟩
  obtain ⟨y, H1, I1, r1, q1⟩ := q
  refine thn (ho.run pins s1 σ H1 _ I1 q1) fun v2 s2 q => ?_
  obtain ⟨x, H2, I2, r2, a, C, rfl, T, hno, q⟩ := q
  cases (show v2 = Value.ref a from r2)
  rcases q with q | q
  · exact st1 T I2 q.1 hno r1 fun dx s' n ne J => ⟨σ, _, J, q.2 dx n ne⟩
  · obtain ⟨dx, fs, ea, ed, hl, q⟩ := q
    exact st2 T I2 ea ed hl hno r1 fun s' J => ⟨σ, _, J, q⟩
theorem pmkT {x : Str} {C fI : Addr} {k : Nat} {fd : FuncData} {ps : List Str} {sp : Sp} {ds : List Value} {dvs : List V} (T : ExcC X.K C) (iC : PySem.W.findIn X.K (.ref C) "__init__" = some (some (.ref fI))) (tI : PySem.W.isFn X.K (.ref fI) = true)
    (G : FnOk X.prog X.w X.K X.mg X.base CX0 k fI fd ps sp) (hr : Room (k + 1) X.A) (hb : Binds X.K fd ps ds) (hd : Vals dvs ds) (hm : X.mg x = some (.ref C)) (ha : PA X (e :: es) ta) (hg : Gl X x := by rfl)
    (hdb : (x == ("__debug__" : Str)) = false := by decide) (he : starEach (e :: es) X.env = (false, eval e X.env) :: starEach es X.env := by rfl) (hpl : (backTo pos (starEach es X.env)).any (·.1) = false := by rfl) :
    PMk X (.Call (.Name x p) (e :: es) [] pos) (tMk C sp dvs ta) := by
  intro pins s σ H Q I h
  refine wpAny_Call_Name_kw (ld_glob I hg hm (PySem.W.callWith_K (h₀ := X.base) I.ok.mod.kin T.kC (thn (ha.run pos pins s σ H _ I h) fun us s1 q => ?_) he hpl) hdb)
  obtain ⟨vs, H1, I1, r1, hz, q⟩ := q
  refine ⟨I1.kIn, ?_⟩
  show wpAny _ _ (call (.ref C) us) _ _ _
  obtain ⟨nm, N, qn, bs, bm, hdct, sn, sub, ab, col, dd, k0, k1, k2, k3, k5, hC, hT⟩ := PySem.W.excInit_of I1.kIn T.q
  have hus : us.length ≤ sizeLine := by
    have := Paired.length r1
    rw [sizeLine_eq]
    omega
  have tI' : PySem.W.typeIn X.K (.ref fI) = some (.type "function") := beq_iff_eq.mp tI
  obtain ⟨hp, g, dr, tk, os⟩ := s1
  have big : hp.objs.size ≤ hp.objs.size + 1 := Nat.le_succ _
  have new := I1.hok.fresh (a := hp.objs.size + 1) big
  have q := q _ new
  have kk : ∀ b o, hp.get? b = some o → ((hp.push (PySem.W.kdv_tup us)).push (PySem.HandSPX.excO C hp.objs.size)).get? b = some o := fun b o z => Heap.get?_push_of_some _ (Heap.get?_push_of_some _ z)
  have J := I1.laid (t' := tk) (a := hp.objs.size + 1) (o := exo (hp.objs.size + 1) C none) (h' := (hp.push (PySem.W.kdv_tup us)).push (PySem.HandSPX.excO C hp.objs.size)) kk big (exo_ok (t1 := hp.objs.size) (by heap_get))
  have rr : Vals (V.ref (hp.objs.size + 1) :: (vs ++ dvs)) (Value.ref (hp.objs.size + 1) :: (us ++ ds)) := .cons rfl (r1.append hd)
  have hlen : ((Value.ref (hp.objs.size + 1) :: us) ++ ds).length = ps.length := (rr.length).symm.trans (G.len _ _ _ _ q)
  refine wpAny_call (PySem.HandSPX.call_own PySem.F.excBase_ArithmeticError hT hC (PySem.W.looks_findIn I1.kIn iC) (fun self => PySem.W.bind_fn I1.kIn self tI') hus
    (codeAny_mono (G.run _ X.stack _ _ ⟨Value.ref (hp.objs.size + 1) :: us, []⟩ (Value.ref (hp.objs.size + 1) :: (us ++ ds)) _ _ (fun _ _ _ => False) (hr.make C us []) (J.env0.make C us []) (hb _ (Value.ref (hp.objs.size + 1) :: us) J.kIn hlen) rr q) fun r s' z => ?_))
  rcases r with er | fl
  · exact False.elim z
  cases fl with
  | ret u =>
    obtain ⟨v, H2, e2, bare, un, ok2, rv, rfl, d, fs, ea, ed, hd1, q2⟩ := z
    obtain ⟨h2, g2, d2, t2, o2⟩ := s'
    exact ⟨rv, mk_end (raises_own T.exC T.tyC) I1 big kk un ok2 e2 bare ea ed hd1 q2⟩
  | next => exact False.elim z
  | brk => exact False.elim z
  | cont => exact False.elim z
end
end Aex

set_option Elab.async false
set_option linter.all false
set_option maxRecDepth 100000
set_option maxHeartbeats 4000000
namespace Wk
open PySem PySem.Spec PyProof.Rows L2
theorem ok_of {P : Program} {w : World} {K : PySem.W.Frag} {mg : Str → Option Value} {base : Heap} {x : Str} {params : Arguments} {body : List Stmt} {scope : Scope} {f : Addr} {fd : FuncData} {N ps : List Str} {k : Nat} {sp : Sp}
    (F : FunD K x x params body scope [] [] f fd) (S : FnScope N ps scope) (len : ∀ vs H Q E, sp vs H Q E → vs.length = ps.length)
    (hb : ∀ (cdv : Value) (A : Around) (outer : List Env) (s : Shared) (H : Hp) (vs : List V) (Q : VK) (E : XK), Room k (A.deeper (envOfC x scope s.heap.objs.size f cdv)) → sp vs H Q E →
      ∃ t, PSs (cxOf C8.CX0 P w K mg base N x scope f cdv A outer s H E).nox body t ∧ t { nx := fun _ H' => Q .non H', rt := Q } (start N vs) H) : FnOk P w K mg base C8.CX0 (k + 1) f fd ps sp :=
  F.ok S len fun cdv A outer s H vs Q E hr h => (hb cdv A outer s H vs Q E hr h).imp fun _ z => ⟨z.1.nox, z.2⟩
/-- a def that may let an exception out -/
structure CalX (P : Program) (w : World) (K : PySem.W.Frag) (mg : Str → Option Value) (base : Heap) (k : Nat) (x : Str) (sp : Sp) : Prop where
  ex : ∃ (f : Addr) (fd : FuncData) (ps : List Str), FnOk P w K mg base (L2.CX P w) k f fd ps sp ∧ mg x = some (.ref f) ∧ PySem.W.keepIn K (.ref f) = true ∧ Binds K fd ps []
theorem calx_of {P : Program} {w : World} {K : PySem.W.Frag} {mg : Str → Option Value} {base : Heap} {x : Str} {params : Arguments} {body : List Stmt} {scope : Scope} {f : Addr} {fd : FuncData} {N ps : List Str} {k : Nat} {sp : Sp}
    (F : FunD K x x params body scope [] [] f fd) (hm : mg x = some (.ref f)) (b : Binds K fd ps []) (S : FnScope N ps scope) (len : ∀ vs H Q E, sp vs H Q E → vs.length = ps.length)
    (hb : ∀ (cdv : Value) (A : Around) (outer : List Env) (s : Shared) (H : Hp) (vs : List V) (Q : VK) (E : XK), Room k (A.deeper (envOfC x scope s.heap.objs.size f cdv)) → sp vs H Q E →
      ∃ t, PSs (cxOf (L2.CX P w) P w K mg base N x scope f cdv A outer s H E) body t ∧ t { nx := fun _ H' => Q .non H', rt := Q } (start N vs) H) : CalX P w K mg base (k + 1) x sp :=
  ⟨f, fd, ps, F.ok S len hb, hm, F.kp, b⟩
theorem takes0 {X : Cx} : Takes X (fun _ _ _ _ => False) := fun _ _ x => by
  obtain ⟨_, _, _, _, _, _, _, _, _, _, _, _, _, _, _, _, z⟩ := x
  exact z.elim
theorem yes_s {tc : TT} {t u v : TS} {D : Ends} {σ : L2.St} {H : Hp} (ht : ∀ Q : Bool → Hp → Prop, (∀ H', Same H H' → Q true H') → tc σ H Q) (h : ∀ H', Same H H' → t { D with nx := v D } σ H') : tSeq (tIfS tc t u) v D σ H :=
  ht _ fun H' s => if_t rfl (h H' s)
/-- x = e, what e gives told before what follows -/
theorem asg_mid {te : TE} {g : TG} {v : TS} {D : Ends} {σ : L2.St} {H : Hp} (M : V → Hp → Prop) (ht : ∀ Q : VK, (∀ x H', M x H' → Q x H') → te σ H Q) (h : ∀ x H', M x H' → g x σ H' fun σ' H'' => v D σ' H'') : tSeq (tAsg te g) v D σ H := ht _ h
theorem yes_1 {tc : TT} {t u : TS} {D : Ends} {σ : L2.St} {H : Hp} (ht : ∀ Q : Bool → Hp → Prop, (∀ H', Same H H' → Q true H') → tc σ H Q) (h : ∀ H', Same H H' → t D σ H') : tIfS tc t u D σ H :=
  ht _ fun H' s => if_t rfl (h H' s)
theorem calat_of {P : Program} {w : World} {K : PySem.W.Frag} {mg : Str → Option Value} {base : Heap} {k : Nat} {x : Str} {sp : Sp} {f : Addr} (c : C8.Cal P w K mg base k x sp []) (hm : mg x = some (.ref f)) : C8.CalAt P w K mg base k f sp := by
  obtain ⟨f', fd, ps, ds, F, hm', kp, b, d⟩ := c.ex
  cases hm.symm.trans hm'
  cases d
  exact ⟨fd, ps, F, kp, b⟩
section
variable {X : Cx} {x : Str} {k j : Nat} {sp : Sp} {W : WX} {p pos : Pos} {e : Expr} {es : List Expr} {t : TA}
theorem pe_cx (c : CalX X.prog X.w X.K X.mg X.base k x sp) (hr : Room j X.A) (hk : k ≤ j) (tk : Takes X W) (ha : PA X (e :: es) t) (hg : Gl X x := by rfl)
    (hdb : (x == ("__debug__" : Str)) = false := by decide) (he : starEach (e :: es) X.env = (false, eval e X.env) :: starEach es X.env := by rfl) (hpl : (backTo pos (starEach es X.env)).any (·.1) = false := by rfl) :
    PE X (.Call (.Name x p) (e :: es) [] pos) (tCallS sp (WE W) t) := by
  obtain ⟨f, fd, ps, F, hm, kp, b⟩ := c.ex
  exact pe_callS F (hr.mono hk) hg hm kp b (fun σ => passAt tk σ) ha hdb he hpl
/-- g(..)(e, ..): what g(..) gives is a def -/
def tCallF (tg : TE) (t : TA) (Ok : Addr → Sp → Prop) : TE := fun σ H Q => tg σ H fun v H1 => ∃ (f : Addr) (sp : Sp), v = .ref f ∧ Ok f sp ∧ t σ H1 fun vs H2 => sp vs H2 Q E0
theorem pe_callF {g : Expr} {gs : List Expr} {gk : List Keyword} {gp : Pos} {tg : TE} {Ok : Addr → Sp → Prop} (hc : ∀ f sp, Ok f sp → ∃ k, k ≤ j ∧ C8.CalAt X.prog X.w X.K X.mg X.base k f sp) (hr : Room j X.A) (hg : PE X (.Call g gs gk gp) tg) (ha : PA X (e :: es) t)
    (he : starEach (e :: es) X.env = (false, eval e X.env) :: starEach es X.env := by rfl) (hpl : (backTo pos (starEach es X.env)).any (·.1) = false := by rfl)
    (hE : eval (.Call (.Call g gs gk gp) (e :: es) [] pos) X.env = (do callWith pos (← eval (.Call g gs gk gp) X.env) [] (backTo pos (starEach (e :: es) X.env)) (backToKw pos (keywordEach [] X.env))) := by rfl) :
    PE X (.Call (.Call g gs gk gp) (e :: es) [] pos) (tCallF tg t Ok) := by
  refine ⟨fun pins s σ H Q I h => ?_⟩
  rw [hE]
  refine wpAny_bind (thn (hg.run pins s σ H _ I h) fun u s1 q => ?_)
  obtain ⟨v, H1, I1, r1, f, sp, rfl, ok, q⟩ := q
  cases (show u = Value.ref f from r1)
  obtain ⟨k, hk, c⟩ := hc f sp ok
  obtain ⟨fd, ps, F, kp, b⟩ := c.ex
  refine PySem.W.callWith_K (h₀ := X.base) I1.ok.mod.kin kp (thn (ha.run pos pins s1 σ H1 _ I1 q) fun us s2 q => ?_) he hpl
  obtain ⟨vs, H2, I2, r, q⟩ := q
  exact ⟨I2.kIn, run_fnS F (hr.mono hk) b (E := fun _ => E0) (fun _ _ _ e s' I c => c.elim) I2 r q⟩
end
/-- an own error is what a clause that names its class catches -/
theorem exm_self {K : PySem.W.Frag} {S : Addr} (h1 : PySem.W.subIn K (.ref S) (.type "BaseException") = some true) (h2 : PySem.W.isClsIn K S = true) (h3 : PySem.W.typeIn K (.ref S) = some (.type "type")) (h4 : PySem.W.subIn K (.ref S) (.ref S) = some true) : PySem.W.exmOne K (.ref S) (.ref S) = some true := by
  have a : (PySem.W.subIn K (.ref S) (.type "BaseException") == some true) = true := by rw [h1]; rfl
  have b : ((PySem.W.clsIn K S).isSome && PySem.W.typeIn K (.ref S) == some (.type "type")) = true := by
    rw [show (PySem.W.clsIn K S).isSome = true from h2, h3]
    rfl
  show (if (PySem.W.subIn K (.ref S) (.type "BaseException") == some true) = true then (if ((PySem.W.clsIn K S).isSome && PySem.W.typeIn K (.ref S) == some (.type "type")) = true then PySem.W.subIn K (.ref S) (.ref S) else none) else none) = some true
  rw [if_pos a, if_pos b]
  exact h4
end Wk

set_option Elab.async false
set_option linter.all false
set_option maxRecDepth 100000
set_option maxHeartbeats 800000
set_option exponentiation.threshold 10000

namespace K94
open PySem PySem.Spec PyProof.Rows L2 Wk
section
variable {P : Program} {w : World} {K : PySem.W.Frag} {mg : Str → Option Value} {base : Heap}
/-! ### Thrown -/
abbrev TH (K : PySem.W.Frag) : Addr := He.ga K "Thrown"
theorem excT (T : Tx K mg) : Aex.ExcC K (TH K) := by
  have h : xc K = true := (He.ba T.e).1
  simp only [xc, Bool.and_eq_true, decide_eq_true_eq] at h
  obtain ⟨⟨⟨⟨⟨⟨⟨⟨⟨⟨⟨⟨⟨a, b⟩, c⟩, d⟩, e⟩, f⟩, g⟩, i⟩, j⟩, k⟩, l⟩, m⟩, n⟩, o⟩ := h
  exact ⟨a, b, f, l, j, k, e⟩
theorem xcI (T : Tx K mg) : PySem.W.findIn K (.ref (TH K)) "__init__" = some (some (.ref (He.ma K (TH K) "__init__"))) := by
  have h : xc K = true := (He.ba T.e).1
  simp only [xc, Bool.and_eq_true, decide_eq_true_eq] at h
  obtain ⟨⟨⟨⟨⟨⟨⟨⟨⟨⟨⟨⟨⟨a, b⟩, c⟩, d⟩, e⟩, f⟩, g⟩, i⟩, j⟩, k⟩, l⟩, m⟩, n⟩, o⟩ := h
  exact c
theorem xcF (T : Tx K mg) : PySem.W.isFn K (.ref (He.ma K (TH K) "__init__")) = true := by
  have h : xc K = true := (He.ba T.e).1
  simp only [xc, Bool.and_eq_true, decide_eq_true_eq] at h
  obtain ⟨⟨⟨⟨⟨⟨⟨⟨⟨⟨⟨⟨⟨a, b⟩, c⟩, d⟩, e⟩, f⟩, g⟩, i⟩, j⟩, k⟩, l⟩, m⟩, n⟩, o⟩ := h
  exact d
theorem xcN (T : Tx K mg) : PySem.W.findIn K (.ref (TH K)) "value" = some none ∧ PySem.W.findIn K (.ref (TH K)) "level" = some none := by
  have h : xc K = true := (He.ba T.e).1
  simp only [xc, Bool.and_eq_true, decide_eq_true_eq] at h
  obtain ⟨⟨⟨⟨⟨⟨⟨⟨⟨⟨⟨⟨⟨a, b⟩, c⟩, d⟩, e⟩, f⟩, g⟩, i⟩, j⟩, k⟩, l⟩, m⟩, n⟩, o⟩ := h
  exact ⟨g, i⟩
theorem xcS (T : Tx K mg) : PySem.W.exmOne K (.ref (TH K)) (.ref (TH K)) = some true ∧ PySem.W.kitOne K (.type "int") (.ref (He.ga K "Float")) = some false := by
  have h : xc K = true := (He.ba T.e).1
  simp only [xc, Bool.and_eq_true, decide_eq_true_eq] at h
  obtain ⟨⟨⟨⟨⟨⟨⟨⟨⟨⟨⟨⟨⟨a, b⟩, c⟩, d⟩, e⟩, f⟩, g⟩, i⟩, j⟩, k⟩, l⟩, m⟩, n⟩, o⟩ := h
  exact ⟨exm_self j m k n, o⟩
theorem sc_Thrown_init : FnScope ["self", "value", "level"] ["self", "value", "level"] (defScope s_Thrown_init) := ⟨rfl, rfl, rfl, by decide +kernel, rfl, by decide +kernel, by decide +kernel⟩
def sp_init (K : PySem.W.Frag) : Sp := fun vs H Q _ => ∃ (a : Addr) (v l : V), vs = [.ref a, v, l] ∧ H a = some (exo a (TH K) none) ∧
  ∀ d, H d = none → d ≠ a → Q .non (upd (upd (upd H d (exd d [("value", v)])) a (exo a (TH K) (some d))) d (exd d [("level", l), ("value", v)]))
theorem ok_init (T : Tx K mg) : FnOk P w K mg base C8.CX0 1 (He.ma K (TH K) "__init__") (f_Thrown_init T).choose ["self", "value", "level"] (sp_init K) := by
  refine (f_Thrown_init T).choose_spec.ok sc_Thrown_init (fun vs H Q E h => ?_) (fun cdv A outer s H vs Q E hr h => ?_)
  · obtain ⟨a, v, l, rfl, _⟩ := h
    rfl
  · obtain ⟨a, v, l, rfl, ha, q⟩ := h
    obtain ⟨n1, n2⟩ := xcN T
    refine ⟨_, (pss_cons (ps_expr (Aex.pe_aeI (m_ArithmeticError T) (pa_cons (pv 0) (pa_cons (pv 1) pa_nil)))) (pss_cons (Aex.ps_stF (pv 0) (pv 1)) (pss_one (Aex.ps_stF (pv 0) (pv 2))))).nox, ?_⟩
    one_place
    refine ⟨a, _, _, rfl, Nat.le_of_ble_eq_true rfl, excT T, ha, ?_⟩
    one_place
    refine ⟨a, _, rfl, excT T, n1, .inl ⟨ha, fun d nd ne => ?_⟩⟩
    one_place
    refine ⟨a, _, rfl, excT T, n2, .inr ⟨d, _, upd_same, ?_, Nat.le_of_ble_eq_true rfl, q d nd ne⟩⟩
    rw [upd_ne ne]
    exact upd_same
theorem bind_init (T : Tx K mg) : ∃ ds, Vals [V.int 1] ds ∧ Binds K (f_Thrown_init T).choose ["self", "value", "level"] ds :=
  (f_Thrown_init T).choose_spec.binds1 2 0 (by decide) rfl fun _ _ _ _ _ _ _ us its h1 h2 => match us, its, h1, h2 with | [_, _], [_], _, _ => ⟨_, rfl, rfl⟩
/-- what is left behind Thrown(..) -/
theorem thrown_ends {H : Hp} {v : V} {E : XK} (q : ∀ d H', Same H H' → E (.ref (TH K)) d H') :
    ∀ a, H a = none → sp_init K (.ref a :: ([v] ++ [V.int 1])) (upd H a (exo a (TH K) none))
      (fun u H2 => u = .non ∧ ∃ (d : Addr) (fs : List (Str × V)), H2 a = some (exo a (TH K) (some d)) ∧ H2 d = some (exd d fs) ∧ H d = none ∧ E (.ref (TH K)) (some d) (upd (del H2 a) d (.xd fs))) (fun _ _ _ => False) := fun a na => by
  refine ⟨a, v, .int 1, rfl, upd_same, fun d nd ne => ?_⟩
  have nd' : H d = none := by
    rw [upd_ne ne] at nd
    exact nd
  refine ⟨rfl, d, _, ?_, upd_same, nd', q _ _ fun b x e => ?_⟩
  · rw [upd_ne (Ne.symm ne)]
    exact upd_same
  · have hb : b ≠ a := ne_of_none e na
    have hd : b ≠ d := ne_of_none e nd'
    rw [upd_ne hd, del_ne hb, upd_ne hd, upd_ne hb, upd_ne hd, upd_ne hb]
    exact e
/-! ### the operators -/
theorem sc_whole_of : FnScope ["number", "whole"] ["number"] (defScope s_whole_of) := ⟨rfl, rfl, rfl, by decide +kernel, rfl, by decide +kernel, by decide +kernel⟩
def sp_whole_of : Sp := fun vs H Q _ => ∃ x : Int, vs = [.int x] ∧ Q (.int x) H
theorem cal_whole_of (T : Tx K mg) : C8.Cal P w K mg base 1 "whole_of" sp_whole_of [] := by
  obtain ⟨fd, F⟩ := f_whole_of T
  refine cal_of F (g_whole_of T) (F.bindsN fun _ _ _ _ _ _ us hl => match us, hl with | [_], _ => rfl) sc_whole_of (fun vs H Q E h => ?_) (fun cdv A outer s H vs Q E hr h => ?_)
  · obtain ⟨x, rfl, _⟩ := h
    rfl

  · obtain ⟨x, rfl, q⟩ := h
    refine ⟨_, (pss_cons (ps_if (pt_not (pt_val (Wk.pe_isC (m_isinstance T) (g_Float T) (pv 0)))) (pss_one (ps_ret (pv 0))) pss_nil)
      (pss_cons ps_never
      (pss_cons ps_never
      (pss_one ps_never)))), ?_⟩
    one_place
    refine ⟨(xcS T).2, ?_⟩
    one_place
    exact q
theorem sc_whole_or_thrown : FnScope ["number", "whole"] ["number"] (defScope s_whole_or_thrown) := ⟨rfl, rfl, rfl, by decide +kernel, rfl, by decide +kernel, by decide +kernel⟩
def sp_whole_or_thrown : Sp := fun vs H Q _ => ∃ x : Int, vs = [.int x] ∧ Q (.int x) H
theorem cal_whole_or_thrown (T : Tx K mg) : C8.Cal P w K mg base 2 "whole_or_thrown" sp_whole_or_thrown [] := by
  obtain ⟨fd, F⟩ := f_whole_or_thrown T
  refine cal_of F (g_whole_or_thrown T) (F.bindsN fun _ _ _ _ _ _ us hl => match us, hl with | [_], _ => rfl) sc_whole_or_thrown (fun vs H Q E h => ?_) (fun cdv A outer s H vs Q E hr h => ?_)
  · obtain ⟨x, rfl, _⟩ := h
    rfl

  · obtain ⟨x, rfl, q⟩ := h
    refine ⟨_, (pss_cons (ps_set (i := 1) sc_whole_or_thrown.nd rfl (.inl rfl) (C8.pe_c (cal_whole_of T) hr (by decide) (by rfl) (pa_cons (pv 0) pa_nil)))
      (pss_cons (ps_if (pt_cmpR op_isN (pv 1) pe_non (nomark _)) (pss_one ps_never) pss_nil)
      (pss_one (ps_ret (pv 1))))), ?_⟩
    one_place
    exact q
theorem sc_by_bits : FnScope ["word", "one", "other", "many"] ["word", "one", "other"] (defScope s_by_bits) := ⟨rfl, rfl, rfl, by decide +kernel, rfl, by decide +kernel, by decide +kernel⟩
def sp_by_bits : Sp := fun vs H Q _ => ∃ (wd : Wd) (a b : Int), vs = [.str wd.s, .int a, .int b] ∧ InR a ∧ InR b ∧ (wd = .band ∨ wd = .bor ∨ wd = .bxor ∨ wd = .shl ∨ wd = .shr) ∧ ∀ r, arithM wd a b = some r → Q (.int r) H
theorem cal_by_bits (T : Tx K mg) : C8.Cal P w K mg base 2 "by_bits" sp_by_bits [] := by
  obtain ⟨fd, F⟩ := f_by_bits T
  refine cal_of F (g_by_bits T) (F.bindsN fun _ _ _ _ _ _ us hl => match us, hl with | [_, _, _], _ => rfl) sc_by_bits (fun vs H Q E h => ?_) (fun cdv A outer s H vs Q E hr h => ?_)
  · obtain ⟨wd, a, b, rfl, _⟩ := h
    rfl

  · obtain ⟨wd, a, b, rfl, ha, hb, hw, q⟩ := h
    refine ⟨_, (pss_cons (ps_if (pt_cmpR op_eq (pv 0) pe_str (nomark _)) (pss_one (ps_ret (pe_op op_and (pv 1) (pv 2)))) pss_nil)
      (pss_cons (ps_if (pt_cmpR op_eq (pv 0) pe_str (nomark _)) (pss_one (ps_ret (pe_op op_or (pv 1) (pv 2)))) pss_nil)
      (pss_cons (ps_if (pt_cmpR op_eq (pv 0) pe_str (nomark _)) (pss_one (ps_ret (pe_op op_xor (pv 1) (pv 2)))) pss_nil)
      (pss_cons (ps_set (i := 3) sc_by_bits.nd rfl (.inl rfl) (pe_ifExp (pt_cmpR op_eq (pv 0) pe_str (nomark _)) (pv 2) (pe_op op_sub pe_int (pv 2))))
      (pss_cons (ps_if (PW.pt (pw_or (pt_cmpR op_le (pv 3) (pe_wk (v := .int (-64)) (pe_un un_neg pe_int) fun _ _ _ q => ⟨_, rfl, Wk.q_of q (by first | rfl | decide +kernel)⟩) (nomark _)) (pw_or1 (pt_cmpR op_ge (pv 3) pe_int (nomark _))))) (pss_one (ps_ret pe_int)) pss_nil)
      (pss_cons (ps_if (pt_cmpR op_lt (pv 3) pe_int (nomark _)) (pss_one (ps_ret (C8.pe_c (cal_wrapped T) hr (by decide) (by rfl) (pa_cons (pe_op op_shr (pe_op op_mod (pv 1) (pe_wk (v := .int (18446744073709551616)) (pe_op op_pow pe_int pe_int) fun _ _ _ q => ⟨_, _, rfl, rfl, ⟨by decide, by decide, by decide⟩, Wk.q_of q (by first | rfl | decide +kernel)⟩)) (pe_op op_sub pe_int (pv 3))) pa_nil)))) pss_nil)
      (pss_one (ps_ret (C8.pe_c (cal_wrapped T) hr (by decide) (by rfl) (pa_cons (pe_op op_shlW (pv 1) (pv 3)) pa_nil)))))))))), ?_⟩
    unfold InR at ha hb
    have shl : ∀ m : Int, (m = b ∧ wd = .shl) ∨ (m = 0 - b ∧ wd = .shr) → Q (.int (shlM a m)) H := fun m z => by
      rcases z with ⟨rfl, rfl⟩ | ⟨rfl, rfl⟩ <;> exact q _ rfl
    rcases hw with rfl | rfl | rfl | rfl | rfl
    · one_place
      exact q _ rfl
    · one_place
      exact q _ rfl
    · one_place
      exact q _ rfl
    · have q := shl b (.inl ⟨rfl, rfl⟩)
      unfold shlM at q
      generalize hm : b = m at *
      one_place
      refine ifd (fun c => ?_) (fun c => ?_)
      · rw [if_pos (.inl c)] at q
        exact q
      · one_place
        refine ifd (fun d => ?_) (fun d => ?_)
        · rw [if_pos (.inr d)] at q
          exact q
        · rw [if_neg (by rintro (z | z) <;> contradiction)] at q
          one_place
          refine ifd (fun e => ?_) (fun e => ?_)
          · rw [if_pos e] at q
            one_place
            exact q
          · rw [if_neg e] at q
            one_place
            exact q
    · have q := shl (0 - b) (.inr ⟨rfl, rfl⟩)
      unfold shlM at q
      one_place
      dsimp only
      generalize hm : 0 - b = m at *
      refine ifd (fun c => ?_) (fun c => ?_)
      · rw [if_pos (.inl c)] at q
        exact q
      · one_place
        refine ifd (fun d => ?_) (fun d => ?_)
        · rw [if_pos (.inr d)] at q
          exact q
        · rw [if_neg (by rintro (z | z) <;> contradiction)] at q
          one_place
          refine ifd (fun e => ?_) (fun e => ?_)
          · rw [if_pos e] at q
            one_place
            exact q
          · rw [if_neg e] at q
            one_place
            exact q
end
end K94

set_option Elab.async false
set_option linter.all false
set_option maxRecDepth 100000
set_option maxHeartbeats 800000
set_option exponentiation.threshold 10000

namespace K94
open PySem PySem.Spec PyProof.Rows L2 Wk
section
variable {P : Program} {w : World} {K : PySem.W.Frag} {mg : Str → Option Value} {base : Heap}
theorem sc_arith : FnScope ["word", "one", "other"] ["word", "one", "other"] (defScope s_arith) := ⟨rfl, rfl, rfl, by decide +kernel, rfl, by decide +kernel, by decide +kernel⟩
def sp_arith (K : PySem.W.Frag) : Sp := fun vs H Q E => ∃ (wd : Wd) (a b : Int), vs = [.str wd.s, .int a, .int b] ∧ InR a ∧ InR b ∧ (∀ r, arithM wd a b = some r → ∀ H', Same H H' → Q (.int r) H') ∧ (arithM wd a b = none → ∀ d H', Same H H' → E (.ref (TH K)) d H')
theorem calx_arith (T : Tx K mg) : Wk.CalX P w K mg base 3 "arith" (sp_arith K) := by
  obtain ⟨fd, F⟩ := f_arith T
  refine Wk.calx_of F (g_arith T) (F.bindsN fun _ _ _ _ _ _ us hl => match us, hl with | [_, _, _], _ => rfl) sc_arith (fun vs H Q E h => ?_) (fun cdv A outer s H vs Q E hr h => ?_)
  · obtain ⟨wd, a, b, rfl, _⟩ := h
    rfl

  · obtain ⟨wd, a, b, rfl, ha, hb, q, qE⟩ := h
    refine ⟨_, (pss_cons (ps_if (pt_cmpR op_in_seq (pv 0) (pe_tup (pa_cons pe_str (pa_cons pe_str (pa_cons pe_str (pa_cons pe_str (pa_cons pe_str pa_nil)))))) (by rfl)) (pss_one (ps_ret (C8.pe_c (cal_by_bits T) hr (by decide) (by rfl) (pa_cons (pv 0) (pa_cons (C8.pe_c (cal_whole_or_thrown T) hr (by decide) (by rfl) (pa_cons (pv 1) pa_nil)) (pa_cons (C8.pe_c (cal_whole_or_thrown T) hr (by decide) (by rfl) (pa_cons (pv 2) pa_nil)) pa_nil)))))) pss_nil)
      (pss_cons (ps_if (PW.pt (pw_or (pt_cmpR op_eq (pv 0) pe_str (nomark _)) (pw_or (pt_val (Wk.pe_isC (m_isinstance T) (g_Float T) (pv 1))) (pw_or1 (pt_val (Wk.pe_isC (m_isinstance T) (g_Float T) (pv 2))))))) (pss_one ps_never) pss_nil)
      (pss_cons (ps_if (pt_cmpR op_in_seq (pv 0) (pe_tup (pa_cons pe_str (pa_cons pe_str pa_nil))) (by rfl)) (pss_cons (ps_if (pt_cmpR op_eq (pv 2) pe_int (nomark _)) (pss_one (ps_raise rfl (takes_of rfl rfl rfl rfl) (Aex.pmkT (excT T) (xcI T) (xcF T) (ok_init T) hr (bind_init T).choose_spec.2 (bind_init T).choose_spec.1 (g_Thrown T) (pa_cons (pe_ifExp (pt_cmpR op_eq (pv 0) pe_str (nomark _)) pe_str pe_str) pa_nil)))) pss_nil)
      (pss_one (ps_ret (pe_ifExp (pt_cmpR op_eq (pv 0) pe_str (nomark _)) (C8.pe_c (cal_wrapped T) hr (by decide) (by rfl) (pa_cons (pe_op op_fdivX (pv 1) (pv 2)) pa_nil)) (pe_op op_modN (pv 1) (pv 2)))))) pss_nil)
      (pss_cons (ps_if (pt_cmpR op_eq (pv 0) pe_str (nomark _)) (pss_one (ps_ret (C8.pe_c (cal_wrapped T) hr (by decide) (by rfl) (pa_cons (pe_op op_mul (pv 1) (pv 2)) pa_nil)))) pss_nil)
      (pss_one (ps_ret (C8.pe_c (cal_wrapped T) hr (by decide) (by rfl) (pa_cons (pe_ifExp (pt_cmpR op_eq (pv 0) pe_str (nomark _)) (pe_op op_add (pv 1) (pv 2)) (pe_op op_sub (pv 1) (pv 2))) pa_nil)))))))), ?_⟩
    have kF := (xcS T).2
    have bits : (wd = .band ∨ wd = .bor ∨ wd = .bxor ∨ wd = .shl ∨ wd = .shr) ∨ (wd = .floor ∨ wd = .mod) ∨ (wd = .add ∨ wd = .sub ∨ wd = .mul) := by cases wd <;> simp
    rcases bits with hw | hw
    · refine yes_s (fun Q' q' => ?_) fun H1 s1 => ?_
      · one_place
        intro p np
        refine ⟨_, _, rfl, .inr (SqT.of upd_same), rfl, rfl, ?_⟩
        one_place
        rcases hw with rfl | rfl | rfl | rfl | rfl <;> exact q' _ (same_new np)
      · one_place
        exact fun r e => q r e _ s1
    · refine no_s (fun Q' q' => ?_) fun H1 s1 => ?_
      · one_place
        intro p np
        refine ⟨_, _, rfl, .inr (SqT.of upd_same), rfl, rfl, ?_⟩
        one_place
        rcases hw with (rfl | rfl) | (rfl | rfl | rfl) <;> exact q' _ (same_new np)
      refine no_s (fun Q' q' => ?_) fun H2 s2 => ?_
      · rcases hw with (rfl | rfl) | (rfl | rfl | rfl) <;> (one_place; exact q' _ (same_id _))
      have s2 := s1.trans s2
      have hab := ha
      have hbb := hb
      unfold InR at hab hbb
      rcases hw with hw | hw
      · refine yes_s (fun Q' q' => ?_) fun H3 s3 => ?_
        · one_place
          intro p np
          refine ⟨_, _, rfl, .inr (SqT.of upd_same), rfl, rfl, ?_⟩
          one_place
          rcases hw with rfl | rfl <;> exact q' _ (same_new np)
        have s3 := s2.trans s3
        one_place
        refine ifi (fun c => ?_) (fun c => ?_)
        · have qT := qE (by rcases hw with rfl | rfl <;> exact if_pos c)
          rcases hw with rfl | rfl <;> (one_place; exact thrown_ends fun d H' s => qT d H' (s3.trans s))
        · rcases hw with rfl | rfl
          · one_place
            exact q _ (if_neg c) _ s3
          · one_place
            exact q _ (if_neg c) _ s3
      · refine no_s (fun Q' q' => ?_) fun H3 s3 => ?_
        · one_place
          intro p np
          refine ⟨_, _, rfl, .inr (SqT.of upd_same), rfl, rfl, ?_⟩
          one_place
          rcases hw with rfl | rfl | rfl <;> exact q' _ (same_new np)
        have s3 := s2.trans s3
        rcases hw with rfl | rfl | rfl <;> (one_place; exact q _ rfl _ s3)
end
end K94

set_option Elab.async false
set_option linter.all false
set_option maxRecDepth 100000
set_option maxHeartbeats 800000
set_option exponentiation.threshold 10000

namespace K94
open PySem PySem.Spec PyProof.Rows L2 Wk
section
variable {P : Program} {w : World} {K : PySem.W.Frag} {mg : Str → Option Value} {base : Heap}
def okF (K : PySem.W.Frag) (f : Addr) (sp : Sp) : Prop :=
  (f = He.ga K "solved_mul" ∧ sp = sp_solved_mul) ∨ (f = He.ga K "solved_floor" ∧ sp = sp_solved_floor) ∨ (f = He.ga K "solved_mod" ∧ sp = sp_solved_mod) ∨ (f = He.ga K "solved_and" ∧ sp = sp_solved_and) ∨ (f = He.ga K "solved_or" ∧ sp = sp_solved_or) ∨ (f = He.ga K "solved_left" ∧ sp = sp_solved_left)
theorem okF_at (T : Tx K mg) (f : Addr) (sp : Sp) (h : okF K f sp) : ∃ k, k ≤ 3 ∧ C8.CalAt P w K mg base k f sp := by
  rcases h with ⟨rfl, rfl⟩ | ⟨rfl, rfl⟩ | ⟨rfl, rfl⟩ | ⟨rfl, rfl⟩ | ⟨rfl, rfl⟩ | ⟨rfl, rfl⟩
  · exact ⟨3, by decide, calat_of (cal_solved_mul T) (g_solved_mul T)⟩
  · exact ⟨3, by decide, calat_of (cal_solved_floor T) (g_solved_floor T)⟩
  · exact ⟨2, by decide, calat_of (cal_solved_mod T) (g_solved_mod T)⟩
  · exact ⟨3, by decide, calat_of (cal_solved_and T) (g_solved_and T)⟩
  · exact ⟨3, by decide, calat_of (cal_solved_or T) (g_solved_or T)⟩
  · exact ⟨3, by decide, calat_of (cal_solved_left T) (g_solved_left T)⟩
theorem sc_solved : FnScope ["word", "other", "result", "back", "ways"] ["word", "other", "result"] (defScope s_solved) := ⟨rfl, rfl, rfl, by decide +kernel, rfl, by decide +kernel, by decide +kernel⟩
def sp_solved : Sp := fun vs H Q _ => ∃ (wd : Wd) (o r : Int), vs = [.str wd.s, .int o, .int r] ∧ InR o ∧ InR r ∧ ∀ v H', Same H H' → TlV H' v (solvedM wd o r) → Q v H'
theorem cal_solved (T : Tx K mg) : C8.Cal P w K mg base 4 "solved" sp_solved [] := by
  obtain ⟨fd, F⟩ := f_solved T
  refine cal_of F (g_solved T) (F.bindsN fun _ _ _ _ _ _ us hl => match us, hl with | [_, _, _], _ => rfl) sc_solved (fun vs H Q E h => ?_) (fun cdv A outer s H vs Q E hr h => ?_)
  · obtain ⟨wd, o, r, rfl, _⟩ := h
    rfl

  · obtain ⟨wd, o, r, rfl, ho, hr', q⟩ := h
    refine ⟨_, (pss_cons (ps_expr (C8.pe_c (cal_check_equation T) hr (by decide) (by rfl) (pa_cons (pv 0) (pa_cons (pv 1) (pa_cons (pv 2) pa_nil)))))
      (pss_cons (ps_if (pt_cmpR op_in_seq (pv 0) (pe_tup (pa_cons pe_str (pa_cons pe_str (pa_cons pe_str pa_nil)))) (by rfl)) (pss_cons (ps_set (i := 3) sc_solved.nd rfl (.inl rfl) (pe_dget (hu_of hr) (pe_disp (pps_cons pe_str pe_str (pps_cons pe_str pe_str (pps_cons pe_str pe_str pps_nil))) (by rfl) (by rfl) (fun z => by cases z) (by decide)) (pv 0) (fun _ _ => rfl)))
      (pss_one (ps_ret (C8.pe_c (cal_row_told T) hr (by decide) (by rfl) (pa_cons (Wk.pe_cx (calx_arith T) hr (by decide) Wk.takes0 (pa_cons (pv 3) (pa_cons (pv 2) (pa_cons (pv 1) pa_nil)))) (pa_cons pe_int (pa_cons pe_int pa_nil))))))) pss_nil)
      (pss_cons (ps_if (pt_cmpR op_eq (pv 0) pe_str (nomark _)) (pss_one (ps_ret (C8.pe_c (cal_solved_left T) hr (by decide) (by rfl) (pa_cons (pe_op op_sub pe_int (pv 1)) (pa_cons (pv 2) pa_nil))))) pss_nil)
      (pss_cons (ps_set (i := 4) sc_solved.nd rfl (.inl rfl) (pe_disp (pps_cons pe_str (C8.pe_gc (v := .ref (He.ga K "solved_mul")) (by rfl) ⟨_, g_solved_mul T, rfl⟩) (pps_cons pe_str (C8.pe_gc (v := .ref (He.ga K "solved_floor")) (by rfl) ⟨_, g_solved_floor T, rfl⟩) (pps_cons pe_str (C8.pe_gc (v := .ref (He.ga K "solved_mod")) (by rfl) ⟨_, g_solved_mod T, rfl⟩) (pps_cons pe_str (C8.pe_gc (v := .ref (He.ga K "solved_and")) (by rfl) ⟨_, g_solved_and T, rfl⟩) (pps_cons pe_str (C8.pe_gc (v := .ref (He.ga K "solved_or")) (by rfl) ⟨_, g_solved_or T, rfl⟩) pps_nil))))) (by rfl) (by rfl) (fun z => by cases z) (by decide)))
      (pss_one (ps_ret (Wk.pe_callF (Ok := okF K) (okF_at T) hr (pe_dget2 (hu_of hr) (pv 4) (pv 0) (C8.pe_gc (v := .ref (He.ga K "solved_left")) (by rfl) ⟨_, g_solved_left T, rfl⟩) ⟨rfl, rfl, rfl, rfl⟩) (pa_cons (pv 1) (pa_cons (pv 2) pa_nil))))))))), ?_⟩
    one_place
    intro H1 s1
    have words : (wd = .add ∨ wd = .sub ∨ wd = .bxor) ∨ wd = .shr ∨ (wd = .mul ∨ wd = .floor ∨ wd = .mod ∨ wd = .band ∨ wd = .bor ∨ wd = .shl) := by cases wd <;> simp
    dsimp only
    rcases words with hw | hw | hw
    · refine yes_s (fun Q' q' => ?_) fun H2 s2 => ?_
      · one_place
        intro p np
        refine ⟨_, _, rfl, .inr (SqT.of upd_same), rfl, rfl, ?_⟩
        one_place
        rcases hw with rfl | rfl | rfl <;> exact q' _ (same_new np)
      have s2 := s1.trans s2
      one_place
      intro e ne
      one_place
      refine ⟨upd_same, [(.inr "add", .str "sub"), (.inr "sub", .str "add"), (.inr "bxor", .str "bxor")], rfl, by decide, ?_⟩
      have sd : ∀ u, Same H (upd (upd H2 e (.dK [])) e u) := fun u => s2.trans (same_on (same_new ne) ne)
      rcases hw with rfl | rfl | rfl
      · refine ⟨_, rfl, _, .str "sub", rfl, .inl ⟨_, .inr "add", .inl upd_same, rfl, rfl⟩, ?_⟩
        one_place
        refine ⟨.sub, r, o, rfl, hr', ho, fun z e H' s => ?_, fun z => nomatch z⟩
        cases e
        one_place
        exact fun v H'' s' t => q _ _ ((sd _).trans (s.trans s')) t
      · refine ⟨_, rfl, _, .str "add", rfl, .inl ⟨_, .inr "sub", .inl upd_same, rfl, rfl⟩, ?_⟩
        one_place
        refine ⟨.add, r, o, rfl, hr', ho, fun z e H' s => ?_, fun z => nomatch z⟩
        cases e
        one_place
        exact fun v H'' s' t => q _ _ ((sd _).trans (s.trans s')) t
      · refine ⟨_, rfl, _, .str "bxor", rfl, .inl ⟨_, .inr "bxor", .inl upd_same, rfl, rfl⟩, ?_⟩
        one_place
        refine ⟨.bxor, r, o, rfl, hr', ho, fun z e H' s => ?_, fun z => nomatch z⟩
        cases e
        one_place
        exact fun v H'' s' t => q _ _ ((sd _).trans (s.trans s')) t
    · subst hw
      refine no_s (fun Q' q' => ?_) fun H2 s2 => ?_
      · one_place
        intro p np
        refine ⟨_, _, rfl, .inr (SqT.of upd_same), rfl, rfl, ?_⟩
        one_place
        exact q' _ (same_new np)
      have s2 := s1.trans s2
      one_place
      exact fun v H'' s' t => q _ _ (s2.trans s') t
    · refine no_s (fun Q' q' => ?_) fun H2 s2 => ?_
      · one_place
        intro p np
        refine ⟨_, _, rfl, .inr (SqT.of upd_same), rfl, rfl, ?_⟩
        one_place
        rcases hw with rfl | rfl | rfl | rfl | rfl | rfl <;> exact q' _ (same_new np)
      have s2 := s1.trans s2
      refine no_s (fun Q' q' => ?_) fun H3 s3 => ?_
      · one_place
        rcases hw with rfl | rfl | rfl | rfl | rfl | rfl <;> exact q' _ (same_id _)
      have s3 := s2.trans s3
      one_place
      intro e ne
      one_place
      refine ⟨upd_same, [(.inr "mul", .ref (He.ga K "solved_mul")), (.inr "floor", .ref (He.ga K "solved_floor")), (.inr "mod", .ref (He.ga K "solved_mod")), (.inr "band", .ref (He.ga K "solved_and")), (.inr "bor", .ref (He.ga K "solved_or"))], rfl, Nat.le_of_ble_eq_true rfl, ?_⟩
      have sd : ∀ u, Same H (upd (upd H3 e (.dK [])) e u) := fun u => s3.trans (same_on (same_new ne) ne)
      one_place
      refine ⟨.inl ⟨_, .inl upd_same⟩, ?_⟩
      one_place
      rcases hw with rfl | rfl | rfl | rfl | rfl | rfl
      · refine ⟨_, .inl ⟨_, .inr "mul", .inl upd_same, rfl, rfl⟩, ?_⟩
        refine ⟨_, _, rfl, .inl ⟨rfl, rfl⟩, ?_⟩
        one_place
        exact fun v H'' s' t => q _ _ ((sd _).trans s') t
      · refine ⟨_, .inl ⟨_, .inr "floor", .inl upd_same, rfl, rfl⟩, ?_⟩
        refine ⟨_, _, rfl, .inr (.inl ⟨rfl, rfl⟩), ?_⟩
        one_place
        exact fun v H'' s' t => q _ _ ((sd _).trans s') t
      · refine ⟨_, .inl ⟨_, .inr "mod", .inl upd_same, rfl, rfl⟩, ?_⟩
        refine ⟨_, _, rfl, .inr (.inr (.inl ⟨rfl, rfl⟩)), ?_⟩
        one_place
        exact fun v H'' s' t => q _ _ ((sd _).trans s') t
      · refine ⟨_, .inl ⟨_, .inr "band", .inl upd_same, rfl, rfl⟩, ?_⟩
        refine ⟨_, _, rfl, .inr (.inr (.inr (.inl ⟨rfl, rfl⟩))), ?_⟩
        one_place
        exact fun v H'' s' t => q _ _ ((sd _).trans s') t
      · refine ⟨_, .inl ⟨_, .inr "bor", .inl upd_same, rfl, rfl⟩, ?_⟩
        refine ⟨_, _, rfl, .inr (.inr (.inr (.inr (.inl ⟨rfl, rfl⟩)))), ?_⟩
        one_place
        exact fun v H'' s' t => q _ _ ((sd _).trans s') t
      · refine ⟨_, .inl ⟨_, .inr "shl", .inl upd_same, rfl, rfl⟩, ?_⟩
        refine ⟨_, _, rfl, .inr (.inr (.inr (.inr (.inr ⟨rfl, rfl⟩)))), ?_⟩
        one_place
        exact fun v H'' s' t => q _ _ ((sd _).trans s') t
theorem sc_leads_to : FnScope ["word", "number", "other", "result"] ["word", "number", "other", "result"] (defScope s_leads_to) := ⟨rfl, rfl, rfl, by decide +kernel, rfl, by decide +kernel, by decide +kernel⟩
def sp_leads_to : Sp := fun vs H Q _ => ∃ (wd : Wd) (x o r : Int), vs = [.str wd.s, .int x, .int o, .int r] ∧ InR x ∧ InR o ∧ InR r ∧ ∀ H', Same H H' → Q (.bl (decide (arithM wd x o = some r))) H'
theorem cal_leads_to (T : Tx K mg) : C8.Cal P w K mg base 4 "leads_to" sp_leads_to [] := by
  obtain ⟨fd, F⟩ := f_leads_to T
  refine cal_of F (g_leads_to T) (F.bindsN fun _ _ _ _ _ _ us hl => match us, hl with | [_, _, _, _], _ => rfl) sc_leads_to (fun vs H Q E h => ?_) (fun cdv A outer s H vs Q E hr h => ?_)
  · obtain ⟨wd, x, o, r, rfl, _⟩ := h
    rfl

  · obtain ⟨wd, x, o, r, rfl, hx, ho, hr', q⟩ := h
    refine ⟨_, (pss_cons (ps_expr (C8.pe_c (cal_check_equation T) hr (by decide) (by rfl) (pa_cons (pv 0) (pa_cons (pv 2) (pa_cons (pv 3) pa_nil)))))
      (pss_cons (ps_if (pt_not (pt_val (C8.pe_c (cal_is_whole_number T) hr (by decide) (by rfl) (pa_cons (pv 1) pa_nil)))) (pss_one ps_never) pss_nil)
      (pss_one (ps_try_only rfl rfl ⟨rfl, by decide, .inl (g_Thrown T)⟩ Wk.takes0 (fun W pn xe tk _ => (pss_one (ps_ret (pe_cmpR op_eq (Wk.pe_cx (calx_arith T) hr (by decide) tk (pa_cons (pv 0) (pa_cons (pv 1) (pa_cons (pv 2) pa_nil)))) (pv 3) (nomark _)))))
      (fun a oe cls d pn hz hf => (pss_one (ps_ret pe_bl))))))), ?_⟩
    one_place
    intro H1 s1
    dsimp only
    refine no_s (fun Q' q' => ?_) fun H2 s2 => ?_
    · one_place
      exact nb (Q := Q') (decide_eq_true hx) (q' _ (same_id _))
    have s2 := s1.trans s2
    one_place
    refine ⟨fun z e H' s => ?_, fun e d H' s => ⟨true, (xcS T).1, fun _ a _ => ?_, fun z => nomatch z⟩⟩
    · one_place
      refine q_of (q _ (s2.trans s)) (congrArg V.bl ?_)
      rw [e]
      by_cases c : z = r
      · rw [decide_eq_true (congrArg V.int c), decide_eq_true (congrArg some c)]
      · rw [decide_eq_false fun z => c (V.int.inj z), decide_eq_false fun z => c (Option.some.inj z)]
    · one_place
      refine q_of (q _ (s2.trans s)) (congrArg V.bl ?_)
      rw [e]
      rfl
end
end K94

set_option Elab.async false
set_option linter.all false
set_option maxRecDepth 100000
set_option maxHeartbeats 800000
set_option exponentiation.threshold 10000

namespace K94
open PySem PySem.Spec PyProof.Rows L2 Wk
def WellAt (H : Hp) (p : Addr) : Prop := ∃ a b c : Int, H p = some (.lst [.int a, .int b, .int c])
/-- all but the well stands; the well is a well -/
structure Sw (p : Addr) (H H' : Hp) : Prop where
  k : ∀ b x, b ≠ p → H b = some x → H' b = some x
  w : WellAt H' p
theorem WellAt.same {H H' : Hp} {p : Addr} (h : WellAt H p) (s : Same H H') : WellAt H' p := by
  obtain ⟨a, b, c, e⟩ := h
  exact ⟨a, b, c, s _ _ e⟩
theorem Sw.of {H H' : Hp} {p : Addr} (s : Same H H') (h : WellAt H p) : Sw p H H' := ⟨fun b x _ e => s b x e, h.same s⟩
theorem Sw.trans {H H1 H2 : Hp} {p : Addr} (a : Sw p H H1) (b : Sw p H1 H2) : Sw p H H2 := ⟨fun c x n e => b.k c x n (a.k c x n e), b.w⟩
theorem Sw.same {H H1 H2 : Hp} {p : Addr} (a : Sw p H H1) (s : Same H1 H2) : Sw p H H2 := a.trans (.of s a.w)
theorem sw_upd {H : Hp} {p : Addr} {a b c : Int} : Sw p H (upd H p (.lst [.int a, .int b, .int c])) := ⟨fun q x n e => by rw [upd_ne n]; exact e, a, b, c, upd_same⟩
/-- what is no list of ints is kept -/
theorem Sw.tup {H H' : Hp} {p q : Addr} {xs : List V} (s : Sw p H H') (h : WellAt H p) (e : H q = some (.tup xs)) : H' q = some (.tup xs) := s.k q _ (fun z => by
  obtain ⟨a, b, c, e'⟩ := h
  rw [z, e'] at e
  cases e) e
section
variable {P : Program} {w : World} {K : PySem.W.Frag} {mg : Str → Option Value} {base : Heap}
theorem sc__law_well : FnScope ["cell"] ["cell"] (defScope s__law_well) := ⟨rfl, rfl, rfl, by decide +kernel, rfl, by decide +kernel, by decide +kernel⟩
def sp__law_well : Sp := fun vs H Q _ => ∃ cell : Int, vs = [.int cell] ∧ ∀ p a b c, H p = none → Q (.ref p) (upd H p (.lst [.int a, .int b, .int c]))
theorem cal__law_well (T : Tx K mg) : C8.Cal P w K mg base 1 "_law_well" sp__law_well [] := by
  obtain ⟨fd, F⟩ := f__law_well T
  refine cal_of F (g__law_well T) (F.bindsN fun _ _ _ _ _ _ us hl => match us, hl with | [_], _ => rfl) sc__law_well (fun vs H Q E h => ?_) (fun cdv A outer s H vs Q E hr h => ?_)
  · obtain ⟨cell, rfl, _⟩ := h
    rfl

  · obtain ⟨cell, rfl, q⟩ := h
    refine ⟨_, (pss_one (ps_ret (pe_lst (pa_cons (pe_op op_mul (pv 0) (pe_callTy call_int1 (by rfl) (m_int T) (by decide +kernel) (pa_cons (pe_cmpR op_ge (pv 0) (pe_wk (v := .int (1000000000000000000)) (pe_op op_pow pe_int pe_int) fun _ _ _ q => ⟨_, _, rfl, rfl, ⟨by decide, by decide, by decide⟩, Wk.q_of q (by first | rfl | decide +kernel)⟩) (nomark _)) pa_nil))) (pa_cons (pe_op op_mod (pe_callTy call_int1 (by rfl) (m_int T) (by decide +kernel) (pa_cons (pv 0) pa_nil)) pe_int) (pa_cons pe_int pa_nil)))))), ?_⟩
    one_place
    exact fun p hp => q p _ _ _ hp
theorem sc__law_draw : FnScope ["well", "many", "digit", "number"] ["well", "many"] (defScope s__law_draw) := ⟨rfl, rfl, rfl, by decide +kernel, rfl, by decide +kernel, by decide +kernel⟩
def sp__law_draw : Sp := fun vs H Q _ => ∃ p m, vs = [.ref p, .int m] ∧ WellAt H p ∧ 0 < m ∧ m < 36893488147419103232 ∧ ∀ d H', Sw p H H' → 0 ≤ d → d < m → Q (.int d) H'
theorem cal__law_draw (T : Tx K mg) : C8.Cal P w K mg base 1 "_law_draw" sp__law_draw [] := by
  obtain ⟨fd, F⟩ := f__law_draw T
  refine cal_of F (g__law_draw T) (F.bindsN fun _ _ _ _ _ _ us hl => match us, hl with | [_, _], _ => rfl) sc__law_draw (fun vs H Q E h => ?_) (fun cdv A outer s H vs Q E hr h => ?_)
  · obtain ⟨p, m, rfl, _⟩ := h
    rfl

  · obtain ⟨p, m, rfl, ⟨a, b, c, hp⟩, h0, h1, q⟩ := h
    refine ⟨_, (pss_cons (ps_if (pt_cmpR op_gt (pe_ix (r := rIxL K) ix_list (pv 0) pe_int (fun _ _ => rfl)) pe_int (nomark _)) (pss_cons (ps_set (i := 2) sc__law_draw.nd rfl (.inl rfl) (pe_op op_mod (pe_callTy call_int1 (by rfl) (m_int T) (by decide +kernel) (pa_cons (pe_ix (r := rIxL K) ix_list (pv 0) pe_int (fun _ _ => rfl)) pa_nil)) (pv 1)))
      (pss_cons (ps_asg (pe_op op_fdivW (pe_ix (r := rIxL K) ix_list (pv 0) pe_int (fun _ _ => rfl)) (pv 1)) (pg_sub (pv 0) pe_int set_list))
      (pss_one (ps_ret (pv 2))))) pss_nil)
      (pss_cons (ps_asg (pe_op op_add (pe_ix (r := rIxL K) ix_list (pv 0) pe_int (fun _ _ => rfl)) pe_int) (pg_sub (pv 0) pe_int set_list))
      (pss_cons (ps_set (i := 3) sc__law_draw.nd rfl (.inl rfl) (pe_op op_mod (pe_callTy call_int1 (by rfl) (m_int T) (by decide +kernel) (pa_cons (pe_op op_add (pe_op op_add (pe_op op_mul (pe_ix (r := rIxL K) ix_list (pv 0) pe_int (fun _ _ => rfl)) pe_int) (pe_op op_mul pe_int (pe_ix (r := rIxL K) ix_list (pv 0) pe_int (fun _ _ => rfl)))) pe_int) pa_nil)) pe_int))
      (pss_cons (ps_set (i := 3) sc__law_draw.nd rfl (.inl rfl) (pe_op op_mod (pe_callTy call_int1 (by rfl) (m_int T) (by decide +kernel) (pa_cons (pe_op op_mul (pv 3) (pe_op op_add (pe_op op_fdivW (pv 3) pe_int) pe_int)) pa_nil)) pe_int))
      (pss_cons (ps_set (i := 3) sc__law_draw.nd rfl (.inl rfl) (pe_op op_mod (pe_callTy call_int1 (by rfl) (m_int T) (by decide +kernel) (pa_cons (pe_op op_mul (pv 3) (pe_op op_add (pe_op op_add (pe_op op_fdivW (pv 3) pe_int) pe_int) (pe_ix (r := rIxL K) ix_list (pv 0) pe_int (fun _ _ => rfl)))) pa_nil)) pe_int))
      (pss_one (ps_ret (pe_op op_mod (pe_callTy call_int1 (by rfl) (m_int T) (by decide +kernel) (pa_cons (pe_op op_fdivW (pv 3) pe_int) pa_nil)) (pv 1))))))))), ?_⟩
    one_place
    refine ifd (fun c => ?_) (fun c => ?_)
    · one_place
      exact q _ _ sw_upd (Int.emod_nonneg _ (by omega)) (Int.emod_lt_of_pos _ h0)
    · one_place
      exact q _ _ sw_upd (Int.emod_nonneg _ (by omega)) (Int.emod_lt_of_pos _ h0)
theorem sc__law_one : FnScope ["well", "some"] ["well", "some"] (defScope s__law_one) := ⟨rfl, rfl, rfl, by decide +kernel, rfl, by decide +kernel, by decide +kernel⟩
def sp__law_one : Sp := fun vs H Q _ => ∃ p l xs, vs = [.ref p, .ref l] ∧ WellAt H p ∧ l ≠ p ∧ H l = some (.lst xs) ∧ 0 < xs.length ∧ xs.length < 1000 ∧ ∀ x H', x ∈ xs → Sw p H H' → Q x H'
theorem cal__law_one (T : Tx K mg) : C8.Cal P w K mg base 2 "_law_one" sp__law_one [] := by
  obtain ⟨fd, F⟩ := f__law_one T
  refine cal_of F (g__law_one T) (F.bindsN fun _ _ _ _ _ _ us hl => match us, hl with | [_, _], _ => rfl) sc__law_one (fun vs H Q E h => ?_) (fun cdv A outer s H vs Q E hr h => ?_)
  · obtain ⟨p, l, xs, rfl, _⟩ := h
    rfl

  · obtain ⟨p, l, xs, rfl, hw, hl, hx, h0, h1, q⟩ := h
    refine ⟨_, (pss_one (ps_ret (pe_ix (r := rIxL K) ix_list (pv 1) (C8.pe_c (cal__law_draw T) hr (by decide) (by rfl) (pa_cons (pv 0) (pa_cons (pe_callB call_len (by rfl) (m_len T) (by decide +kernel) (pa_cons (pv 1) pa_nil)) pa_nil))) (fun _ _ => rfl)))), ?_⟩
    one_place
    intro d H1 s1 d0 d1
    have hx1 := s1.k _ _ hl hx
    have hd : d.toNat < xs.length := by omega
    refine ⟨l, xs, d, xs[d.toNat], rfl, rfl, SqL.of hx1, ?_, q _ _ (List.getElem_mem hd) s1⟩
    unfold atI ixN
    rw [if_pos d0, if_pos d1]
    exact List.getElem?_eq_getElem hd
def optV : Option Int → V
  | none => .non
  | some r => .int r
theorem sc__law_result : FnScope ["word", "number", "other", "found"] ["word", "number", "other"] (defScope s__law_result) := ⟨rfl, rfl, rfl, by decide +kernel, rfl, by decide +kernel, by decide +kernel⟩
def sp__law_result : Sp := fun vs H Q _ => ∃ (wd : Wd) (x o : Int), vs = [.str wd.s, .int x, .int o] ∧ InR x ∧ InR o ∧ ∀ H', Same H H' → Q (optV (arithM wd x o)) H'
theorem cal__law_result (T : Tx K mg) : C8.Cal P w K mg base 4 "_law_result" sp__law_result [] := by
  obtain ⟨fd, F⟩ := f__law_result T
  refine cal_of F (g__law_result T) (F.bindsN fun _ _ _ _ _ _ us hl => match us, hl with | [_, _, _], _ => rfl) sc__law_result (fun vs H Q E h => ?_) (fun cdv A outer s H vs Q E hr h => ?_)
  · obtain ⟨wd, x, o, rfl, _⟩ := h
    rfl

  · obtain ⟨wd, x, o, rfl, hx, ho, q⟩ := h
    refine ⟨_, (pss_cons (ps_try_only rfl rfl ⟨rfl, by decide, .inl (g_Thrown T)⟩ Wk.takes0 (fun W pn xe tk _ => (pss_one (ps_set (i := 3) sc__law_result.nd rfl (.inl rfl) (Wk.pe_cx (calx_arith T) hr (by decide) tk (pa_cons (pv 0) (pa_cons (pv 1) (pa_cons (pv 2) pa_nil)))))))
      (fun a oe cls d pn hz hf => (pss_one (ps_ret pe_non))))
      (pss_one (ps_ret (pv 3)))), ?_⟩
    one_place
    refine ⟨fun z e H' s => ?_, fun e d H' s => ⟨true, (xcS T).1, fun _ a _ => ?_, fun z => nomatch z⟩⟩
    · one_place
      rw [e] at q
      exact q _ s
    · one_place
      rw [e] at q
      exact q _ s
theorem sc__law_great : FnScope ["well", "kind", "found", "turn"] ["well"] (defScope s__law_great) := ⟨rfl, rfl, rfl, by decide +kernel, rfl, by decide +kernel, by decide +kernel⟩
def sp__law_great : Sp := fun vs H Q _ => ∃ p, vs = [.ref p] ∧ WellAt H p ∧ ∀ x H', InR x → Sw p H H' → Q (.int x) H'
theorem cal__law_great (T : Tx K mg) : C8.Cal P w K mg base 3 "_law_great" sp__law_great [] := by
  obtain ⟨fd, F⟩ := f__law_great T
  refine cal_of F (g__law_great T) (F.bindsN fun _ _ _ _ _ _ us hl => match us, hl with | [_], _ => rfl) sc__law_great (fun vs H Q E h => ?_) (fun cdv A outer s H vs Q E hr h => ?_)
  · obtain ⟨p, rfl, _⟩ := h
    rfl

  · obtain ⟨p, rfl, hw, q⟩ := h
    refine ⟨_, (pss_cons (ps_set (i := 1) sc__law_great.nd rfl (.inl rfl) (C8.pe_c (cal__law_draw T) hr (by decide) (by rfl) (pa_cons (pv 0) (pa_cons pe_int pa_nil))))
      (pss_cons (ps_if (pt_cmpR op_lt (pv 1) pe_int (nomark _)) (pss_one (ps_ret (pe_op op_sub (C8.pe_c (cal__law_draw T) hr (by decide) (by rfl) (pa_cons (pv 0) (pa_cons pe_int pa_nil))) pe_int))) pss_nil)
      (pss_cons (ps_if (pt_cmpR op_eq (pv 1) pe_int (nomark _)) (pss_one (ps_ret (C8.pe_c (cal__law_one T) hr (by decide) (by rfl) (pa_cons (pv 0) (pa_cons (pe_lst (pa_cons (pe_wk (v := .int (9223372036854775807)) (pe_op op_sub (pe_wk (v := .int (9223372036854775808)) (pe_op op_shlW pe_int pe_int) fun _ _ _ q => ⟨_, _, rfl, rfl, shlc (by decide), Wk.q_of q (by first | rfl | decide +kernel)⟩) pe_int) fun _ _ _ q => ⟨_, _, rfl, rfl, Wk.q_of q (by first | rfl | decide +kernel)⟩) (pa_cons (pe_wk (v := .int (-9223372036854775808)) (pe_op op_sub pe_int (pe_wk (v := .int (9223372036854775808)) (pe_op op_shlW pe_int pe_int) fun _ _ _ q => ⟨_, _, rfl, rfl, shlc (by decide), Wk.q_of q (by first | rfl | decide +kernel)⟩)) fun _ _ _ q => ⟨_, _, rfl, rfl, Wk.q_of q (by first | rfl | decide +kernel)⟩) (pa_cons (pe_wk (v := .int (-1)) (pe_op op_sub pe_int pe_int) fun _ _ _ q => ⟨_, _, rfl, rfl, Wk.q_of q (by first | rfl | decide +kernel)⟩) (pa_cons (pe_wk (v := .int (4611686018427387904)) (pe_op op_shlW pe_int pe_int) fun _ _ _ q => ⟨_, _, rfl, rfl, shlc (by decide), Wk.q_of q (by first | rfl | decide +kernel)⟩) (pa_cons (pe_wk (v := .int (3298534883328)) (pe_op op_shlW pe_int pe_int) fun _ _ _ q => ⟨_, _, rfl, rfl, shlc (by decide), Wk.q_of q (by first | rfl | decide +kernel)⟩) (pa_cons (pe_wk (v := .int (-8589934592)) (pe_op op_sub pe_int (pe_wk (v := .int (8589934592)) (pe_op op_shlW pe_int pe_int) fun _ _ _ q => ⟨_, _, rfl, rfl, shlc (by decide), Wk.q_of q (by first | rfl | decide +kernel)⟩)) fun _ _ _ q => ⟨_, _, rfl, rfl, Wk.q_of q (by first | rfl | decide +kernel)⟩) pa_nil))))))) pa_nil))))) pss_nil)
      (pss_cons (ps_set (i := 2) sc__law_great.nd rfl (.inl rfl) pe_int)
      (pss_cons (ps_for PassesOwn.never rfl (pi_range1 rfl (m_range T) (pa_cons pe_int pa_nil)) (pg_name (i := 3) sc__law_great.nd rfl (.inl rfl))
      (pss_one (ps_set (i := 2) sc__law_great.nd rfl (.inl rfl) (pe_op op_add (pe_op op_mul (pv 2) pe_int) (C8.pe_c (cal__law_draw T) hr (by decide) (by rfl) (pa_cons (pv 0) (pa_cons pe_int pa_nil)))))))
      (pss_one (ps_ret (pe_ifExp (pt_cmpR op_lt (pv 1) pe_int (nomark _)) (pe_op op_sub (pv 2) (pe_wk (v := .int (9223372036854775808)) (pe_op op_shlW pe_int pe_int) fun _ _ _ q => ⟨_, _, rfl, rfl, shlc (by decide), Wk.q_of q (by first | rfl | decide +kernel)⟩)) (pe_op op_sub (pe_op op_mod (pv 2) (pe_wk (v := .int (9223372036854775808)) (pe_op op_shlW pe_int pe_int) fun _ _ _ q => ⟨_, _, rfl, rfl, shlc (by decide), Wk.q_of q (by first | rfl | decide +kernel)⟩)) (pe_op op_and (pv 2) pe_int)))))))))), ?_⟩
    one_place
    intro kind H1 s1 k0 k1
    one_place
    refine ifd (fun c => ?_) (fun c => ?_)
    · one_place
      refine ⟨s1.w, ?_⟩
      one_place
      intro d H2 s2 d0 d1
      one_place
      refine q _ _ ?_ (s1.trans s2)
      unfold InR
      omega
    one_place
    refine ifi (fun c => ?_) (fun c => ?_)
    · one_place
      intro l nl
      have nlp : l ≠ p := fun z => by
        obtain ⟨a, b, c, e⟩ := s1.w
        rw [z, e] at nl
        cases nl
      refine ⟨p, l, _, rfl, s1.w.same (same_new nl), nlp, upd_same, Nat.le_of_ble_eq_true rfl, Nat.le_of_ble_eq_true rfl, fun x H' hx s => ?_⟩
      have hx : ∃ n : Int, x = .int n ∧ InR n := by
        simp only [List.mem_cons, List.not_mem_nil, or_false] at hx
        rcases hx with rfl | rfl | rfl | rfl | rfl | rfl <;> exact ⟨_, rfl, by decide⟩
      obtain ⟨n, rfl, hn⟩ := hx
      exact q _ _ hn ((s1.same (same_new nl)).trans s)
    one_place
    refine for_range (lo := 0) (n := 4) (fun i σ H' => Sw p H H' ∧ ∃ (f : Int) (t : Option V), 0 ≤ f ∧ f < 65536 ^ i ∧ σ = [some (.ref p), some (.int kind), some (.int f), t]) ⟨s1, 0, none, by decide, by decide, rfl⟩ (fun i σ H' hi h => ?_) (fun σ H' h => ?_)
    · obtain ⟨s2, f, t, f0, f1, rfl⟩ := h
      have f2 : f < 65536 ^ 4 := Int.lt_of_lt_of_le f1 (by rcases i with _ | _ | _ | _ | i <;> first | decide | omega)
      one_place
      refine ⟨s2.w, ?_⟩
      one_place
      intro d H3 s3 d0 d1
      one_place
      refine ⟨s2.trans s3, _, _, ?_, ?_, rfl⟩
      · omega
      · rw [Int.pow_succ]
        omega
    · obtain ⟨s2, f, t, f0, f1, rfl⟩ := h
      have f1 : f < 18446744073709551616 := f1
      have hb : Builtin.bitAnd f 1 = f % 2 := bitAnd_m1 f
      one_place
      refine ifd (fun c => ?_) (fun c => ?_)
      · one_place
        refine q _ _ ?_ s2
        unfold InR
        omega
      · one_place
        refine q _ _ ?_ s2
        rw [hb]
        unfold InR
        omega
theorem sc__law_other : FnScope ["well", "word"] ["well", "word"] (defScope s__law_other) := ⟨rfl, rfl, rfl, by decide +kernel, rfl, by decide +kernel, by decide +kernel⟩
def sp__law_other : Sp := fun vs H Q _ => ∃ p, ∃ wd : Wd, vs = [.ref p, .str wd.s] ∧ WellAt H p ∧ ∀ x H', InR x → Sw p H H' → Q (.int x) H'
theorem cal__law_other (T : Tx K mg) : C8.Cal P w K mg base 4 "_law_other" sp__law_other [] := by
  obtain ⟨fd, F⟩ := f__law_other T
  refine cal_of F (g__law_other T) (F.bindsN fun _ _ _ _ _ _ us hl => match us, hl with | [_, _], _ => rfl) sc__law_other (fun vs H Q E h => ?_) (fun cdv A outer s H vs Q E hr h => ?_)
  · obtain ⟨p, wd, rfl, _⟩ := h
    rfl

  · obtain ⟨p, wd, rfl, hw, q⟩ := h
    refine ⟨_, (pss_cons (ps_if (pt_cmpR op_in_seq (pv 1) (pe_tup (pa_cons pe_str (pa_cons pe_str pa_nil))) (by rfl)) (pss_one (ps_ret (C8.pe_c (cal__law_one T) hr (by decide) (by rfl) (pa_cons (pv 0) (pa_cons (pe_lst (pa_cons (C8.pe_c (cal__law_draw T) hr (by decide) (by rfl) (pa_cons (pv 0) (pa_cons pe_int pa_nil))) (pa_cons (pe_op op_sub pe_int (C8.pe_c (cal__law_draw T) hr (by decide) (by rfl) (pa_cons (pv 0) (pa_cons pe_int pa_nil)))) (pa_cons pe_int (pa_cons (pe_wk (v := .int (-64)) (pe_op op_sub pe_int pe_int) fun _ _ _ q => ⟨_, _, rfl, rfl, Wk.q_of q (by first | rfl | decide +kernel)⟩) (pa_cons pe_int (pa_cons pe_int (pa_cons pe_int (pa_cons (pe_wk (v := .int (-9223372036854775808)) (pe_op op_sub pe_int (pe_wk (v := .int (9223372036854775808)) (pe_op op_shlW pe_int pe_int) fun _ _ _ q => ⟨_, _, rfl, rfl, shlc (by decide), Wk.q_of q (by first | rfl | decide +kernel)⟩)) fun _ _ _ q => ⟨_, _, rfl, rfl, Wk.q_of q (by first | rfl | decide +kernel)⟩) pa_nil))))))))) pa_nil))))) pss_nil)
      (pss_one (ps_ret (C8.pe_c (cal__law_great T) hr (by decide) (by rfl) (pa_cons (pv 0) pa_nil))))), ?_⟩
    have words : (wd = .shl ∨ wd = .shr) ∨ (wd = .add ∨ wd = .sub ∨ wd = .bxor ∨ wd = .mul ∨ wd = .floor ∨ wd = .mod ∨ wd = .band ∨ wd = .bor) := by cases wd <;> simp
    rcases words with hd | hd
    · refine yes_s (fun Q' q' => ?_) fun H1 s1 => ?_
      · one_place
        intro p np
        refine ⟨_, _, rfl, .inr (SqT.of upd_same), rfl, rfl, ?_⟩
        one_place
        rcases hd with rfl | rfl <;> exact q' _ (same_new np)
      have s1 := Sw.of s1 hw
      one_place
      refine ⟨s1.w, ?_⟩
      one_place
      intro d H2 s2 d0 d1
      one_place
      refine ⟨s2.w, ?_⟩
      one_place
      intro d' H3 s3 e0 e1
      have s3 := s1.trans (s2.trans s3)
      one_place
      intro l nl
      have nlp : l ≠ p := fun z => by
        obtain ⟨a, b, c, e⟩ := s3.w
        rw [z, e] at nl
        cases nl
      refine ⟨p, l, _, rfl, s3.w.same (same_new nl), nlp, upd_same, Nat.le_of_ble_eq_true rfl, Nat.le_of_ble_eq_true rfl, fun x H' hx s => ?_⟩
      have hx : ∃ n : Int, x = .int n ∧ InR n := by
        simp only [List.mem_cons, List.not_mem_nil, or_false] at hx
        unfold InR
        rcases hx with rfl | rfl | rfl | rfl | rfl | rfl | rfl | rfl <;> exact ⟨_, rfl, by omega⟩
      obtain ⟨n, rfl, hn⟩ := hx
      exact q _ _ hn ((s3.same (same_new nl)).trans s)
    · refine no_s (fun Q' q' => ?_) fun H1 s1 => ?_
      · one_place
        intro p np
        refine ⟨_, _, rfl, .inr (SqT.of upd_same), rfl, rfl, ?_⟩
        one_place
        rcases hd with rfl | rfl | rfl | rfl | rfl | rfl | rfl | rfl <;> exact q' _ (same_new np)
      · have s1 := Sw.of s1 hw
        one_place
        refine ⟨s1.w, ?_⟩
        exact fun x H' hx s => q _ _ hx (s1.trans s)
end
end K94

set_option Elab.async false
set_option linter.all false
set_option maxRecDepth 100000
set_option maxHeartbeats 800000
set_option exponentiation.threshold 10000

namespace K94
open PySem PySem.Spec PyProof.Rows L2 Wk
theorem none_back {H H' : Hp} {p : Addr} (s : Same H H') (h : H' p = none) : H p = none := by
  cases e : H p with
  | none => rfl
  | some x =>
    rw [s _ _ e] at h
    cases h
theorem WellAt.ne {H : Hp} {p q : Addr} {ps : List Addr} (h : WellAt H p) (e : H q = some (.lst (ps.map V.ref))) : p ≠ q := fun z => by
  obtain ⟨a, b, c, e'⟩ := h
  rw [z, e] at e'
  cases ps with
  | nil => cases e'
  | cons x r =>
    have := (HO.lst.inj (Option.some.inj e'))
    simp at this
section
variable {P : Program} {w : World} {K : PySem.W.Frag} {mg : Str → Option Value} {base : Heap}
theorem sc__law_wells : FnScope ["script", "many", "cell"] ["script", "many"] (defScope s__law_wells) := ⟨rfl, rfl, rfl, by decide +kernel, rfl, by decide +kernel, by decide +kernel⟩
def sp__law_wells (K : PySem.W.Frag) : Sp := fun vs H Q _ => ∃ (a : Addr) (m : Int) (ns : List Int), vs = [.ref a, .int m] ∧ SqL K H a (ns.map V.int) ∧ ns.length ≤ 63 ∧
  ∀ (L : Addr) (ps : List Addr) H', Same H H' → H' L = some (.lst (ps.map V.ref)) → (∀ p ∈ ps, WellAt H' p) → Q (.ref L) H'
theorem cal__law_wells (T : Tx K mg) : C8.Cal P w K mg base 2 "_law_wells" (sp__law_wells K) [] := by
  obtain ⟨fd, F⟩ := f__law_wells T
  refine cal_of F (g__law_wells T) (F.bindsN fun _ _ _ _ _ _ us hl => match us, hl with | [_, _], _ => rfl) sc__law_wells (fun vs H Q E h => ?_) (fun cdv A outer s H vs Q E hr h => ?_)
  · obtain ⟨a, m, ns, rfl, _⟩ := h
    rfl

  · obtain ⟨a, m, ns, rfl, ha, hn, q⟩ := h
    refine ⟨_, (pss_one (ps_ret (pe_lc (own := [("cell", 2)]) (g := gName 2) (tt := tYes) rfl sc__law_wells.nd (pi_list (pe_slice (r := rSlL K) sl_list (pe_op op_cat (pe_callTy call_list_of (by rfl) (m_list T) (by decide +kernel) (pa_cons (pv 0) pa_nil)) (pe_lst (pa_cons pe_int pa_nil))) po_none (po_some (pv 1)))) (blkOk_by (N := ["script", "many", "cell"]) (sc := defScope s__law_wells) (by decide +kernel)) (fun _ _ _ _ _ => pg_name (i := 2) sc__law_wells.nd rfl (Or.inl rfl)) (fun _ _ _ _ _ => pts_nil) (fun _ _ _ _ _ => (C8.pe_c (cal__law_well T) hr (by decide) (by rfl) (pa_cons (pv 2) pa_nil)))))), ?_⟩
    one_place
    refine ⟨a, _, rfl, .inl ha, fun l1 n1 => ?_⟩
    one_place
    intro l2 n2
    have e1 := same_new (o := .lst [.int 0]) n2 _ _ (upd_same (H := H) (a := l1) (o := .lst (ns.map V.int)))
    refine ⟨l1, l2, ns.map V.int, [.int 0], rfl, rfl, e1, upd_same, Nat.le_trans (show (ns.map V.int).length + 1 ≤ 64 by rw [List.length_map]; omega) (by rw [sizeLine_eq]; decide), fun l3 n3 => ?_⟩
    one_place
    refine ⟨l3, _, rfl, SqL.of upd_same, fun l4 n4 => ?_⟩
    refine ⟨l4, rfl, ⟨_, SqL.of upd_same⟩, fun D nD => ?_⟩
    have hx : ∀ x ∈ cutV (ns.map V.int ++ [.int 0]) none (some m), ∃ n : Int, x = .int n := fun x h => by
      have h := List.mem_of_mem_drop (List.mem_of_mem_take h)
      rcases List.mem_append.mp h with h | h
      · obtain ⟨n, _, rfl⟩ := List.mem_map.mp h
        exact ⟨n, rfl⟩
      · exact ⟨0, List.mem_singleton.mp h⟩
    have hlen : (cutV (ns.map V.int ++ [.int 0]) none (some m)).length ≤ 64 := Nat.le_trans (cutV_length _ _ _) (by rw [List.length_append, List.length_map]; show _ + 1 ≤ 64; omega)
    have n4' := n4
    have s4 := (same_new (o := .lst (ns.map V.int)) n1).trans ((same_new (o := .lst [.int 0]) n2).trans ((same_new (o := .lst (ns.map V.int ++ [.int 0])) n3).trans (same_new (o := .lst (cutV (ns.map V.int ++ [.int 0]) none (some m))) n4)))
    have hD : H D = none := none_back (s4.trans (same_id _)) nD
    generalize hxs : cutV (ns.map V.int ++ [.int 0]) none (some m) = xs at *
    refine lc_list (xs := xs) (fun i H' => Same H H' ∧ H' l4 = some (.lst xs) ∧ l4 ≠ D ∧ ∃ ps : List Addr, ps.length = i ∧ H' D = some (.lst (ps.map V.ref)) ∧ ∀ p ∈ ps, WellAt H' p) ⟨s4.trans (same_new nD), ?_, ?_, [], rfl, upd_same, fun _ h => nomatch h⟩ (fun i H' _ h => SqL.of h.2.1) (fun i x H' hi h => ?_) (fun H' h => ?_)
    · exact same_new nD _ _ upd_same
    · intro z
      rw [← z, upd_same] at nD
      cases nD
    · obtain ⟨s, e4, n4D, ps, hp, eD, hw⟩ := h
      have hlt : i < xs.length := (List.getElem?_eq_some_iff.mp hi).1
      obtain ⟨n, rfl⟩ := hx x (List.mem_of_getElem? hi)
      refine ⟨wipe_set, ?_⟩
      unfold tYes
      dsimp only
      rw [if_pos rfl]
      one_place
      intro p a b c np
      have pD : D ≠ p := ne_of_none eD np
      have p4 : l4 ≠ p := ne_of_none e4 np
      have s5 : Same H' (upd H' p (.lst [.int a, .int b, .int c])) := same_new np
      refine ⟨ps.map V.ref, s5 _ _ eD, small1000 (by rw [List.length_map]; omega), same_on (s.trans s5) hD, ?_, n4D, ps ++ [p], ?_, ?_, fun q hq => ?_⟩
      · rw [upd_ne n4D]
        exact s5 _ _ e4
      · rw [List.length_append, hp]
        rfl
      · rw [upd_same, List.map_append]
        rfl
      · have hq' : WellAt (upd H' p (.lst [.int a, .int b, .int c])) q := by
          rcases List.mem_append.mp hq with h | h
          · exact (hw q h).same s5
          · rw [List.mem_singleton.mp h]
            exact ⟨a, b, c, upd_same⟩
        have ne := hq'.ne (q := D) (ps := ps) (s5 _ _ eD)
        obtain ⟨a, b, c, e⟩ := hq'
        exact ⟨a, b, c, by rw [upd_ne ne]; exact e⟩
    · obtain ⟨s, e4, n4D, ps, hp, eD, hw⟩ := h
      exact q _ _ _ s eD hw
end
end K94

set_option Elab.async false
set_option linter.all false
set_option maxRecDepth 100000
set_option maxHeartbeats 800000
set_option exponentiation.threshold 10000

namespace K94
open PySem PySem.Spec PyProof.Rows L2 Wk
theorem two_sorted {x y : Int} {l : List Int} (h : x ≤ y) (p : l.Perm [x, y]) (s : l.Pairwise (· ≤ ·)) : l = [x, y] := by
  have hl : l.length = 2 := p.length_eq
  match l, hl with
  | [a, b], _ =>
    have hab : a ≤ b := by
      cases s with
      | cons h _ => exact h b (List.mem_singleton.mpr rfl)
    have ha : a = x ∨ a = y := by simpa using p.mem_iff.mp (List.mem_cons_self ..)
    have hb : b = x ∨ b = y := by simpa using p.mem_iff.mp (List.mem_cons_of_mem _ (List.mem_cons_self ..))
    have hx : x = a ∨ x = b := by simpa using p.mem_iff.mpr (List.mem_cons_self ..)
    have hy : y = a ∨ y = b := by simpa using p.mem_iff.mpr (List.mem_cons_of_mem _ (List.mem_cons_self ..))
    have e1 : a = x := by omega
    have e2 : b = y := by omega
    rw [e1, e2]
/-- what is told solves -/
structure Solves (wd : Wd) (o r : Int) (t : Tl) : Prop where
  ok : OkT t
  iff : ∀ x, InR x → (memT t x ↔ arithM wd x o = some r)
section
variable {P : Program} {w : World} {K : PySem.W.Frag} {mg : Str → Option Value} {base : Heap}
theorem sc__law_are_members_right : FnScope ["well", "word", "other", "result", "told", "many", "numbers", "found", "number", "member"] ["well", "word", "other", "result", "told"] (defScope s__law_are_members_right) := ⟨rfl, rfl, rfl, by decide +kernel, rfl, by decide +kernel, by decide +kernel⟩
def sp__law_are_members_right : Sp := fun vs H Q _ => ∃ (p : Addr) (wd : Wd) (o r : Int) (v : V) (t : Tl), vs = [.ref p, .str wd.s, .int o, .int r, v] ∧ WellAt H p ∧ InR o ∧ InR r ∧ TlV H v t ∧ Solves wd o r t ∧ ∀ H', Sw p H H' → Q (.bl true) H'
theorem cal__law_are_members_right (T : Tx K mg) : C8.Cal P w K mg base 5 "_law_are_members_right" sp__law_are_members_right [] := by
  obtain ⟨fd, F⟩ := f__law_are_members_right T
  refine cal_of F (g__law_are_members_right T) (F.bindsN fun _ _ _ _ _ _ us hl => match us, hl with | [_, _, _, _, _], _ => rfl) sc__law_are_members_right (fun vs H Q E h => ?_) (fun cdv A outer s H vs Q E hr h => ?_)
  · obtain ⟨p, wd, o, r, v, t, rfl, _⟩ := h
    rfl

  · obtain ⟨p, wd, o, r, v, t, rfl, hw, ho, hr', ht, so, q⟩ := h
    refine ⟨_, (pss_cons (ps_set (i := 5) sc__law_are_members_right.nd rfl (.inl rfl) (C8.pe_c (cal_how_many_solve T) hr (by decide) (by rfl) (pa_cons (pv 4) pa_nil)))
      (pss_cons (ps_set (i := 6) sc__law_are_members_right.nd rfl (.inl rfl) (pe_ifExp (pt_cmpR op_gt (pv 5) pe_int (nomark _)) (pe_lst (pa_cons pe_int (pa_cons (pe_op op_sub (pv 5) pe_int) (pa_cons (pe_op op_fdivW (pv 5) pe_int) (pa_cons (C8.pe_c (cal__law_draw T) hr (by decide) (by rfl) (pa_cons (pv 0) (pa_cons (pv 5) pa_nil))) (pa_cons (pe_op op_fdivW (pv 5) pe_int) pa_nil)))))) (pe_lst pa_nil)))
      (pss_cons (ps_setLc (i := 7) (own := [("number", 8)]) (g := gName 8) (tt := tYes) rfl sc__law_are_members_right.nd rfl rfl (sw_true rfl rfl rfl (by decide +kernel)) (pi_list (pv 6)) (blkOk_by (N := ["well", "word", "other", "result", "told", "many", "numbers", "found", "number", "member"]) (sc := defScope s__law_are_members_right) (by decide +kernel)) (fun _ _ _ _ _ => pg_name (i := 8) sc__law_are_members_right.nd rfl (Or.inl rfl)) (fun _ _ _ _ _ => pts_nil) (fun _ _ _ _ _ => (C8.pe_c (cal_solution_at T) hr (by decide) (by rfl) (pa_cons (pv 4) (pa_cons (pv 8) pa_nil)))))
      (pss_cons (ps_for PassesOwn.never rfl (pi_zip (by rfl) (m_zip T) (pa_cons (pv 6) (pa_cons (pv 7) pa_nil))) (pg_tup rfl (pgs_cons (pg_name (i := 8) sc__law_are_members_right.nd rfl (.inl rfl)) (pgs_cons (pg_name (i := 9) sc__law_are_members_right.nd rfl (.inl rfl)) pgs_nil)))
      (pss_cons (ps_if (PW.pt (pw_or (pt_cmpR op_ne (C8.pe_c (cal__law_result T) hr (by decide) (by rfl) (pa_cons (pv 1) (pa_cons (pv 9) (pa_cons (pv 2) pa_nil)))) (pv 3) (nomark _)) (pw_or1 (pt_cmpR op_notBl (C8.pe_c (cal_is_told T) hr (by decide) (by rfl) (pa_cons (pv 4) (pa_cons (pv 9) pa_nil))) pe_bl (nomark _))))) (pss_one (ps_ret pe_bl)) pss_nil)
      (pss_one (ps_if (pt_cmpR op_notBl (C8.pe_c (cal_leads_to T) hr (by decide) (by rfl) (pa_cons (pv 1) (pa_cons (pv 9) (pa_cons (pv 2) (pa_cons (pv 3) pa_nil))))) pe_bl (nomark _)) (pss_one (ps_ret pe_bl)) pss_nil))))
      (pss_cons (ps_if (PW.pt (pw_or (PW.pt (pw_and (pt_cmpR op_gt (pv 5) pe_int (nomark _)) (pw_and1 (pt_cmpR op_eq (pe_ix (r := rIxL K) ix_list (pv 7) pe_int (fun _ _ => rfl)) (pe_ix (r := rIxL K) ix_list (pv 7) pe_int (fun _ _ => rfl)) (nomark _))))) (pw_or1 (PW.pt (pw_and (pt_cmpR op_notN (pv 4) pe_non (nomark _)) (pw_and (pt_cmpR op_eq (pe_ix (r := rIxT K) ix_tup (pv 4) pe_int (fun _ _ => rfl)) pe_str (nomark _)) (pw_and1 (pt_cmpR (op_neD hr.units) (pe_callB cr_sorted (by rfl) (m_sorted T) (by decide +kernel) (pa_cons (pe_slice (r := rSlL K) sl_list (pv 7) po_none (po_some pe_int)) pa_nil)) (pe_slice (r := rSlL K) sl_list (pv 7) po_none (po_some pe_int)) (nomark _))))))))) (pss_one (ps_ret pe_bl)) pss_nil)
      (pss_one (ps_ret pe_bl))))))), ?_⟩
    have ok := so.ok
    have hb := cnt_bound ok
    one_place
    refine ⟨_, t, rfl, ht, ok, fun H1 s1 => ?_⟩
    have hw1 := hw.same s1
    have ht1 := ht.same (H' := H1) (fun p xs z => s1 _ _ z)
    dsimp only
    refine asg_mid (fun x H2 => Sw p H1 H2 ∧ ∃ (L : Addr) (ns : List Int), x = .ref L ∧ H2 L = some (.lst (ns.map V.int)) ∧ L ≠ p ∧ (∀ n ∈ ns, 0 ≤ n ∧ n < cntT t) ∧ ns.length ≤ 5 ∧ (0 < cntT t → ∃ a b c, ns = [0, cntT t - 1, a, b, c])) (fun Q' q' => ?_) (fun x H2 h2 => ?_)
    · one_place
      refine ifd (fun c => ?_) (fun c => ?_)
      · one_place
        intro d H2 s2 d0 d1
        one_place
        intro L nL
        refine q' _ _ ⟨s2.same (same_new nL), L, [0, cntT t - 1, cntT t / 2, d, cntT t / 3], rfl, upd_same, ?_, ?_, Nat.le_refl _, fun _ => ⟨_, _, _, rfl⟩⟩
        · intro z
          obtain ⟨a, b, c, e⟩ := s2.w
          rw [z, e] at nL
          cases nL
        · intro n hn
          simp only [List.mem_cons, List.not_mem_nil, or_false] at hn
          rcases hn with rfl | rfl | rfl | rfl | rfl <;> omega
      · one_place
        intro L nL
        refine q' _ _ ⟨Sw.of (same_new nL) hw1, L, [], rfl, upd_same, ?_, (fun n h => absurd h List.not_mem_nil), Nat.zero_le _, fun z => absurd z (by omega)⟩
        intro z
        obtain ⟨a, b, c, e⟩ := hw1
        rw [z, e] at nL
        cases nL
    · obtain ⟨s2, L, ns, rfl, eL, nLp, hns, hlen, h1⟩ := h2
      have ht2 : TlV H2 v t := ht1.same fun q xs z => s2.tup hw1 z
      have s02 : Sw p H H2 := (Sw.of s1 hw).trans s2
      one_place
      refine ⟨⟨_, SqL.of eL⟩, lcs_list (xs := ns.map V.int) (fun i => .int (solAt t (ns.getD i 0))) (SqL.of eL) (small1000 (by rw [List.length_map]; omega)) (fun i x H' hi hx s Q'' k => ?_) (fun D H3 s3 nD hD => ?_)⟩
      · rw [List.getElem?_map] at hx
        rw [List.length_map] at hi
        obtain ⟨n, hn, rfl⟩ := Option.map_eq_some_iff.mp hx
        have e : ns.getD i 0 = n := by rw [List.getD_eq_getElem?_getD, hn]; rfl
        have hm := hns n (List.mem_of_getElem? hn)
        one_place
        exact ⟨_, t, n, rfl, ht2.same (fun q xs z => s _ _ z), ok, hm.1, hm.2, fun H4 s4 => by rw [← e]; exact k _ s4⟩
      have eL3 := s3 _ _ eL
      have ht3 := ht2.same (H' := H3) (fun q xs z => s3 _ _ z)
      have s03 := s02.same s3
      have hfound : ∀ i, i < ns.length → ((List.range (ns.map V.int).length).map fun i => V.int (solAt t (ns.getD i 0)))[i]? = some (.int (solAt t (ns.getD i 0))) := fun i hi => by
        rw [List.getElem?_map, List.getElem?_range (by rw [List.length_map]; exact hi)]
        rfl
      have hflen : ((List.range (ns.map V.int).length).map fun i => V.int (solAt t (ns.getD i 0))).length = ns.length := by rw [List.length_map, List.length_range, List.length_map]
      generalize hf : ((List.range (ns.map V.int).length).map fun i => V.int (solAt t (ns.getD i 0))) = found at *
      dsimp only
      one_place
      refine ⟨L, D, _, _, rfl, SqL.of eL3, SqL.of hD, RZ.for_zipL (by rw [List.length_map, hflen]) (fun i σ H' => Same H3 H' ∧ ∃ a b, σ = [some (.ref p), some (.str wd.s), some (.int o), some (.int r), some v, some (.int (cntT t)), some (.ref L), some (.ref D), a, b]) ⟨same_id _, none, none, rfl⟩
        (fun i σ H' h => ⟨SqL.of (h.1 _ _ eL3), SqL.of (h.1 _ _ hD)⟩) (fun i x y T σ H' hx hy h nT => ?_) (fun σ H' h => ?_)⟩
      · obtain ⟨s4, a, b, rfl⟩ := h
        rw [List.getElem?_map] at hx
        obtain ⟨n, hn, rfl⟩ := Option.map_eq_some_iff.mp hx
        have hm := hns n (List.mem_of_getElem? hn)
        have hi : i < ns.length := (List.getElem?_eq_some_iff.mp hn).1
        have e : ns.getD i 0 = n := by rw [List.getD_eq_getElem?_getD, hn]; rfl
        rw [hfound i hi, e] at hy
        cases hy
        obtain ⟨mi, mm⟩ := sol_mem ok hm.1 hm.2
        have s4 := s4.trans (same_new (o := .tup [.int n, .int (solAt t n)]) nT)
        generalize solAt t n = x at *
        have ea := (so.iff x mi).mp mm
        refine ⟨T, [.int n, .int x], rfl, SqT.of upd_same, rfl, ?_⟩
        one_place
        intro H6 s6
        rw [ea]
        one_place
        refine if_f (by show (!decide (V.int r = V.int r)) = false; rw [decide_eq_true rfl]; rfl) ?_
        one_place
        refine ⟨v, t, x, rfl, ht3.same fun q xs z => s6 _ _ (s4 _ _ z), ok, mi, fun b H7 s7 hb7 => ?_⟩
        have hb7 : b = true := hb7.mpr mm
        subst hb7
        one_place
        intro H8 s8
        rw [ea, decide_eq_true rfl]
        one_place
        exact ⟨((s4.trans s6).trans s7).trans s8, _, _, rfl⟩
      · obtain ⟨s4, a, b, rfl⟩ := h
        have hD4 := s4 _ _ hD
        have ht4 := ht3.same (H' := H') (fun q xs z => s4 _ _ z)
        dsimp only
        refine no_s (fun Q' q' => ?_) fun H5 s5 => ?_
        · have last : tAnd (tTest (tOp (fun x y H Q => y = V.non ∧ Q (V.bl !decide (x = V.non)) H) (tVar 4) (tC V.non)))
              (tAnd (tTest (tOp rEq (tOp (rIxT K) (tVar 4) (tC (V.int 0))) (tC (V.str (Str.ofString "row")))))
                (tTest (tOp (rNeD K) (tCB (rSorted K) (tCons (tSl (rSlL K) (tVar 7) tNoPart (tPart (tC (V.int 2)))) tNil)) (tSl (rSlL K) (tVar 7) tNoPart (tPart (tC (V.int 2)))))))
              [some (.ref p), some (.str wd.s), some (.int o), some (.int r), some v, some (.int (cntT t)), some (.ref L), some (.ref D), a, b] H' Q' := by
            cases t with
            | non =>
              cases ht4
              one_place
              exact q' _ (same_id _)
            | bits b fr =>
              obtain ⟨pv, rfl, hpv⟩ := ht4
              one_place
              exact q' _ (same_id _)
            | row f s m =>
              obtain ⟨pv, rfl, hpv⟩ := ht4
              obtain ⟨a', b', c', rfl⟩ := h1 (show 0 < m by have := ok.2.2.2.1; omega)
              have ef : found = [.int (f + s * 0), .int (f + s * (m - 1)), .int (f + s * a'), .int (f + s * b'), .int (f + s * c')] := hf.symm
              rw [ef] at hD4
              have le : f + s * 0 ≤ f + s * (m - 1) := by
                have := Int.mul_nonneg (show 0 ≤ s by have := ok.2.1; omega) (show 0 ≤ m - 1 by have := ok.2.2.2.1; omega)
                omega
              generalize f + s * 0 = x0 at *
              generalize f + s * (m - 1) = x1 at *
              one_place
              refine ⟨D, _, rfl, SqL.of hD4, fun l nl => ?_⟩
              one_place
              refine ⟨l, [x0, x1], rfl, SqL.of upd_same, Nat.le_of_ble_eq_true rfl, fun ns' l2 hp hs n2 => ?_⟩
              rw [two_sorted le hp hs]
              have hD5 := same_new (o := .lst ([x0, x1].map V.int)) n2 _ _ (same_new (o := .lst (cutV [.int x0, .int x1, .int (f + s * a'), .int (f + s * b'), .int (f + s * c')] none (some 2))) nl _ _ hD4)
              one_place
              refine ⟨D, _, rfl, SqL.of hD5, fun l3 n3 => ?_⟩
              have hl2 := same_new (o := .lst (cutV [.int x0, .int x1, .int (f + s * a'), .int (f + s * b'), .int (f + s * c')] none (some 2))) n3 _ _ (upd_same (a := l2) (o := .lst ([x0, x1].map V.int)))
              refine ⟨.list [.int x0, .int x1], .list [.int x0, .int x1], .lst (SqL.of hl2) (.cons (.int _) (.cons (.int _) .nil)), .lst (SqL.of upd_same) (.cons (.int _) (.cons (.int _) .nil)), shaped_lst ⟨rfl, rfl, trivial⟩, shaped_lst ⟨rfl, rfl, trivial⟩, ?_⟩
              exact ⟨false, congrArg V.bl (by simp [PyData.eqv, PyData.eqvAll]), q' _ ((same_new nl).trans ((same_new n2).trans (same_new n3)))⟩
          one_place
          refine ifd (fun c => ?_) (fun c => ?_)
          · obtain ⟨a', b', c', rfl⟩ := h1 (by omega)
            have ef : found = [.int (solAt t 0), .int (solAt t (cntT t - 1)), .int (solAt t a'), .int (solAt t b'), .int (solAt t c')] := hf.symm
            rw [ef] at hD4
            have ne : solAt t 0 ≠ solAt t (cntT t - 1) := fun z => by
              have := sol_inj ok (by omega) (by omega) (by omega) (by omega) z
              omega
            one_place
            refine if_f (decide_eq_false fun z => ne (V.int.inj z)) ?_
            exact last
          · exact last
        · one_place
          exact q _ (s03.same (s4.trans s5))
end
end K94

set_option Elab.async false
set_option linter.all false
set_option maxRecDepth 100000
set_option maxHeartbeats 800000
set_option exponentiation.threshold 10000

namespace K94
open PySem PySem.Spec PyProof.Rows L2 Wk
theorem optV_eq {u : Option Int} {r : Int} : decide (optV u = .int r) = decide (u = some r) := by
  cases u with
  | none => rfl
  | some z =>
    by_cases c : z = r
    · rw [decide_eq_true (show optV (some z) = .int r from congrArg V.int c), decide_eq_true (congrArg some c)]
    · rw [decide_eq_false (show ¬ optV (some z) = .int r from fun h => c (V.int.inj h)), decide_eq_false fun h => c (Option.some.inj h)]
theorem optV_scal {u : Option Int} {r : Int} : scal (optV u) (.int r) = true := by cases u <;> rfl
section
variable {P : Program} {w : World} {K : PySem.W.Frag} {mg : Str → Option Value} {base : Heap}
theorem sc__law_are_borders_right : FnScope ["word", "other", "result", "told", "low", "high", "number"] ["word", "other", "result", "told"] (defScope s__law_are_borders_right) := ⟨rfl, rfl, rfl, by decide +kernel, rfl, by decide +kernel, by decide +kernel⟩
def sp__law_are_borders_right : Sp := fun vs H Q _ => ∃ (wd : Wd) (o r : Int) (v : V) (t : Tl), vs = [.str wd.s, .int o, .int r, v] ∧ InR o ∧ InR r ∧ TlV H v t ∧ Solves wd o r t ∧ ∀ H', Same H H' → Q (.bl true) H'
theorem cal__law_are_borders_right (T : Tx K mg) : C8.Cal P w K mg base 5 "_law_are_borders_right" sp__law_are_borders_right [] := by
  obtain ⟨fd, F⟩ := f__law_are_borders_right T
  refine cal_of F (g__law_are_borders_right T) (F.bindsN fun _ _ _ _ _ _ us hl => match us, hl with | [_, _, _, _], _ => rfl) sc__law_are_borders_right (fun vs H Q E h => ?_) (fun cdv A outer s H vs Q E hr h => ?_)
  · obtain ⟨wd, o, r, v, t, rfl, _⟩ := h
    rfl

  · obtain ⟨wd, o, r, v, t, rfl, ho, hr', ht, so, q⟩ := h
    refine ⟨_, (pss_cons (ps_if (PW.pt (pw_or (pt_cmpR op_isN (pv 3) pe_non (nomark _)) (pw_or1 (pt_cmpR op_ne (pe_ix (r := rIxT K) ix_tup (pv 3) pe_int (fun _ _ => rfl)) pe_str (nomark _))))) (pss_one (ps_ret pe_bl)) pss_nil)
      (pss_cons (ps_par (i := 4) (j := 5) rfl sc__law_are_borders_right.nd rfl rfl (by decide) rfl rfl (pa_cons (pe_op op_sub (C8.pe_c (cal_solution_at T) hr (by decide) (by rfl) (pa_cons (pv 3) (pa_cons pe_int pa_nil))) (pe_ix (r := rIxT K) ix_tup (pv 3) pe_int (fun _ _ => rfl))) (pa_cons (pe_op op_add (C8.pe_c (cal_solution_at T) hr (by decide) (by rfl) (pa_cons (pv 3) (pa_cons (pe_op op_sub (pe_ix (r := rIxT K) ix_tup (pv 3) pe_int (fun _ _ => rfl)) pe_int) pa_nil))) (pe_ix (r := rIxT K) ix_tup (pv 3) pe_int (fun _ _ => rfl))) pa_nil)) (by rfl))
      (pss_cons (ps_for PassesOwn.never rfl (pi_tup (pe_tup (pa_cons (pv 4) (pa_cons (pv 5) pa_nil)))) (pg_name (i := 6) sc__law_are_borders_right.nd rfl (.inl rfl))
      (pss_one (ps_if (PW.pt (pw_and (pt_cmpR op_lt (pe_callB call_abs (by rfl) (m_abs T) (by decide +kernel) (pa_cons (pe_op op_add_ib (pv 6) (pe_cmpR op_lt (pv 6) pe_int (nomark _))) pa_nil)) (pe_wk (v := .int (9223372036854775808)) (pe_op op_shlW pe_int pe_int) fun _ _ _ q => ⟨_, _, rfl, rfl, shlc (by decide), Wk.q_of q (by first | rfl | decide +kernel)⟩) (nomark _)) (pw_and1 (pt_cmpR op_eq (C8.pe_c (cal__law_result T) hr (by decide) (by rfl) (pa_cons (pv 0) (pa_cons (pv 6) (pa_cons (pv 1) pa_nil)))) (pv 2) (nomark _))))) (pss_one (ps_ret pe_bl)) pss_nil)))
      (pss_one (ps_ret pe_bl))))), ?_⟩
    have ok := so.ok
    cases t with
    | non =>
      cases ht
      one_place
      exact q _ (same_id _)
    | bits b fr =>
      obtain ⟨pv, rfl, hpv⟩ := ht
      one_place
      exact q _ (same_id _)
    | row f s0 m =>
      obtain ⟨pv, rfl, hpv⟩ := ht
      have ok' := ok
      obtain ⟨o1, o2, o3, o4, o5, o6⟩ := ok'
      one_place
      refine ⟨_, .row f s0 m, 0, rfl, ⟨pv, rfl, hpv⟩, ok, Int.le_refl _, by show 0 < m; omega, fun H1 s1 => ?_⟩
      have hp1 := s1 _ _ hpv
      one_place
      refine ⟨_, .row f s0 m, m - 1, rfl, ⟨pv, rfl, hp1⟩, ok, by omega, by show m - 1 < m; omega, fun H2 s2 => ?_⟩
      have hp2 := s2 _ _ hp1
      have s2 := s1.trans s2
      one_place
      intro T nT
      have s3 := s2.trans (same_new (o := .tup [.int (f + s0 * 0 - s0), .int (f + s0 * (m - 1) + s0)]) nT)
      refine ⟨T, rfl, ⟨_, SqT.of upd_same⟩, for_tup (xs := [.int (f + s0 * 0 - s0), .int (f + s0 * (m - 1) + s0)]) (fun i σ H' => Same H H' ∧ H' T = some (.tup [.int (f + s0 * 0 - s0), .int (f + s0 * (m - 1) + s0)]) ∧ ∃ n, σ = [some (.str wd.s), some (.int o), some (.int r), some (.ref pv), some (.int (f + s0 * 0 - s0)), some (.int (f + s0 * (m - 1) + s0)), n]) ⟨s3, upd_same, none, rfl⟩
        (fun i σ H' _ h => SqT.of h.2.1) (fun i x σ H' hi h => ?_) (fun σ H' h => ?_)⟩
      · obtain ⟨s4, hT, n, rfl⟩ := h
        obtain ⟨z, rfl, hz⟩ : ∃ z, x = .int z ∧ ¬ memT (.row f s0 m) z := by
          match i, hi with
          | 0, hi => exact ⟨_, (Option.some.inj hi).symm, fun h => by have h := h.1; omega⟩
          | 1, hi => exact ⟨_, (Option.some.inj hi).symm, fun h => by have h := h.2.1; omega⟩
        one_place
        dsimp only
        refine ifd (fun c => ?_) (fun c => ?_)
        · have hz2 : InR z := by
            unfold InR
            unfold b2i at c
            by_cases d : z < 0
            · rw [decide_eq_true d] at c
              simp only [if_true] at c
              split at c <;> omega
            · rw [decide_eq_false d] at c
              simp only [Bool.false_eq_true, if_false] at c
              split at c <;> omega
          one_place
          intro H5 s5
          refine ⟨_, rfl, optV_scal, ?_⟩
          rw [optV_eq, decide_eq_false fun h => hz ((so.iff z hz2).mpr h)]
          one_place
          exact ⟨s4.trans s5, s5 _ _ hT, _, rfl⟩
        · one_place
          exact ⟨_, rfl⟩
      · obtain ⟨s4, hT, n, rfl⟩ := h
        one_place
        exact q _ s4
theorem sc__law_is_right : FnScope ["well", "word", "other", "number", "due", "result", "told", "some", "is_so", "turn"] ["well", "word"] (defScope s__law_is_right) := ⟨rfl, rfl, rfl, by decide +kernel, rfl, by decide +kernel, by decide +kernel⟩
def sp__law_is_right : Sp := fun vs H Q _ => ∃ p, ∃ wd : Wd, vs = [.ref p, .str wd.s] ∧ WellAt H p ∧ ∀ H', Sw p H H' → Q (.bl true) H'
theorem cal__law_is_right (T : Tx K mg) : C8.Cal P w K mg base 6 "_law_is_right" sp__law_is_right [] := by
  obtain ⟨fd, F⟩ := f__law_is_right T
  refine cal_of F (g__law_is_right T) (F.bindsN fun _ _ _ _ _ _ us hl => match us, hl with | [_, _], _ => rfl) sc__law_is_right (fun vs H Q E h => ?_) (fun cdv A outer s H vs Q E hr h => ?_)
  · obtain ⟨p, wd, rfl, _⟩ := h
    rfl

  · obtain ⟨p, wd, rfl, hw, q⟩ := h
    refine ⟨_, (pss_cons (ps_par (i := 2) (j := 3) rfl sc__law_is_right.nd rfl rfl (by decide) rfl rfl (pa_cons (C8.pe_c (cal__law_other T) hr (by decide) (by rfl) (pa_cons (pv 0) (pa_cons (pv 1) pa_nil))) (pa_cons (C8.pe_c (cal__law_great T) hr (by decide) (by rfl) (pa_cons (pv 0) pa_nil)) pa_nil)) (by rfl))
      (pss_cons (ps_set (i := 4) sc__law_is_right.nd rfl (.inl rfl) (C8.pe_c (cal__law_result T) hr (by decide) (by rfl) (pa_cons (pv 1) (pa_cons (pv 3) (pa_cons (pv 2) pa_nil)))))
      (pss_cons (ps_set (i := 5) sc__law_is_right.nd rfl (.inl rfl) (pe_ifExp (PW.pt (pw_and (pt_cmpR op_notN (pv 4) pe_non (nomark _)) (pw_and1 (pt_cmpR op_gt (C8.pe_c (cal__law_draw T) hr (by decide) (by rfl) (pa_cons (pv 0) (pa_cons pe_int pa_nil))) pe_int (nomark _))))) (pv 4) (C8.pe_c (cal__law_great T) hr (by decide) (by rfl) (pa_cons (pv 0) pa_nil))))
      (pss_cons (ps_set (i := 6) sc__law_is_right.nd rfl (.inl rfl) (C8.pe_c (cal_solved T) hr (by decide) (by rfl) (pa_cons (pv 1) (pa_cons (pv 2) (pa_cons (pv 5) pa_nil)))))
      (pss_cons (ps_if (pt_not (pt_val (C8.pe_c (cal__law_are_members_right T) hr (by decide) (by rfl) (pa_cons (pv 0) (pa_cons (pv 1) (pa_cons (pv 2) (pa_cons (pv 5) (pa_cons (pv 6) pa_nil)))))))) (pss_one (ps_ret pe_bl)) pss_nil)
      (pss_cons (ps_if (pt_not (pt_val (C8.pe_c (cal__law_are_borders_right T) hr (by decide) (by rfl) (pa_cons (pv 1) (pa_cons (pv 2) (pa_cons (pv 5) (pa_cons (pv 6) pa_nil))))))) (pss_one (ps_ret pe_bl)) pss_nil)
      (pss_cons (ps_for PassesOwn.never rfl (pi_list (pe_op op_cat (pe_op op_cat (pe_lst (pa_cons (pv 3) pa_nil)) (pe_lc (own := [("turn", 9)]) (g := gName 9) (tt := tYes) rfl sc__law_is_right.nd (pi_range1 rfl (m_range T) (pa_cons pe_int pa_nil)) (blkOk_by (N := ["well", "word", "other", "number", "due", "result", "told", "some", "is_so", "turn"]) (sc := defScope s__law_is_right) (by decide +kernel)) (fun _ _ _ _ _ => pg_name (i := 9) sc__law_is_right.nd rfl (Or.inl rfl)) (fun _ _ _ _ _ => pts_nil) (fun _ _ _ _ _ => (C8.pe_c (cal__law_great T) hr (by decide) (by rfl) (pa_cons (pv 0) pa_nil))))) (pe_lst (pa_cons (pv 5) (pa_cons (pv 2) (pa_cons pe_int pa_nil)))))) (pg_name (i := 7) sc__law_is_right.nd rfl (.inl rfl))
      (pss_cons (ps_set (i := 8) sc__law_is_right.nd rfl (.inl rfl) (pe_cmpR op_eq (C8.pe_c (cal__law_result T) hr (by decide) (by rfl) (pa_cons (pv 1) (pa_cons (pv 7) (pa_cons (pv 2) pa_nil)))) (pv 5) (nomark _)))
      (pss_one (ps_if (pt_cmpR (op_neD hr.units) (pe_lst (pa_cons (C8.pe_c (cal_is_told T) hr (by decide) (by rfl) (pa_cons (pv 6) (pa_cons (pv 7) pa_nil))) (pa_cons (C8.pe_c (cal_leads_to T) hr (by decide) (by rfl) (pa_cons (pv 1) (pa_cons (pv 7) (pa_cons (pv 2) (pa_cons (pv 5) pa_nil))))) pa_nil))) (pe_lst (pa_cons (pv 8) (pa_cons (pv 8) pa_nil))) (nomark _)) (pss_one (ps_ret pe_bl)) pss_nil))))
      (pss_one (ps_ret pe_bl))))))))), ?_⟩
    one_place
    intro o H1 ho s1
    one_place
    refine ⟨s1.w, ?_⟩
    intro x H2 hx s2
    have s2 := s1.trans s2
    one_place
    intro H3 s3
    have s3 := s2.same s3
    dsimp only
    refine asg_mid (fun x H4 => Sw p H3 H4 ∧ ∃ r, x = .int r ∧ InR r) (fun Q' q' => ?_) (fun x H4 h4 => ?_)
    · have great : ∀ u H4, Sw p H3 H4 → tCall sp__law_great [] C8.E0 (tCons (tVar 0) tNil) [some (.ref p), some (.str wd.s), some (.int o), some (.int x), u, none, none, none, none, none] H4 Q' := fun u H4 s4 => by
        one_place
        refine ⟨s4.w, fun x H5 hx s5 => q' _ _ ⟨s4.trans s5, x, rfl, hx⟩⟩
      cases ha : arithM wd x o with
      | none =>
        one_place
        exact ⟨s3.w, fun x H5 hx s5 => q' _ _ ⟨s5, x, rfl, hx⟩⟩
      | some d =>
        one_place
        refine ⟨s3.w, ?_⟩
        one_place
        intro e H4 s4 e0 e1
        one_place
        refine ifd (fun c => ?_) (fun c => ?_)
        · one_place
          exact q' _ _ ⟨s4, d, rfl, arith_in hx ho ha⟩
        · exact great _ _ s4
    · obtain ⟨s4, r, rfl, hr'⟩ := h4
      have s4 := s3.trans s4
      one_place
      intro v H5 s5 ht5
      have so : Solves wd o r (solvedM wd o r) := ⟨(solved_ok ho hr').1, (solved_ok ho hr').2⟩
      generalize solvedM wd o r = t at *
      have s5 := s4.same s5
      one_place
      refine ⟨p, wd, o, r, v, t, rfl, s5.w, ho, hr', ht5, so, fun H6 s6 => ?_⟩
      have ht6 := ht5.same (H' := H6) (fun q xs z => s6.tup s5.w z)
      have s6 := s5.trans s6
      one_place
      refine ⟨wd, o, r, v, t, rfl, ho, hr', ht6, so, fun H7 s7 => ?_⟩
      have ht7 := ht6.same (H' := H7) (fun q xs z => s7 _ _ z)
      have s7 := s6.same s7
      one_place
      intro l1 n1
      have l1p : l1 ≠ p := fun z => by
        obtain ⟨a, b, c, e⟩ := s7.w
        rw [z, e] at n1
        cases n1
      have ht8 := ht7.same (H' := upd H7 l1 (.lst [.int x])) (fun q xs z => same_new n1 _ _ z)
      have s8 := s7.same (same_new (o := .lst [.int x]) n1)
      have e1 : (upd H7 l1 (.lst [.int x])) l1 = some (.lst [.int x]) := upd_same
      generalize upd H7 l1 (.lst [.int x]) = H8 at *
      one_place
      intro D nD
      have Dp : D ≠ p := fun z => by
        obtain ⟨a, b, c, e⟩ := s8.w
        rw [z, e] at nD
        cases nD
      have l1D : l1 ≠ D := ne_of_none e1 nD
      refine lc_range (lo := 0) (n := 3) (fun i H' => Sw p H8 H' ∧ H' l1 = some (.lst [.int x]) ∧ ∃ ns : List Int, ns.length = i ∧ H' D = some (.lst (ns.map V.int)) ∧ ∀ n ∈ ns, InR n) ⟨.of (same_new nD) s8.w, same_new nD _ _ e1, [], rfl, upd_same, fun n h => absurd h List.not_mem_nil⟩
        (fun i H' hi h => ?_) (fun H9 h => ?_)
      · obtain ⟨s9, e1', ns, hl, eD, hin⟩ := h
        refine ⟨wipe_set, ?_⟩
        unfold tYes
        dsimp only
        rw [if_pos rfl]
        one_place
        refine ⟨s9.w, ?_⟩
        intro z H10 hz s10
        have eD10 := s10.k _ _ Dp eD
        refine ⟨ns.map V.int, eD10, small1000 (by rw [List.length_map]; omega), ?_, ?_, ns ++ [z], by rw [List.length_append, hl]; rfl, by rw [upd_same, List.map_append]; rfl, fun n hn => ?_⟩
        · obtain ⟨a, b, c, e⟩ := s10.w
          refine ⟨fun q y nq e' => ?_, a, b, c, by rw [upd_ne (Ne.symm Dp)]; exact e⟩
          have hq : q ≠ D := ne_of_none e' nD
          rw [upd_ne hq]
          exact s10.k _ _ nq (s9.k _ _ nq e')
        · rw [upd_ne l1D]
          exact s10.k _ _ l1p e1'
        · rcases List.mem_append.mp hn with h | h
          · exact hin n h
          · rw [List.mem_singleton.mp h]
            exact hz
      · obtain ⟨s9, e1', ns, hl, eD, hin⟩ := h
        have ht9 := ht8.same (H' := H9) (fun q xs z => s9.tup s8.w z)
        have s9 := s8.trans s9
        refine ⟨l1, D, [.int x], ns.map V.int, rfl, rfl, e1', eD, by rw [List.length_map, hl]; exact Nat.le_of_ble_eq_true rfl, fun l2 n2 => ?_⟩
        one_place
        intro l3 n3
        refine ⟨l2, l3, _, _, rfl, rfl, same_new n3 _ _ upd_same, upd_same, ?_, fun l4 n4 => ?_⟩
        · show ((V.int x :: ns.map V.int).length + 3) ≤ sizeLine
          rw [List.length_cons, List.length_map, hl]
          exact Nat.le_of_ble_eq_true rfl
        have hx : ∀ y ∈ ([V.int x] ++ ns.map V.int) ++ [V.int r, V.int o, V.int 0], ∃ n, y = .int n ∧ InR n := fun y hy => by
          rcases List.mem_append.mp hy with hy | hy
          · rcases List.mem_append.mp hy with hy | hy
            · exact ⟨x, List.mem_singleton.mp hy, hx⟩
            · obtain ⟨n, hn, rfl⟩ := List.mem_map.mp hy
              exact ⟨n, rfl, hin n hn⟩
          · simp only [List.mem_cons, List.not_mem_nil, or_false] at hy
            rcases hy with rfl | rfl | rfl
            · exact ⟨_, rfl, hr'⟩
            · exact ⟨_, rfl, ho⟩
            · exact ⟨_, rfl, by decide⟩
        have s12 : Same H9 (upd (upd (upd H9 l2 (.lst ([V.int x] ++ ns.map V.int))) l3 (.lst [V.int r, V.int o, V.int 0])) l4 (.lst (([V.int x] ++ ns.map V.int) ++ [V.int r, V.int o, V.int 0]))) := (same_new n2).trans ((same_new n3).trans (same_new n4))
        have e4 : (upd (upd (upd H9 l2 (.lst ([V.int x] ++ ns.map V.int))) l3 (.lst [V.int r, V.int o, V.int 0])) l4 (.lst (([V.int x] ++ ns.map V.int) ++ [V.int r, V.int o, V.int 0]))) l4 = some (.lst (([V.int x] ++ ns.map V.int) ++ [V.int r, V.int o, V.int 0])) := upd_same
        generalize ([V.int x] ++ ns.map V.int) ++ [V.int r, V.int o, V.int 0] = xs at *
        generalize upd (upd (upd H9 l2 (.lst ([V.int x] ++ ns.map V.int))) l3 (.lst [V.int r, V.int o, V.int 0])) l4 (.lst xs) = H12 at *
        have ht12 := ht9.same (H' := H12) (fun q xs z => s12 _ _ z)
        have s12 := s9.same s12
        refine ⟨l4, rfl, ⟨_, SqL.of e4⟩, for_list (xs := xs) (fun i σ H' => Same H12 H' ∧ ∃ a b c, σ = [some (.ref p), some (.str wd.s), some (.int o), some (.int x), some (optV (arithM wd x o)), some (.int r), some v, a, b, c]) ⟨same_id _, none, none, none, rfl⟩ (fun i σ H' _ h => SqL.of (h.1 _ _ e4)) (fun i y σ H' hi h => ?_) (fun σ H' h => ?_)⟩
        · obtain ⟨s13, a, b, c, rfl⟩ := h
          obtain ⟨n, rfl, hn⟩ := hx y (List.mem_of_getElem? hi)
          have ht13 := ht12.same (H' := H') (fun q xs z => s13 _ _ z)
          one_place
          intro H14 s14
          refine ⟨_, rfl, optV_scal, ?_⟩
          rw [optV_eq]
          one_place
          refine ⟨v, t, n, rfl, ht13.same (fun q xs z => s14 _ _ z), so.ok, hn, fun b' H15 s15 hb => ?_⟩
          have hb : b' = decide (arithM wd n o = some r) := by
            rw [Bool.eq_iff_iff, hb, so.iff n hn, decide_eq_true_iff]
          subst hb
          one_place
          intro H16 s16
          have s16 := s13.trans (s14.trans (s15.trans s16))
          generalize decide (arithM wd n o = some r) = B at *
          one_place
          intro l5 n5
          one_place
          intro l6 n6
          refine ⟨.list [.bool B, .bool B], .list [.bool B, .bool B], .lst (SqL.of (same_new n6 _ _ upd_same)) (.cons (.bl _) (.cons (.bl _) .nil)), .lst (SqL.of upd_same) (.cons (.bl _) (.cons (.bl _) .nil)), shaped_lst ⟨rfl, rfl, trivial⟩, shaped_lst ⟨rfl, rfl, trivial⟩, ?_⟩
          refine ⟨false, congrArg V.bl (by simp [PyData.eqv, PyData.eqvAll]), ?_⟩
          one_place
          exact ⟨s16.trans ((same_new n5).trans (same_new n6)), _, _, _, rfl⟩
        · obtain ⟨s13, a, b, c, rfl⟩ := h
          one_place
          exact q _ (s12.same s13)
end
end K94

set_option Elab.async false
set_option linter.all false
set_option maxRecDepth 100000
set_option maxHeartbeats 800000
set_option exponentiation.threshold 10000

namespace K94
open PySem PySem.Spec PyProof.Rows L2 Wk
theorem merge_len : ∀ (more acc : List (Key × V)), (∀ kv ∈ more, valV acc kv.1 = none) → (more.map (·.1)).Nodup → (mergeK acc more).length = acc.length + more.length
  | [], _, _, _ => rfl
  | (k, v) :: r, acc, h, n => by
    have n' := List.nodup_cons.mp n
    show (mergeK (putK acc k v) r).length = _
    rw [putK_new v (h _ (List.mem_cons_self ..)), merge_len r _ (fun kv hk => ?_) n'.2, List.length_append, List.length_cons]
    · show acc.length + 1 + r.length = acc.length + (r.length + 1); omega
    · have hk0 := h kv (List.mem_cons_of_mem _ hk)
      have ne : ¬ k = kv.1 := fun z => n'.1 (List.mem_map.mpr ⟨kv, hk, z.symm⟩)
      unfold valV at *
      rw [List.find?_append]
      cases e : acc.find? (fun p => decide (p.1 = kv.1)) with
      | some x =>
        rw [e] at hk0
        cases hk0
      | none => simp [ne]
theorem paired_of {α β : Type} {R : α → β → Prop} : ∀ (ps : List α) (ks : List β), ps.length = ks.length → (∀ (j : Nat) (p : α) (k : β), ps[j]? = some p → ks[j]? = some k → R p k) → Paired R ps ks
  | [], [], _, _ => .nil
  | p :: ps, k :: ks, hl, h => .cons (h 0 p k rfl rfl) (paired_of ps ks (by simpa using hl) fun j p' k' e1 e2 => h (j + 1) p' k' e1 e2)
  | [], _ :: _, hl, _ => by cases hl
  | _ :: _, [], hl, _ => by cases hl
section
variable {P : Program} {w : World} {K : PySem.W.Frag} {mg : Str → Option Value} {base : Heap}
theorem sc__law_is_counted_right : FnScope ["well", "word", "mask", "turn", "number", "other", "told", "many", "found", "free", "at", "one"] ["well"] (defScope s__law_is_counted_right) := ⟨rfl, rfl, rfl, by decide +kernel, rfl, by decide +kernel, by decide +kernel⟩
def sp__law_is_counted_right : Sp := fun vs H Q _ => ∃ p, vs = [.ref p] ∧ WellAt H p ∧ ∀ H', Sw p H H' → Q (.bl true) H'
theorem cal__law_is_counted_right (T : Tx K mg) : C8.Cal P w K mg base 5 "_law_is_counted_right" sp__law_is_counted_right [] := by
  obtain ⟨fd, F⟩ := f__law_is_counted_right T
  refine cal_of F (g__law_is_counted_right T) (F.bindsN fun _ _ _ _ _ _ us hl => match us, hl with | [_], _ => rfl) sc__law_is_counted_right (fun vs H Q E h => ?_) (fun cdv A outer s H vs Q E hr h => ?_)
  · obtain ⟨p, rfl, _⟩ := h
    rfl

  · obtain ⟨p, rfl, hw, q⟩ := h
    refine ⟨_, (pss_cons (ps_asg (pe_tup (pa_cons (C8.pe_c (cal__law_one T) hr (by decide) (by rfl) (pa_cons (pv 0) (pa_cons (pe_lst (pa_cons pe_str (pa_cons pe_str pa_nil))) pa_nil))) (pa_cons pe_int pa_nil))) (pg_tup rfl (pgs_cons (pg_name (i := 1) sc__law_is_counted_right.nd rfl (.inl rfl)) (pgs_cons (pg_name (i := 2) sc__law_is_counted_right.nd rfl (.inr rfl)) pgs_nil))))
      (pss_cons (ps_for PassesOwn.never rfl (pi_range1 rfl (m_range T) (pa_cons (C8.pe_c (cal__law_draw T) hr (by decide) (by rfl) (pa_cons (pv 0) (pa_cons pe_int pa_nil))) pa_nil)) (pg_name (i := 3) sc__law_is_counted_right.nd rfl (.inl rfl))
      (pss_one (ps_set (i := 2) sc__law_is_counted_right.nd rfl (.inr rfl) (pe_op op_or (pv 2) (pe_op op_shl1 pe_int (C8.pe_c (cal__law_draw T) hr (by decide) (by rfl) (pa_cons (pv 0) (pa_cons pe_int pa_nil))))))))
      (pss_cons (ps_set (i := 2) sc__law_is_counted_right.nd rfl (.inr rfl) (pe_ifExp (pt_cmpR op_ge (pv 2) (pe_wk (v := .int (9223372036854775808)) (pe_op op_shlW pe_int pe_int) fun _ _ _ q => ⟨_, _, rfl, rfl, shlc (by decide), Wk.q_of q (by first | rfl | decide +kernel)⟩) (nomark _)) (pe_op op_sub (pv 2) (pe_wk (v := .int (18446744073709551616)) (pe_op op_shlW pe_int pe_int) fun _ _ _ q => ⟨_, _, rfl, rfl, shlc (by decide), Wk.q_of q (by first | rfl | decide +kernel)⟩)) (pv 2)))
      (pss_cons (ps_set (i := 4) sc__law_is_counted_right.nd rfl (.inl rfl) (C8.pe_c (cal__law_great T) hr (by decide) (by rfl) (pa_cons (pv 0) pa_nil)))
      (pss_cons (ps_set (i := 5) sc__law_is_counted_right.nd rfl (.inl rfl) (pe_ifExp (pt_cmpR op_eq (pv 1) pe_str (nomark _)) (pe_un un_inv (pv 2)) (pv 2)))
      (pss_cons (ps_set (i := 6) sc__law_is_counted_right.nd rfl (.inr rfl) (C8.pe_c (cal_solved T) hr (by decide) (by rfl) (pa_cons (pv 1) (pa_cons (pv 5) (pa_cons (C8.pe_c (cal__law_result T) hr (by decide) (by rfl) (pa_cons (pv 1) (pa_cons (pv 4) (pa_cons (pv 5) pa_nil)))) pa_nil)))))
      (pss_cons (ps_set (i := 7) sc__law_is_counted_right.nd rfl (.inl rfl) (C8.pe_c (cal_how_many_solve T) hr (by decide) (by rfl) (pa_cons (pv 6) pa_nil)))
      (pss_cons (ps_setLc (i := 8) (own := [("at", 10)]) (g := gName 10) (tt := tYes) rfl sc__law_is_counted_right.nd rfl rfl (sw_true rfl rfl rfl (by decide +kernel)) (pi_range1 rfl (m_range T) (pa_cons (pv 7) pa_nil)) (blkOk_by (N := ["well", "word", "mask", "turn", "number", "other", "told", "many", "found", "free", "at", "one"]) (sc := defScope s__law_is_counted_right) (by decide +kernel)) (fun _ _ _ _ _ => pg_name (i := 10) sc__law_is_counted_right.nd rfl (Or.inl rfl)) (fun _ _ _ _ _ => pts_nil) (fun _ _ _ _ _ => (C8.pe_c (cal_solution_at T) hr (by decide) (by rfl) (pa_cons (pv 6) (pa_cons (pv 10) pa_nil)))))
      (pss_cons (ps_set (i := 9) sc__law_is_counted_right.nd rfl (.inl rfl) (pe_callB call_len (by rfl) (m_len T) (by decide +kernel) (pa_cons (pe_lc (own := [("at", 10)]) (g := gName 10) rfl sc__law_is_counted_right.nd (pi_range1 rfl (m_range T) (pa_cons pe_int pa_nil)) (blkOk_by (N := ["well", "word", "mask", "turn", "number", "other", "told", "many", "found", "free", "at", "one"]) (sc := defScope s__law_is_counted_right) (by decide +kernel)) (fun _ _ _ _ _ => pg_name (i := 10) sc__law_is_counted_right.nd rfl (Or.inl rfl)) (fun _ _ _ _ _ => (pts_one (pt_cmpR op_eq (pe_op op_and (pe_op op_shr (pv 2) (pv 10)) pe_int) pe_int (nomark _)))) (fun _ _ _ _ _ => (pv 10))) pa_nil)))
      (pss_one (ps_ret (pe_and (pe_cmpR op_eq (pv 7) (pe_op op_shl1 pe_int (pv 9)) (nomark _)) (pe_and (pe_cmpR op_eq (pe_callB call_lenD (by rfl) (m_len T) (by decide +kernel) (pa_cons (pe_callTy (call_dictP rfl) (by rfl) (m_dict T) (by decide +kernel) (pa_cons (pe_lc (own := [("one", 11)]) (g := gName 11) (tt := tYes) rfl sc__law_is_counted_right.nd (pi_list (pv 8)) (blkOk_by (N := ["well", "word", "mask", "turn", "number", "other", "told", "many", "found", "free", "at", "one"]) (sc := defScope s__law_is_counted_right) (by decide +kernel)) (fun _ _ _ _ _ => pg_name (i := 11) sc__law_is_counted_right.nd rfl (Or.inl rfl)) (fun _ _ _ _ _ => pts_nil) (fun _ _ _ _ _ => (pe_tup (pa_cons (pv 11) (pa_cons pe_bl pa_nil))))) pa_nil)) pa_nil)) (pv 7) (nomark _)) (pe_one (pe_cmpR op_in_seq (pv 4) (pv 8) (by rfl)))))))))))))))), ?_⟩
    one_place
    intro l nl
    have lp : l ≠ p := fun z => by
      obtain ⟨a, b, c, e⟩ := hw
      rw [z, e] at nl
      cases nl
    refine ⟨p, l, _, rfl, hw.same (same_new nl), lp, upd_same, Nat.le_of_ble_eq_true rfl, Nat.le_of_ble_eq_true rfl, fun x H1 hx s1 => ?_⟩
    have s1 := (Sw.of (same_new nl) hw).trans s1
    obtain ⟨wd, hwd, rfl⟩ : ∃ wd : Wd, (wd = .band ∨ wd = .bor) ∧ x = .str wd.s := by
      simp only [List.mem_cons, List.not_mem_nil, or_false] at hx
      rcases hx with rfl | rfl
      · exact ⟨.band, .inl rfl, rfl⟩
      · exact ⟨.bor, .inr rfl, rfl⟩
    one_place
    intro T nT
    have s2 := s1.same (same_new (o := .tup [.str wd.s, .int 0]) nT)
    refine ⟨T, [.str wd.s, .int 0], rfl, SqT.of upd_same, rfl, ?_⟩
    one_place
    refine ⟨s2.w, ?_⟩
    one_place
    intro d H3 s3 d0 d1
    have s3 := s2.trans s3
    one_place
    refine for_range (lo := 0) (n := d.toNat) (fun i σ H' => Sw p H H' ∧ ∃ (m : Int) (t : Option V), 0 ≤ m ∧ m < 18446744073709551616 ∧ popF m 64 0 ≤ i ∧ σ = [some (.ref p), some (.str wd.s), some (.int m), t, none, none, none, none, none, none, none, none])
      ⟨s3, 0, none, Int.le_refl _, by decide, Nat.le_of_eq (pop_zero 64 0), rfl⟩ (fun i σ H' hi h => ?_) (fun σ H' h => ?_)
    · obtain ⟨s4, m, t, m0, m1, hp, rfl⟩ := h
      one_place
      refine ⟨s4.w, ?_⟩
      one_place
      intro e H5 s5 e0 e1
      one_place
      obtain ⟨b0, b1⟩ := or_small m0 m1 (b := e.toNat) (by omega)
      have hp' := pop_or m e.toNat 64 0
      rw [if_pos (Nat.zero_le _)] at hp'
      exact ⟨s4.trans s5, _, _, b0, b1, by omega, rfl⟩
    · obtain ⟨s4, m, t, m0, m1, hp, rfl⟩ := h
      obtain ⟨mi, mm⟩ := sgn_in m0 m1
      have hp : popF (sgn m) 64 0 ≤ 4 := by
        rw [← pop_mod, mm]
        omega
      dsimp only
      refine asg_mid (fun x H5 => H5 = H' ∧ x = .int (sgn m)) (fun Q' q' => ?_) (fun x H5 h5 => ?_)
      · one_place
        unfold sgn at q'
        refine ifd (fun c => ?_) (fun c => ?_)
        · rw [if_pos c] at q'
          one_place
          exact q' _ _ ⟨rfl, rfl⟩
        · rw [if_neg c] at q'
          one_place
          exact q' _ _ ⟨rfl, rfl⟩
      obtain ⟨rfl, rfl⟩ := h5
      generalize sgn m = M at *
      one_place
      refine ⟨s4.w, ?_⟩
      intro x H6 hxx s6
      have s6 := s4.trans s6
      dsimp only
      refine asg_mid (fun y H7 => H7 = H6 ∧ ∃ o r X, y = .int o ∧ InR o ∧ InR r ∧ arithM wd x o = some r ∧ solvedM wd o r = bitsT X M) (fun Q' q' => ?_) (fun y H7 h7 => ?_)
      · rcases hwd with rfl | rfl
        · one_place
          exact q' _ _ ⟨rfl, bNot M, bAnd x (bNot M), _, rfl, not_in mi, arith_in (w := .band) hxx (not_in mi) rfl, rfl, band_told⟩
        · one_place
          exact q' _ _ ⟨rfl, M, bOr x M, _, rfl, mi, arith_in (w := .bor) hxx mi rfl, rfl, bor_told⟩
      obtain ⟨rfl, o, r, X, rfl, ho, hr', ea, eX⟩ := h7
      one_place
      intro H8 s8
      rw [ea]
      one_place
      intro v H9 s9 ht9
      have so : Solves wd o r (solvedM wd o r) := ⟨(solved_ok ho hr').1, (solved_ok ho hr').2⟩
      rw [eX] at ht9 so
      have ec : cntT (bitsT X M) = 2 ^ popF M 64 0 := cnt_bits mi
      obtain ⟨pc, hpc⟩ : ∃ pc, popF M 64 0 = pc := ⟨_, rfl⟩
      rw [hpc] at ec hp
      have ok := so.ok
      have mem := (so.iff x hxx).mpr ea
      generalize bitsT X M = t at *
      have c1 : cntT t ≤ 16 := by
        rw [ec]
        exact pow_le hp
      have c0 : 0 < cntT t := by
        rw [ec]
        exact p2 _
      have s9 := s6.same (s8.trans s9)
      one_place
      refine ⟨v, t, rfl, ht9, ok, fun H10 s10 => ?_⟩
      have ht10 := ht9.same (H' := H10) (fun q xs z => s10 _ _ z)
      have s10 := s9.same s10
      one_place
      refine lcs_range (n := (cntT t).toNat) (fun i => .int (solAt t i)) (small1000 (by omega)) (fun i H' hi s Q'' k => ?_) (fun D H11 s11 nD hD => ?_)
      · one_place
        exact ⟨v, t, _, rfl, ht10.same fun q xs z => s _ _ z, ok, by omega, by omega, fun H4 s4 => by rw [Int.zero_add]; exact k _ s4⟩
      have s11 := s10.same s11
      one_place
      intro D2 nD2
      refine lc_range (lo := 0) (n := 64) (fun i H' => Same H11 H' ∧ ∃ xs : List V, H' D2 = some (.lst xs) ∧ xs.length ≤ i ∧ xs.length + popF M (64 - i) i = pc) ⟨same_new nD2, [], upd_same, Nat.le_refl _, by rw [← hpc]; exact Nat.zero_add _⟩ (fun i H' hi h => ?_) (fun H12 h => ?_)
      · obtain ⟨s12, xs, eD2, hl, hc⟩ := h
        refine ⟨wipe_set, ?_⟩
        obtain ⟨k, hk⟩ : ∃ k, 64 - i = k + 1 := ⟨63 - i, by omega⟩
        have hk2 : 64 - (i + 1) = k := by omega
        rw [hk] at hc
        unfold popF at hc
        have hb : Builtin.bitAnd (M / 2 ^ (0 + (i : Int)).toNat) 1 = M / 2 ^ i % 2 := by
          rw [show (0 + (i : Int)).toNat = i by omega]
          exact bitAnd_m1 _
        one_place
        refine ifi (fun c => ?_) (fun c => ?_)
        · have ht : tb M i = true := decide_eq_true (by rw [← hb]; exact c)
          rw [if_pos ht] at hc
          one_place
          refine ⟨xs, eD2, small1000 (by omega), same_on s12 nD2, xs ++ [.int (0 + i)], upd_same, ?_, ?_⟩
          · rw [List.length_append]
            show xs.length + 1 ≤ i + 1
            omega
          · rw [hk2, List.length_append]
            show xs.length + 1 + _ = pc
            omega
        · have ht : ¬ tb M i = true := fun z => c (by rw [hb]; exact of_decide_eq_true z)
          rw [if_neg ht] at hc
          refine ⟨s12, xs, eD2, by omega, ?_⟩
          rw [hk2]
          omega
      · obtain ⟨s12, xs, eD2, hl, hc⟩ := h
        have hc : xs.length = pc := by
          have z : popF M (64 - 64) 64 = 0 := rfl
          omega
        clear hpc
        have hD12 := s12 _ _ hD
        have s12 := s11.same s12
        one_place
        refine if_t (decide_eq_true (by rw [ec, hc]; rfl)) ?_
        one_place
        refine ⟨⟨_, SqL.of hD12⟩, fun D3 nD3 => ?_⟩
        have flen : ((List.range (cntT t).toNat).map fun i : Nat => V.int (solAt t i)).length = (cntT t).toNat := by rw [List.length_map, List.length_range]
        have fget : ∀ j x, ((List.range (cntT t).toNat).map fun i : Nat => V.int (solAt t i))[j]? = some x → x = .int (solAt t j) ∧ j < (cntT t).toNat := fun j x h => by
          have hj : j < (cntT t).toNat := by
            have := (List.getElem?_eq_some_iff.mp h).1
            rwa [flen] at this
          rw [List.getElem?_map, List.getElem?_range hj] at h
          exact ⟨(Option.some.inj h).symm, hj⟩
        refine lc_list (xs := (List.range (cntT t).toNat).map fun i : Nat => V.int (solAt t i)) (fun i H' => Same H12 H' ∧ ∃ ps : List Addr, ps.length = i ∧ H' D3 = some (.lst (ps.map V.ref)) ∧ ∀ (j : Nat) (p : Addr), ps[j]? = some p → H' p = some (.tup [.int (solAt t j), .bl true]))
          ⟨same_new nD3, [], rfl, upd_same, fun j p h => by cases h⟩ (fun i H' _ h => SqL.of (h.1 _ _ hD12)) (fun i y H' hi h => ?_) (fun H13 h => ?_)
        · obtain ⟨rfl, hi2⟩ := fget i y hi
          obtain ⟨s13, ps, hl, eD3, hps⟩ := h
          refine ⟨wipe_set, ?_⟩
          unfold tYes
          dsimp only
          rw [if_pos rfl]
          one_place
          intro T nT
          have s14 : Same H' (upd H' T (.tup [.int (solAt t i), .bl true])) := same_new nT
          refine ⟨ps.map V.ref, s14 _ _ eD3, small1000 (by rw [List.length_map]; omega), same_on (s13.trans s14) nD3, ps ++ [T], by rw [List.length_append, hl]; rfl, by rw [upd_same, List.map_append]; rfl, fun j a h => ?_⟩
          have ha : (upd H' T (.tup [.int (solAt t i), .bl true])) a = some (.tup [.int (solAt t j), .bl true]) := by
            by_cases c : j < ps.length
            · rw [List.getElem?_append_left c] at h
              exact s14 _ _ (hps j a h)
            · rw [List.getElem?_append_right (by omega)] at h
              have hj : j - ps.length = 0 := by
                have := (List.getElem?_eq_some_iff.mp h).1
                simp at this
                omega
              rw [hj] at h
              have e : T = a := Option.some.inj h
              have e2 : j = i := by omega
              rw [← e, e2]
              exact upd_same
          have ne : a ≠ D3 := fun z => by
            rw [z, s14 _ _ eD3] at ha
            cases ha
          rw [upd_ne ne]
          exact ha
        · rw [flen] at h
          obtain ⟨s13, ps, hl, eD3, hps⟩ := h
          have hD13 := s13 _ _ hD12
          have s13 := s12.same s13
          have kl : ((List.range (cntT t).toNat).map fun i : Nat => ((Sum.inl (solAt t i), V.bl true) : Key × V)).length = (cntT t).toNat := by rw [List.length_map, List.length_range]
          refine ⟨D3, ps, (List.range (cntT t).toNat).map fun i : Nat => (.inl (solAt t i), .bl true), rfl, SqL.of eD3, paired_of _ _ (by rw [kl, hl]) fun j a kv h1 h2 => ?_, fun a na => ?_⟩
          · have hj : j < (cntT t).toNat := by
              have := (List.getElem?_eq_some_iff.mp h2).1
              rwa [kl] at this
            rw [List.getElem?_map, List.getElem?_range hj] at h2
            cases h2
            exact SqT.of (hps j a h1)
          have ml : (mergeK [] ((List.range (cntT t).toNat).map fun i : Nat => ((Sum.inl (solAt t i), V.bl true) : Key × V))).length = (cntT t).toNat := by
            rw [merge_len _ _ (fun _ _ => rfl) ?_, kl]
            · exact Nat.zero_add _
            · rw [List.map_map]
              refine List.pairwise_map.mpr (List.Pairwise.imp_of_mem (R := fun a b => a ≠ b) (fun {i j} hi hj ne => ?_) List.nodup_range)
              intro z
              have hi := List.mem_range.mp hi
              have hj := List.mem_range.mp hj
              have e := sol_inj ok (n := (i : Int)) (n' := (j : Int)) (by omega) (by omega) (by omega) (by omega) (Sum.inl.inj z)
              omega
          refine ⟨a, _, rfl, upd_same, ?_⟩
          rw [ml]
          one_place
          refine if_t (decide_eq_true (by rw [Int.toNat_of_nonneg (by omega)])) ?_
          one_place
          have fall : ((List.range (cntT t).toNat).map fun i : Nat => V.int (solAt t i)).all flatV = true := List.all_eq_true.mpr fun y hy => by
            obtain ⟨i, _, rfl⟩ := List.mem_map.mp hy
            rfl
          refine ⟨D, _, rfl, .inl (SqL.of (same_new na _ _ hD13)), rfl, fall, ?_⟩
          refine q_of (q _ (s13.same (same_new na))) (congrArg V.bl ?_)
          obtain ⟨n, n0, n1, en⟩ := sol_sur ok hxx mem
          have hin : V.int x ∈ (List.range (cntT t).toNat).map fun i : Nat => V.int (solAt t i) := List.mem_map.mpr ⟨n.toNat, List.mem_range.mpr (by omega), by rw [Int.toNat_of_nonneg n0, en]⟩
          have : inV (.int x) ((List.range (cntT t).toNat).map fun i : Nat => V.int (solAt t i)) = true := by
            unfold inV
            rw [List.any_eq_true]
            exact ⟨_, hin, by simp [eqV]⟩
          rw [if_neg (by decide), this]
end
end K94

set_option Elab.async false
set_option linter.all false
set_option maxRecDepth 100000
set_option maxHeartbeats 800000
set_option exponentiation.threshold 10000

namespace K94
open PySem PySem.Spec PyProof.Rows L2 Wk
theorem known1 : solvedM .floor (-1) (-9223372036854775808) = .row (-9223372036854775808) 1 1 := by first | rfl | decide +kernel
theorem known2 : solvedM .mod 0 0 = .non := by first | rfl | decide +kernel
theorem known3 : solvedM .mul 0 0 = .bits 0 (-1) := by first | rfl | decide +kernel
theorem known4 : solvedM .mul 2 3 = .non := by first | rfl | decide +kernel
section
variable {P : Program} {w : World} {K : PySem.W.Frag} {mg : Str → Option Value} {base : Heap}
def wordsV10 : List V := [.str "add", .str "sub", .str "mul", .str "floor", .str "mod", .str "band", .str "bor", .str "bxor", .str "shl", .str "shr"]
theorem sc_law : FnScope ["script", "well", "word", "known"] ["script"] (defScope s_law) := ⟨rfl, rfl, rfl, by decide +kernel, rfl, by decide +kernel, by decide +kernel⟩
def sp_law (K : PySem.W.Frag) : Sp := fun vs H Q _ => ∃ (a : Addr) (ns : List Int), vs = [.ref a] ∧ SqL K H a (ns.map V.int) ∧ ns.length ≤ 63 ∧ ∀ H', Q (.bl true) H'
theorem ok_law (T : Tx K mg) {fd : FuncData} (F : FnP K "law" s_law (He.ga K "law") fd) : FnOk P w K mg base C8.CX0 7 (He.ga K "law") fd ["script"] (sp_law K) := by
  refine Wk.ok_of F sc_law (fun vs H Q E h => ?_) (fun cdv A outer s H vs Q E hr h => ?_)
  · obtain ⟨a, ns, rfl, _⟩ := h
    rfl

  · obtain ⟨a, ns, rfl, ha, hn, q⟩ := h
    refine ⟨_, (pss_cons (ps_for PassesOwn.never rfl (pi_list (C8.pe_c (cal__law_wells T) hr (by decide) (by rfl) (pa_cons (pv 0) (pa_cons pe_int pa_nil)))) (pg_name (i := 1) sc_law.nd rfl (.inl rfl))
      (pss_cons (ps_for PassesOwn.never rfl (pi_list (pe_lst (pa_cons pe_str (pa_cons pe_str (pa_cons pe_str (pa_cons pe_str (pa_cons pe_str (pa_cons pe_str (pa_cons pe_str (pa_cons pe_str (pa_cons pe_str (pa_cons pe_str pa_nil)))))))))))) (pg_name (i := 2) sc_law.nd rfl (.inl rfl))
      (pss_one (ps_if (pt_not (pt_val (C8.pe_c (cal__law_is_right T) hr (by decide) (by rfl) (pa_cons (pv 1) (pa_cons (pv 2) pa_nil))))) (pss_one (ps_ret pe_bl)) pss_nil)))
      (pss_one (ps_if (pt_not (pt_val (C8.pe_c (cal__law_is_counted_right T) hr (by decide) (by rfl) (pa_cons (pv 1) pa_nil)))) (pss_one (ps_ret pe_bl)) pss_nil))))
      (pss_cons (ps_set (i := 3) sc_law.nd rfl (.inl rfl) (pe_lst (pa_cons (C8.pe_c (cal_solved T) hr (by decide) (by rfl) (pa_cons pe_str (pa_cons (pe_wk (v := .int (-1)) (pe_op op_sub pe_int pe_int) fun _ _ _ q => ⟨_, _, rfl, rfl, Wk.q_of q (by first | rfl | decide +kernel)⟩) (pa_cons (pe_wk (v := .int (-9223372036854775808)) (pe_op op_sub pe_int (pe_wk (v := .int (9223372036854775808)) (pe_op op_shlW pe_int pe_int) fun _ _ _ q => ⟨_, _, rfl, rfl, shlc (by decide), Wk.q_of q (by first | rfl | decide +kernel)⟩)) fun _ _ _ q => ⟨_, _, rfl, rfl, Wk.q_of q (by first | rfl | decide +kernel)⟩) pa_nil)))) (pa_cons (C8.pe_c (cal_solved T) hr (by decide) (by rfl) (pa_cons pe_str (pa_cons pe_int (pa_cons pe_int pa_nil)))) (pa_cons (C8.pe_c (cal_solved T) hr (by decide) (by rfl) (pa_cons pe_str (pa_cons pe_int (pa_cons pe_int pa_nil)))) (pa_cons (C8.pe_c (cal_solved T) hr (by decide) (by rfl) (pa_cons pe_str (pa_cons pe_int (pa_cons pe_int pa_nil)))) pa_nil))))))
      (pss_one (ps_ret (pe_cmpR (op_eqD hr.units) (pv 3) (pe_lst (pa_cons (pe_tup (pa_cons pe_str (pa_cons (pe_wk (v := .int (-9223372036854775808)) (pe_op op_sub pe_int (pe_wk (v := .int (9223372036854775808)) (pe_op op_shlW pe_int pe_int) fun _ _ _ q => ⟨_, _, rfl, rfl, shlc (by decide), Wk.q_of q (by first | rfl | decide +kernel)⟩)) fun _ _ _ q => ⟨_, _, rfl, rfl, Wk.q_of q (by first | rfl | decide +kernel)⟩) (pa_cons pe_int (pa_cons pe_int pa_nil))))) (pa_cons pe_non (pa_cons (pe_tup (pa_cons pe_str (pa_cons pe_int (pa_cons (pe_wk (v := .int (-1)) (pe_op op_sub pe_int pe_int) fun _ _ _ q => ⟨_, _, rfl, rfl, Wk.q_of q (by first | rfl | decide +kernel)⟩) pa_nil)))) (pa_cons pe_non pa_nil))))) (nomark _)))))), ?_⟩
    one_place
    refine ⟨a, 5, ns, rfl, ha, hn, fun L ps H1 _ eL hps => ?_⟩
    refine ⟨L, rfl, ⟨_, SqL.of eL⟩, for_list (xs := ps.map V.ref) (fun i σ H' => H' L = some (.lst (ps.map V.ref)) ∧ (∀ p ∈ ps, WellAt H' p) ∧ ∃ b c, σ = [some (.ref a), b, c, none]) ⟨eL, hps, none, none, rfl⟩ (fun i σ H' _ h => SqL.of h.1) (fun i x σ H' hi h => ?_) (fun σ H' h => ?_)⟩
    · obtain ⟨eL, hps, b, c, rfl⟩ := h
      rw [List.getElem?_map] at hi
      obtain ⟨p, hp, rfl⟩ := Option.map_eq_some_iff.mp hi
      have hw := hps p (List.mem_of_getElem? hp)
      have keep : ∀ H2, Sw p H' H2 → H2 L = some (.lst (ps.map V.ref)) ∧ (∀ p ∈ ps, WellAt H2 p) := fun H2 s => by
        refine ⟨s.k _ _ (Ne.symm (hw.ne eL)) eL, fun q hq => ?_⟩
        by_cases c : q = p
        · rw [c]
          exact s.w
        · obtain ⟨x, y, z, e⟩ := hps q hq
          exact ⟨x, y, z, s.k _ _ c e⟩
      one_place
      intro l nl
      have nlp : l ≠ p := fun z => by
        obtain ⟨a, b, c, e⟩ := hw
        rw [z, e] at nl
        cases nl
      refine ⟨l, rfl, ⟨_, SqL.of upd_same⟩, for_list (xs := wordsV10) (fun i σ H2 => Sw p H' H2 ∧ H2 l = some (.lst wordsV10) ∧ ∃ c, σ = [some (.ref a), some (.ref p), c, none]) ⟨.of (same_new nl) hw, upd_same, c, rfl⟩ (fun i σ H' _ h => SqL.of h.2.1) (fun i x σ H2 hi h => ?_) (fun σ H2 h => ?_)⟩
      · obtain ⟨s2, el, c, rfl⟩ := h
        obtain ⟨wd, rfl⟩ : ∃ wd : Wd, x = .str wd.s := by
          have hx := List.mem_of_getElem? hi
          unfold wordsV10 at hx
          simp only [List.mem_cons, List.not_mem_nil, or_false] at hx
          rcases hx with rfl | rfl | rfl | rfl | rfl | rfl | rfl | rfl | rfl | rfl
          · exact ⟨.add, rfl⟩
          · exact ⟨.sub, rfl⟩
          · exact ⟨.mul, rfl⟩
          · exact ⟨.floor, rfl⟩
          · exact ⟨.mod, rfl⟩
          · exact ⟨.band, rfl⟩
          · exact ⟨.bor, rfl⟩
          · exact ⟨.bxor, rfl⟩
          · exact ⟨.shl, rfl⟩
          · exact ⟨.shr, rfl⟩
        one_place
        refine ⟨s2.w, fun H3 s3 => ?_⟩
        one_place
        exact ⟨s2.trans s3, s3.k _ _ nlp el, _, rfl⟩
      · obtain ⟨s2, el, c, rfl⟩ := h
        one_place
        refine ⟨s2.w, fun H3 s3 => ?_⟩
        one_place
        obtain ⟨k1, k2⟩ := keep _ (s2.trans s3)
        exact ⟨k1, k2, _, _, rfl⟩
    · obtain ⟨_, _, b, c, rfl⟩ := h
      dsimp only
      one_place
      refine ⟨.floor, -1, -9223372036854775808, rfl, by decide, by decide, fun v1 H1 s1 t1 => ?_⟩
      rw [known1] at t1
      obtain ⟨p1, rfl, e1⟩ := t1
      one_place
      refine ⟨.mod, 0, 0, rfl, by decide, by decide, fun v2 H2 s2 t2 => ?_⟩
      rw [known2] at t2
      cases t2
      one_place
      refine ⟨.mul, 0, 0, rfl, by decide, by decide, fun v3 H3 s3 t3 => ?_⟩
      rw [known3] at t3
      obtain ⟨p3, rfl, e3⟩ := t3
      one_place
      refine ⟨.mul, 2, 3, rfl, by decide, by decide, fun v4 H4 s4 t4 => ?_⟩
      rw [known4] at t4
      cases t4
      have e1 := s4 _ _ (s3 _ _ (s2 _ _ e1))
      have e3 := s4 _ _ e3
      one_place
      intro k nk
      have ek : (upd H4 k (.lst [.ref p1, .non, .ref p3, .non])) k = some (.lst [.ref p1, .non, .ref p3, .non]) := upd_same
      have s5 := same_new (o := .lst [.ref p1, .non, .ref p3, .non]) nk
      have e1 := s5 _ _ e1
      have e3 := s5 _ _ e3
      generalize upd H4 k (.lst [.ref p1, .non, .ref p3, .non]) = H5 at *
      one_place
      intro T1 n1
      have s6 := same_new (o := .tup [.str "row", .int (-9223372036854775808), .int 1, .int 1]) n1
      have f1 : (upd H5 T1 (.tup [.str "row", .int (-9223372036854775808), .int 1, .int 1])) T1 = some (.tup [.str "row", .int (-9223372036854775808), .int 1, .int 1]) := upd_same
      have ek := s6 _ _ ek
      have e1 := s6 _ _ e1
      have e3 := s6 _ _ e3
      generalize upd H5 T1 (.tup [.str "row", .int (-9223372036854775808), .int 1, .int 1]) = H6 at *
      one_place
      intro T2 n2
      have s7 := same_new (o := .tup [.str "bits", .int 0, .int (-1)]) n2
      have f2 : (upd H6 T2 (.tup [.str "bits", .int 0, .int (-1)])) T2 = some (.tup [.str "bits", .int 0, .int (-1)]) := upd_same
      have f1 := s7 _ _ f1
      have ek := s7 _ _ ek
      have e1 := s7 _ _ e1
      have e3 := s7 _ _ e3
      generalize upd H6 T2 (.tup [.str "bits", .int 0, .int (-1)]) = H7 at *
      one_place
      intro l n
      have s8 := same_new (o := .lst [.ref T1, .non, .ref T2, .non]) n
      refine ⟨.list [.tuple [.str "row", .int (-9223372036854775808), .int 1, .int 1], .none, .tuple [.str "bits", .int 0, .int (-1)], .none], .list [.tuple [.str "row", .int (-9223372036854775808), .int 1, .int 1], .none, .tuple [.str "bits", .int 0, .int (-1)], .none],
        .lst (SqL.of (s8 _ _ ek)) (.cons (.tup (SqT.of (s8 _ _ e1)) (.cons (.str _) (.cons (.int _) (.cons (.int _) (.cons (.int _) .nil))))) (.cons .non (.cons (.tup (SqT.of (s8 _ _ e3)) (.cons (.str _) (.cons (.int _) (.cons (.int _) .nil)))) (.cons .non .nil)))),
        .lst (SqL.of upd_same) (.cons (.tup (SqT.of (s8 _ _ f1)) (.cons (.str _) (.cons (.int _) (.cons (.int _) (.cons (.int _) .nil))))) (.cons .non (.cons (.tup (SqT.of (s8 _ _ f2)) (.cons (.str _) (.cons (.int _) (.cons (.int _) .nil)))) (.cons .non .nil)))), by decide +kernel, by decide +kernel, ?_⟩
      exact q_of (q _) (congrArg V.bl (by decide +kernel))
end
end K94

set_option Elab.async false
set_option linter.all false
set_option maxRecDepth 100000
set_option maxHeartbeats 4000000
namespace K94
open PySem PySem.Spec PyProof.Rows L2
theorem facts {P : Program} {w : World} {K : PySem.W.Frag} {h : Heap} {mg : Str → Option Value} {f : Addr} (X : K.In h) (G : h.Ns mainGlobals mg) (hfa : mg ("law" : Str) = some (.ref f)) (c : He.SaysD fa fn K) (e : ex K = true) :
    ∃ fd : FuncData, (∀ (s : Shared) (v : Value), BindsTo s fd ⟨[v], []⟩ [("script", v)]) ∧ ∀ base : Heap, K.In base → base.Ns mainGlobals mg → FnOk P w K mg base C8.CX0 7 f fd ["script"] (sp_law K) := by
  have T : Tx K mg := ⟨⟨h, X, G⟩, c, e⟩
  obtain ⟨fd, F⟩ := f_law T
  cases hfa.symm.trans (g_law T)
  have b := FunD.bindsA (ps := ["script"]) F fun _ _ _ _ _ _ us hl => match us, hl with | [_], _ => rfl
  exact ⟨fd, fun s v => b s [v] rfl, fun base _ _ => ok_law T F⟩
end K94
open PySem PySem.W PySem.Calls PyProof.Rows
set_option maxHeartbeats 0 in
theorem PySem.Challenge.cw_walkmade_k94_whole_equations_of_integers_holds : PySem.Challenge.rw_walkmade_k94_whole_equations_of_integers.Holds := by
  w_on; o_law
  refine HandSHeadRun.head_any (r := OpenLaw.row PySem.Challenge.rw_walkmade_k94_whole_equations_of_integers) (q := view (OpenLaw.row PySem.Challenge.rw_walkmade_k94_whole_equations_of_integers).prog [70]) (H := K94.hk) (ob := K94.ob) (M := 4000) (loose := K94.names) (d := HandSHeadRun.topDef (OpenLaw.row PySem.Challenge.rw_walkmade_k94_whole_equations_of_integers).prog 70) (kwd := []) K94.ob_eq
    (by kernel_rfl) (fun s => by kernel_rfl) K94.run (by kernel_rfl) (by kernel_rfl) (by kernel_rfl) (by rfl) (by first | assumption | decide +kernel) (by decide +kernel) ⟨rfl, rfl, rfl, rfl, rfl, by decide +kernel⟩ ?hw ?hc
  case hw => w_witness2
  case hc =>
    refine L2.walk_ofE (l := PySem.Challenge.rw_walkmade_k94_whole_equations_of_integers) (n := 63) (k := 7) (x := "script") (CX := C8.CX0) rfl (by decide) (by kernel_rfl) ⟨rfl, by decide, by decide⟩ ?F (fun _ _ _ _ z => z)
    intro w mg fa h Y G hmg0
    obtain ⟨K, KX, c⟩ := Y
    have hmg : mg ("law" : PySem.Str) = some (.ref fa) := by
      have e : (HandSHeadRun.topDef (OpenLaw.row PySem.Challenge.rw_walkmade_k94_whole_equations_of_integers).prog 70).name = ("law" : PySem.Str) := by kernel_rfl
      rw [← e]
      exact hmg0
    obtain ⟨fd, hb, hF⟩ := K94.facts (P := (PySem.Challenge.rw_walkmade_k94_whole_equations_of_integers).prog) (w := w) KX G hmg c.t.d c.more
    exact ⟨K, fd, K94.sp_law K, KX, hb, fun H a ns hl _ hS => ⟨a, ns, rfl, hS, hl, fun _ => rfl⟩, hF⟩

