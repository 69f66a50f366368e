import PyProof.Rows.All
import Wide.All
import OpenK.AllK
import Wide.FinOn
import HandS.ForMost
import HandS.Wide
import HandS.Strs
import HandS.SetFor
import HandS.Conv
import HandS.TupAny
import HandS.TupMul
import HandS.Zip
import HandS.Codes
import HandS.SortInts
import HandS.DictTup
import HandS.IsInst
import HandS.SortRule
import PyProof.DictMoreH
import KE.GoesEnum
import KE.GoesMore
import KE.GoesZip
import HandS.TupLe
import KE.OsSort
import PyProof.TupleOfSeq
import HandS.Defaults
import HandS.HeadHook2
import HandS.HeadEnd
import HandS.HeadHook1
import PySem.Challenge.RW_sumorder_k76_whole_long_histories
import KE.KStateDown
import Lean
import HandS.Head0
import HandS.Head1
import HandS.Head2
import HandS.ReCall
import HandS.TupSets
set_option Elab.async false
set_option linter.all false
set_option maxRecDepth 100000
set_option maxHeartbeats 4000000
/-! So01: what an expression, a test, a statement reaches, as one proposition each (EW, TW, SW), and pure evaluation to data (Ev). -/
namespace SO
open PySem PySem.Spec PyProof.Rows L2
abbrev D0 := PyData
/-! ### data -/
mutual
theorem dp_mono {K : PySem.W.Frag} {H H' : Hp} (e : Same H H') : ∀ {v : V} {d : D0}, Dp K H v d → Dp K H' v d
  | _, .none, h => by cases h; exact .non
  | _, .bool b, h => by cases h; exact .bl b
  | _, .int b, h => by cases h; exact .int b
  | _, .str b, h => by cases h; exact .str b
  | _, .list ds, h => by
    cases h with
    | lst h1 h2 => exact .lst (e.seq h1) (dpa_mono e h2)
  | _, .tuple ds, h => by
    cases h with
    | tup h1 h2 => exact .tup (by
        rcases h1 with (h | ⟨o, h⟩) | h
        · exact .inl (.inl (e _ _ h))
        · exact .inl (.inr ⟨o, e _ _ h⟩)
        · exact .inr h) (dpa_mono e h2)
  | _, .dict ds, h => by cases h
theorem dpa_mono {K : PySem.W.Frag} {H H' : Hp} (e : Same H H') : ∀ {vs : List V} {ds : List D0}, DpAll K H vs ds → DpAll K H' vs ds
  | _, [], h => by cases h; exact .nil
  | _, d :: ds, h => by
    cases h with
    | cons h1 h2 => exact .cons (dp_mono e h1) (dpa_mono e h2)
end
/-- all tuples are kept -/
def Tp (H H' : Hp) : Prop := ∀ b xs, Rd H b (.tup xs) → Rd H' b (.tup xs)
theorem Tp.refl (H : Hp) : Tp H H := fun _ _ h => h
theorem Tp.trans {H H1 H2 : Hp} (a : Tp H H1) (b : Tp H1 H2) : Tp H H2 := fun c o h => b c o (a c o h)
theorem tp_same {H H' : Hp} (e : Same H H') : Tp H H' := fun b xs h => by
  rcases h with h | ⟨o, h⟩
  · exact .inl (e _ _ h)
  · exact .inr ⟨o, e _ _ h⟩
mutual
def tupOnly : D0 → Bool
  | .list _ => false
  | .dict _ => false
  | .tuple ds => tupOnlyL ds
  | _ => true
def tupOnlyL : List D0 → Bool
  | [] => true
  | d :: ds => tupOnly d && tupOnlyL ds
end
theorem tupOnlyL_iff : ∀ {ds : List D0}, tupOnlyL ds = true ↔ ∀ d ∈ ds, tupOnly d = true
  | [] => by simp [tupOnlyL]
  | d :: ds => by rw [tupOnlyL, Bool.and_eq_true, tupOnlyL_iff]; simp
mutual
theorem dp_tp {K : PySem.W.Frag} {H H' : Hp} (e : Tp H H') : ∀ {v : V} {d : D0}, tupOnly d = true → Dp K H v d → Dp K H' v d
  | _, .none, _, h => by cases h; exact .non
  | _, .bool b, _, h => by cases h; exact .bl b
  | _, .int b, _, h => by cases h; exact .int b
  | _, .str b, _, h => by cases h; exact .str b
  | _, .list ds, t, h => by rw [tupOnly] at t; cases t
  | _, .tuple ds, t, h => by
    cases h with
    | tup h1 h2 => exact .tup (by
        rcases h1 with h | h
        · exact .inl (e _ _ h)
        · exact .inr h) (dpa_tp e (by rw [tupOnly] at t; exact t) h2)
  | _, .dict ds, _, h => by cases h
theorem dpa_tp {K : PySem.W.Frag} {H H' : Hp} (e : Tp H H') : ∀ {vs : List V} {ds : List D0}, tupOnlyL ds = true → DpAll K H vs ds → DpAll K H' vs ds
  | _, [], _, h => by cases h; exact .nil
  | _, d :: ds, t, h => by
    rw [tupOnlyL, Bool.and_eq_true] at t
    cases h with
    | cons h1 h2 => exact .cons (dp_tp e t.1 h1) (dpa_tp e t.2 h2)
end
section
variable {K : PySem.W.Frag} {H H' : Hp} {v : V} {vs : List V} {d : D0} {ds : List D0}
theorem dpa_len : ∀ {vs : List V} {ds : List D0}, DpAll K H vs ds → vs.length = ds.length
  | _, _, .nil => rfl
  | _, _, .cons _ t => by rw [List.length_cons, List.length_cons, dpa_len t]
theorem dpa_get : ∀ {vs : List V} {ds : List D0} {i : Nat} {d : D0}, DpAll K H vs ds → ds[i]? = some d → ∃ v, vs[i]? = some v ∧ Dp K H v d
  | _, _, _, _, .nil, e => by simp at e
  | _, _, 0, _, .cons h t, e => by simp at e; subst e; exact ⟨_, rfl, h⟩
  | _, _, i + 1, _, .cons h t, e => by simpa using dpa_get (i := i) t (by simpa using e)
theorem dpa_getv : ∀ {vs : List V} {ds : List D0} {i : Nat} {v : V}, DpAll K H vs ds → vs[i]? = some v → ∃ d, ds[i]? = some d ∧ Dp K H v d
  | _, _, _, _, .nil, e => by simp at e
  | _, _, 0, _, .cons h t, e => by simp at e; subst e; exact ⟨_, rfl, h⟩
  | _, _, i + 1, _, .cons h t, e => by simpa using dpa_getv (i := i) t (by simpa using e)
theorem dpa_app : ∀ {vs ws : List V} {ds es : List D0}, DpAll K H vs ds → DpAll K H ws es → DpAll K H (vs ++ ws) (ds ++ es)
  | _, _, _, _, .nil, h => h
  | _, _, _, _, .cons a t, h => .cons a (dpa_app t h)
theorem dpa_set {x : V} {d : D0} (r : Dp K H x d) : ∀ {vs : List V} {ds : List D0} (i : Nat), DpAll K H vs ds → DpAll K H (vs.set i x) (ds.set i d)
  | _, _, _, .nil => .nil
  | _, _, 0, .cons _ t => .cons r t
  | _, _, i + 1, .cons q t => .cons q (dpa_set r i t)
theorem dpa_drop : ∀ {vs : List V} {ds : List D0} (n : Nat), DpAll K H vs ds → DpAll K H (vs.drop n) (ds.drop n)
  | _, _, 0, h => h
  | _, _, _ + 1, .nil => .nil
  | _, _, n + 1, .cons _ t => dpa_drop n t
theorem dpa_take : ∀ {vs : List V} {ds : List D0} (n : Nat), DpAll K H vs ds → DpAll K H (vs.take n) (ds.take n)
  | _, _, 0, h => .nil
  | _, _, _ + 1, .nil => .nil
  | _, _, n + 1, .cons a t => .cons a (dpa_take n t)
theorem dpa_eraseIdx : ∀ {vs : List V} {ds : List D0} (n : Nat), DpAll K H vs ds → DpAll K H (vs.eraseIdx n) (ds.eraseIdx n)
  | _, _, _, .nil => by simp; exact .nil
  | _, _, 0, .cons _ t => by simpa using t
  | _, _, n + 1, .cons a t => by simpa using DpAll.cons a (dpa_eraseIdx n t)
theorem dpa_dropLast : ∀ {vs : List V} {ds : List D0}, DpAll K H vs ds → DpAll K H vs.dropLast ds.dropLast
  | vs, ds, h => by
    rw [List.dropLast_eq_take, List.dropLast_eq_take, dpa_len h]
    exact dpa_take _ h
theorem dp_int {i : Int} (h : Dp K H v (.int i)) : v = .int i := by cases h; rfl
theorem dp_bool {i : Bool} (h : Dp K H v (.bool i)) : v = .bl i := by cases h; rfl
theorem dp_str {i : Str} (h : Dp K H v (.str i)) : v = .str i := by cases h; rfl
theorem dp_non (h : Dp K H v .none) : v = .non := by cases h; rfl
theorem dp_tup (h : Dp K H v (.tuple ds)) : ∃ a xs, v = .ref a ∧ SqT K H a xs ∧ DpAll K H xs ds := by
  cases h with
  | tup h1 h2 => exact ⟨_, _, rfl, h1, h2⟩
theorem dp_lst (h : Dp K H v (.list ds)) : ∃ a xs, v = .ref a ∧ SqL K H a xs ∧ DpAll K H xs ds := by
  cases h with
  | lst h1 h2 => exact ⟨_, _, rfl, h1, h2⟩
theorem dpa_ints : ∀ {vs : List V} {ns : List Int}, DpAll K H vs (ns.map PyData.int) → vs = ns.map V.int
  | _, [], h => by cases h; rfl
  | _, n :: ns, h => by
    cases h with
    | cons h1 h2 => rw [dp_int h1, dpa_ints h2]; rfl
theorem dpa_of_ints : ∀ {ns : List Int}, DpAll K H (ns.map V.int) (ns.map PyData.int)
  | [] => .nil
  | n :: ns => .cons (.int n) dpa_of_ints
theorem dpa_bools : ∀ {vs : List V} {ns : List Bool}, DpAll K H vs (ns.map PyData.bool) → vs = ns.map V.bl
  | _, [], h => by cases h; rfl
  | _, n :: ns, h => by
    cases h with
    | cons h1 h2 => rw [dp_bool h1, dpa_bools h2]; rfl
theorem dpa_of_bools : ∀ {ns : List Bool}, DpAll K H (ns.map V.bl) (ns.map PyData.bool)
  | [] => .nil
  | n :: ns => .cons (.bl n) dpa_of_bools
end
/-- a natural number -/
abbrev pn (n : Nat) : D0 := .int (n : Int)
def zs (ns : List Nat) : List Int := ns.map fun (n : Nat) => (n : Int)
def pns (ns : List Nat) : D0 := .tuple (ns.map pn)
def pis (ns : List Int) : D0 := .tuple (ns.map PyData.int)
abbrev Part := List Nat × List Int
def pp (p : Part) : D0 := .tuple [pns p.1, pis p.2]
theorem map_pn (ns : List Nat) : ns.map pn = (zs ns).map PyData.int := by unfold zs; rw [List.map_map]; rfl
theorem tup_ints {ns : List Int} : tupOnlyL (ns.map PyData.int) = true := tupOnlyL_iff.mpr fun d hd => by
  obtain ⟨n, _, rfl⟩ := List.mem_map.mp hd
  rfl
theorem tup_pns {ns : List Nat} : tupOnly (pns ns) = true := by
  unfold pns
  rw [tupOnly, map_pn]
  exact tup_ints
theorem tup_pis {ns : List Int} : tupOnly (pis ns) = true := by
  unfold pis
  rw [tupOnly]
  exact tup_ints
theorem tup_pp {p : Part} : tupOnly (pp p) = true := by
  unfold pp
  simp only [tupOnly, tupOnlyL, tup_pns, tup_pis, Bool.and_true]
/-! ### wp forms -/
def EW (X : Cx) (e : Expr) (σ : L2.St) (H : Hp) (Q : VK) : Prop := ∀ (pins : List (Addr × Obj)) (s : Shared), Inv X pins σ H s → wpAny (model X.prog X.w) X.A (eval e X.env) (EP X pins σ Q) X.xe s
def TW (X : Cx) (e : Expr) (σ : L2.St) (H : Hp) (Q : Bool → Hp → Prop) : Prop := ∀ (pins : List (Addr × Obj)) (s : Shared), Inv X pins σ H s → wpAny (model X.prog X.w) X.A (isTrue e X.env (eval e X.env)) (TP X pins σ Q) X.xe s
def WW (X : Cx) (e : Expr) (σ : L2.St) (H : Hp) (Q : Bool → Hp → Prop) : Prop := ∀ (whole : Sem Value) (pins : List (Addr × Obj)) (s : Shared), Inv X pins σ H s → wpAny (model X.prog X.w) X.A (isTrue e X.env whole) (TP X pins σ Q) X.xe s
def AW (X : Cx) (es : List Expr) (σ : L2.St) (H : Hp) (Q : List V → Hp → Prop) : Prop := ∀ (pos : Pos) (pins : List (Addr × Obj)) (s : Shared), Inv X pins σ H s → wpAny (model X.prog X.w) X.A (spliced (backTo pos (starEach es X.env))) (AP X pins σ Q) X.xe s
def SW (X : Cx) (st : Stmt) (D : Ends) (σ : L2.St) (H : Hp) : Prop := ∀ (pins : List (Addr × Obj)) (s : Shared), Inv X pins σ H s → wpAny (model X.prog X.w) X.A (exec st X.env) (SP X pins D) X.xe s
def BW (X : Cx) (st : List Stmt) (D : Ends) (σ : L2.St) (H : Hp) : Prop := ∀ (pins : List (Addr × Obj)) (s : Shared), Inv X pins σ H s → wpAny (model X.prog X.w) X.A (execs st X.env) (SP X pins D) X.xe s
section
variable {X : Cx} {e a b : Expr} {es : List Expr} {σ : L2.St} {H H1 H2 : Hp} {st : Stmt} {sts : List Stmt} {pos p : Pos}
theorem pe_ew : PE X e (EW X e) := ⟨fun pins s σ H Q I h => h pins s I⟩
theorem pt_tw : PT X e (TW X e) := ⟨fun pins s σ H Q I h => h pins s I⟩
theorem pw_ww : PW X e (WW X e) := ⟨fun w pins s σ H Q I h => h w pins s I⟩
theorem pa_aw : PA X es (AW X es) := ⟨fun pos pins s σ H Q I h => h pos pins s I⟩
theorem ps_sw : PS X st (SW X st) := ⟨fun pins s σ H D I h => h pins s I⟩
theorem pss_bw : PSs X sts (BW X sts) := ⟨fun pins s σ H D I h => h pins s I⟩
theorem ew_pe {t : TE} (h : PE X e t) {Q : VK} (q : t σ H Q) : EW X e σ H Q := fun pins s I => h.run pins s σ H Q I q
theorem tw_pt {t : TT} (h : PT X e t) {Q : Bool → Hp → Prop} (q : t σ H Q) : TW X e σ H Q := fun pins s I => h.run pins s σ H Q I q
theorem ww_pw {t : TT} (h : PW X e t) {Q : Bool → Hp → Prop} (q : t σ H Q) : WW X e σ H Q := fun w pins s I => h.run w pins s σ H Q I q
theorem aw_pa {t : TA} (h : PA X es t) {Q : List V → Hp → Prop} (q : t σ H Q) : AW X es σ H Q := fun pos pins s I => h.run pos pins s σ H Q I q
theorem sw_ps {t : TS} {D : Ends} (h : PS X st t) (q : t D σ H) : SW X st D σ H := fun pins s I => h.run pins s σ H D I q
theorem bw_pss {t : TS} {D : Ends} (h : PSs X sts t) (q : t D σ H) : BW X sts D σ H := fun pins s I => h.run pins s σ H D I q
theorem EW.mono {Q Q' : VK} (h : EW X e σ H Q) (k : ∀ v H', Q v H' → Q' v H') : EW X e σ H Q' := fun pins s I => thn (h pins s I) fun u s' ⟨v, H', I', r, q⟩ => ⟨v, H', I', r, k v H' q⟩
theorem TW.mono {Q Q' : Bool → Hp → Prop} (h : TW X e σ H Q) (k : ∀ v H', Q v H' → Q' v H') : TW X e σ H Q' := fun pins s I => thn (h pins s I) fun u s' ⟨H', I', q⟩ => ⟨H', I', k u H' q⟩
theorem WW.mono {Q Q' : Bool → Hp → Prop} (h : WW X e σ H Q) (k : ∀ v H', Q v H' → Q' v H') : WW X e σ H Q' := fun w pins s I => thn (h w pins s I) fun u s' ⟨H', I', q⟩ => ⟨H', I', k u H' q⟩
theorem AW.mono {Q Q' : List V → Hp → Prop} (h : AW X es σ H Q) (k : ∀ v H', Q v H' → Q' v H') : AW X es σ H Q' := fun pos pins s I => thn (h pos pins s I) fun u s' ⟨v, H', I', r, q⟩ => ⟨v, H', I', r, k v H' q⟩
theorem bw_nil {D : Ends} (q : D.nx σ H) : BW X [] D σ H := bw_pss pss_nil q
theorem bw_cons {D : Ends} (q : SW X st { D with nx := fun σ' H' => BW X sts D σ' H' } σ H) : BW X (st :: sts) D σ H := bw_pss (pss_cons ps_sw pss_bw) q
/-! ### evaluation to data, nothing known changed -/
def Ev (X : Cx) (e : Expr) (σ : L2.St) (H : Hp) (d : D0) : Prop := ∀ H1, Same H H1 → EW X e σ H1 fun v H2 => Same H1 H2 ∧ Dp X.K H2 v d
def EvA (X : Cx) (es : List Expr) (σ : L2.St) (H : Hp) (ds : List D0) : Prop := ∀ H1, Same H H1 → AW X es σ H1 fun vs H2 => Same H1 H2 ∧ DpAll X.K H2 vs ds
def Tv (X : Cx) (e : Expr) (σ : L2.St) (H : Hp) (b : Bool) : Prop := ∀ H1, Same H H1 → TW X e σ H1 fun c H2 => Same H1 H2 ∧ c = b
def Wv (X : Cx) (e : Expr) (σ : L2.St) (H : Hp) (b : Bool) : Prop := ∀ H1, Same H H1 → WW X e σ H1 fun c H2 => Same H1 H2 ∧ c = b
/-- a list of data at p -/
def Ls (K : PySem.W.Frag) (H : Hp) (p : Addr) (ds : List D0) : Prop := ∃ xs, H p = some (.lst xs) ∧ DpAll K H xs ds
/-- a new list -/
def EvL (X : Cx) (e : Expr) (σ : L2.St) (H : Hp) (ds : List D0) : Prop := ∀ H1, Same H H1 → EW X e σ H1 fun v H2 => Same H1 H2 ∧ ∃ q, v = .ref q ∧ H1 q = none ∧ Ls X.K H2 q ds
variable {d d1 d2 : D0} {ds : List D0} {Q : VK}
theorem Ev.mono (h : Ev X e σ H d) (k : Same H H1) : Ev X e σ H1 d := fun H2 k2 => h H2 (k.trans k2)
theorem EvL.mono (h : EvL X e σ H ds) (k : Same H H1) : EvL X e σ H1 ds := fun H2 k2 => h H2 (k.trans k2)
theorem EvA.mono (h : EvA X es σ H ds) (k : Same H H1) : EvA X es σ H1 ds := fun H2 k2 => h H2 (k.trans k2)
theorem Tv.mono {b : Bool} (h : Tv X e σ H b) (k : Same H H1) : Tv X e σ H1 b := fun H2 k2 => h H2 (k.trans k2)
theorem Ev.to (h : Ev X e σ H d1) (k : d1 = d2) : Ev X e σ H d2 := k ▸ h
theorem EvL.to {es : List D0} (h : EvL X e σ H ds) (k : ds = es) : EvL X e σ H es := k ▸ h
theorem Tv.to {b c : Bool} (h : Tv X e σ H b) (k : b = c) : Tv X e σ H c := k ▸ h
theorem EvL.ev (h : EvL X e σ H ds) : Ev X e σ H (.list ds) := fun H1 k => (h H1 k).mono fun v H2 ⟨s, q, e, _, xs, h1, h2⟩ => ⟨s, by rw [e]; exact .lst (SqL.of h1) h2⟩
theorem Ev.go (h : Ev X e σ H d) (k : ∀ v H1, Same H H1 → Dp X.K H1 v d → Q v H1) : EW X e σ H Q := (h H (Same.refl H)).mono fun v H1 ⟨s, r⟩ => k v H1 s r
theorem EvL.go (h : EvL X e σ H ds) (k : ∀ q H1, H q = none → Same H H1 → Ls X.K H1 q ds → Q (.ref q) H1) : EW X e σ H Q := (h H (Same.refl H)).mono fun v H1 ⟨s, q, e, n, r⟩ => by rw [e]; exact k q H1 n s r
theorem EvA.go {Q : List V → Hp → Prop} (h : EvA X es σ H ds) (k : ∀ v H1, Same H H1 → DpAll X.K H1 v ds → Q v H1) : AW X es σ H Q := (h H (Same.refl H)).mono fun v H1 ⟨s, r⟩ => k v H1 s r
theorem Tv.go {b : Bool} {Q : Bool → Hp → Prop} (h : Tv X e σ H b) (k : ∀ H1, Same H H1 → Q b H1) : TW X e σ H Q := (h H (Same.refl H)).mono fun v H1 ⟨s, r⟩ => by rw [r]; exact k H1 s
/-! ### names, constants -/
theorem same_new {p : Addr} {o : HO} (h : H p = none) : Same H (upd H p o) := fun b x e => by
  rw [upd_ne (ne_of_none e h)]
  exact e
theorem ev_of (h : ∀ H1, Same H H1 → ∃ v H2, Same H1 H2 ∧ Dp X.K H2 v d ∧ ∀ Q : VK, Q v H2 → EW X e σ H1 Q) : Ev X e σ H d := fun H1 k => by
  obtain ⟨v, H2, s, r, q⟩ := h H1 k
  exact q _ ⟨s, r⟩
theorem ew_v (i : Nat) {x : Str} {v : V} (hs : σ[i]? = some (some v)) (q : Q v H) (hN : X.N[i]? = some x := by rfl) (hv : Vis X.env.scope x := by first | exact Or.inl rfl | exact Or.inr (Or.inl rfl) | exact Or.inr (Or.inr rfl)) (hd : (x == ("__debug__" : Str)) = false := by decide)
    (hcd : (x == ("__classdict__" : Str)) = false := by decide) : EW X (.Name x pos) σ H Q := ew_pe (pv i hN hv hd hcd) ⟨v, hs, q⟩
theorem ev_v (i : Nat) {x : Str} {v : V} (hs : σ[i]? = some (some v)) (r : Dp X.K H v d) (hN : X.N[i]? = some x := by rfl) (hv : Vis X.env.scope x := by first | exact Or.inl rfl | exact Or.inr (Or.inl rfl) | exact Or.inr (Or.inr rfl)) (hd : (x == ("__debug__" : Str)) = false := by decide)
    (hcd : (x == ("__classdict__" : Str)) = false := by decide) : Ev X (.Name x pos) σ H d := fun H1 k => ew_v i hs ⟨Same.refl _, dp_mono k r⟩ hN hv hd hcd
theorem ev_int {i : Int} {j} : Ev X (.Constant (.int i) j pos) σ H (.int i) := fun H1 k => ew_pe pe_int ⟨Same.refl _, .int i⟩
theorem ev_bl {i : Bool} {j} : Ev X (.Constant (.bool i) j pos) σ H (.bool i) := fun H1 k => ew_pe pe_bl ⟨Same.refl _, .bl i⟩
theorem ev_non {j} : Ev X (.Constant .none j pos) σ H .none := fun H1 k => ew_pe pe_non ⟨Same.refl _, .non⟩
theorem ev_str {x : Str} {j} : Ev X (.Constant (.str x) j pos) σ H (.str x) := fun H1 k => ew_pe pe_str ⟨Same.refl _, .str x⟩
theorem ev_glob {x : Str} {v : V} {u : Value} (hm : X.mg x = some u) (r : RelV v u) (q : Dp X.K H v d) (hg : Gl X x := by rfl) (hd : (x == ("__debug__" : Str)) = false := by decide) : Ev X (.Name x pos) σ H d := fun H1 k => ew_pe (pe_glob hg hm r hd) ⟨Same.refl _, dp_mono k q⟩
/-! ### operators -/
theorem ew_op {op : Operator} {r : R2} (ho : OpR X (binaryOp op) r) (h : EW X a σ H fun x H1 => EW X b σ H1 fun y H2 => r x y H2 Q) : EW X (.BinOp a op b pos) σ H Q := ew_pe (pe_op ho pe_ew pe_ew) h
theorem ew_cmp {op : CmpOp} {r : R2} (ho : OpR X (compareOp op) r) (h : EW X a σ H fun x H1 => EW X b σ H1 fun y H2 => r x y H2 Q) (hm : behindInMarks op b = false := by first | exact nomark _ | rfl) : EW X (.Compare a [op] [b] pos) σ H Q := ew_pe (pe_cmpR ho pe_ew pe_ew hm) h
theorem tw_cmp {op : CmpOp} {r : R2} {Q : Bool → Hp → Prop} (ho : OpR X (compareOp op) r) (h : EW X a σ H fun x H1 => EW X b σ H1 fun y H2 => r x y H2 fun z H3 => ∃ k, z = .bl k ∧ Q k H3) (hm : behindInMarks op b = false := by first | exact nomark _ | rfl) : TW X (.Compare a [op] [b] pos) σ H Q := tw_pt (pt_cmpR ho pe_ew pe_ew hm) h
/-- what a two-place rule gives of data -/
def RD (K : PySem.W.Frag) (r : R2) (H : Hp) (d1 d2 d : D0) : Prop := ∀ x y H1, Same H H1 → Dp K H1 x d1 → Dp K H1 y d2 → ∀ Q : VK, (∀ z H2, Same H1 H2 → Dp K H2 z d → Q z H2) → r x y H1 Q
theorem ev_op {op : Operator} {r : R2} (ho : OpR X (binaryOp op) r) (ha : Ev X a σ H d1) (hb : Ev X b σ H d2) (hr : RD X.K r H d1 d2 d) : Ev X (.BinOp a op b pos) σ H d := fun H1 k =>
  ew_op ho ((ha H1 k).mono fun x H2 ⟨k2, r1⟩ => (hb H2 (k.trans k2)).mono fun y H3 ⟨k3, r2⟩ => hr x y H3 ((k.trans k2).trans k3) (dp_mono k3 r1) r2 _ fun z H4 k4 r4 => ⟨(k2.trans k3).trans k4, r4⟩)
theorem ev_cmp {op : CmpOp} {r : R2} (ho : OpR X (compareOp op) r) (ha : Ev X a σ H d1) (hb : Ev X b σ H d2) (hr : RD X.K r H d1 d2 d) (hm : behindInMarks op b = false := by first | exact nomark _ | rfl) : Ev X (.Compare a [op] [b] pos) σ H d := fun H1 k =>
  ew_cmp ho ((ha H1 k).mono fun x H2 ⟨k2, r1⟩ => (hb H2 (k.trans k2)).mono fun y H3 ⟨k3, r2⟩ => hr x y H3 ((k.trans k2).trans k3) (dp_mono k3 r1) r2 _ fun z H4 k4 r4 => ⟨(k2.trans k3).trans k4, r4⟩) hm
theorem tv_cmp {op : CmpOp} {r : R2} {c : Bool} (ho : OpR X (compareOp op) r) (ha : Ev X a σ H d1) (hb : Ev X b σ H d2) (hr : RD X.K r H d1 d2 (.bool c)) (hm : behindInMarks op b = false := by first | exact nomark _ | rfl) : Tv X (.Compare a [op] [b] pos) σ H c := fun H1 k =>
  tw_cmp ho ((ha H1 k).mono fun x H2 ⟨k2, r1⟩ => (hb H2 (k.trans k2)).mono fun y H3 ⟨k3, r2⟩ => hr x y H3 ((k.trans k2).trans k3) (dp_mono k3 r1) r2 _ fun z H4 k4 r4 => ⟨c, dp_bool r4, (k2.trans k3).trans k4, rfl⟩) hm
variable {K : PySem.W.Frag} {i j : Int}
theorem rd_I0 {g : Int → Int → V} (h : Dp K H (g i j) d) : RD K (rI0 g) H (.int i) (.int j) d := fun x y H1 k rx ry Q q => ⟨i, j, dp_int rx, dp_int ry, q _ H1 (Same.refl _) (dp_mono k h)⟩
theorem rd_I {C : Int → Int → Prop} {g : Int → Int → V} (hc : C i j) (h : Dp K H (g i j) d) : RD K (rI C g) H (.int i) (.int j) d := fun x y H1 k rx ry Q q => ⟨i, j, dp_int rx, dp_int ry, hc, q _ H1 (Same.refl _) (dp_mono k h)⟩
theorem ev_add (ha : Ev X a σ H (.int i)) (hb : Ev X b σ H (.int j)) : Ev X (.BinOp a .Add b pos) σ H (.int (i + j)) := ev_op op_add ha hb (rd_I0 (.int _))
theorem ev_sub (ha : Ev X a σ H (.int i)) (hb : Ev X b σ H (.int j)) : Ev X (.BinOp a .Sub b pos) σ H (.int (i - j)) := ev_op op_sub ha hb (rd_I0 (.int _))
theorem ev_mul (ha : Ev X a σ H (.int i)) (hb : Ev X b σ H (.int j)) (hc : CMulW i j) : Ev X (.BinOp a .Mult b pos) σ H (.int (i * j)) := ev_op op_mulW ha hb (rd_I hc (.int _))
theorem ev_mod (ha : Ev X a σ H (.int i)) (hb : Ev X b σ H (.int j)) (hc : 0 < j) : Ev X (.BinOp a .Mod b pos) σ H (.int (i % j)) := ev_op op_mod ha hb (rd_I hc (.int _))
theorem ev_div (ha : Ev X a σ H (.int i)) (hb : Ev X b σ H (.int j)) (hc : CDivW i j) : Ev X (.BinOp a .FloorDiv b pos) σ H (.int (i / j)) := ev_op op_fdivW ha hb (rd_I hc (.int _))
theorem ev_pow (ha : Ev X a σ H (.int i)) (hb : Ev X b σ H (.int j)) (hc : CPow i j) : Ev X (.BinOp a .Pow b pos) σ H (.int (i ^ j.toNat)) := ev_op op_pow ha hb (rd_I hc (.int _))
theorem tv_lt (ha : Ev X a σ H (.int i)) (hb : Ev X b σ H (.int j)) : Tv X (.Compare a [.Lt] [b] pos) σ H (decide (i < j)) := tv_cmp op_lt ha hb (rd_I0 (.bl _))
theorem tv_le (ha : Ev X a σ H (.int i)) (hb : Ev X b σ H (.int j)) : Tv X (.Compare a [.LtE] [b] pos) σ H (decide (i ≤ j)) := tv_cmp op_le ha hb (rd_I0 (.bl _))
theorem tv_gt (ha : Ev X a σ H (.int i)) (hb : Ev X b σ H (.int j)) : Tv X (.Compare a [.Gt] [b] pos) σ H (decide (j < i)) := tv_cmp op_gt ha hb (rd_I0 (.bl _))
theorem tv_ge (ha : Ev X a σ H (.int i)) (hb : Ev X b σ H (.int j)) : Tv X (.Compare a [.GtE] [b] pos) σ H (decide (j ≤ i)) := tv_cmp op_ge ha hb (rd_I0 (.bl _))
theorem rd_eqI : RD K rEq H (.int i) (.int j) (.bool (decide (i = j))) := fun x y H1 k rx ry Q q => by
  rw [dp_int rx, dp_int ry]
  refine ⟨rfl, ?_⟩
  have e : decide (V.int i = V.int j) = decide (i = j) := by
    by_cases h : i = j
    · simp [h]
    · simp [h]
  rw [e]
  exact q _ H1 (Same.refl _) (.bl _)
theorem rd_neI : RD K rNe H (.int i) (.int j) (.bool (!decide (i = j))) := fun x y H1 k rx ry Q q => by
  rw [dp_int rx, dp_int ry]
  refine ⟨rfl, ?_⟩
  have e : decide (V.int i = V.int j) = decide (i = j) := by
    by_cases h : i = j
    · simp [h]
    · simp [h]
  rw [e]
  exact q _ H1 (Same.refl _) (.bl _)
theorem rd_eqS {z w : Str} : RD K rEq H (.str z) (.str w) (.bool (decide (z = w))) := fun x y H1 k rx ry Q q => by
  rw [dp_str rx, dp_str ry]
  refine ⟨rfl, ?_⟩
  have e : decide (V.str z = V.str w) = decide (z = w) := by
    by_cases h : z = w
    · simp [h]
    · simp [h]
  rw [e]
  exact q _ H1 (Same.refl _) (.bl _)
theorem tv_eqI (ha : Ev X a σ H (.int i)) (hb : Ev X b σ H (.int j)) : Tv X (.Compare a [.Eq] [b] pos) σ H (decide (i = j)) := tv_cmp op_eq ha hb rd_eqI
theorem tv_neI (ha : Ev X a σ H (.int i)) (hb : Ev X b σ H (.int j)) : Tv X (.Compare a [.NotEq] [b] pos) σ H (!decide (i = j)) := tv_cmp op_ne ha hb rd_neI
theorem ev_neI (ha : Ev X a σ H (.int i)) (hb : Ev X b σ H (.int j)) : Ev X (.Compare a [.NotEq] [b] pos) σ H (.bool (!decide (i = j))) := ev_cmp op_ne ha hb rd_neI
theorem ev_eqI (ha : Ev X a σ H (.int i)) (hb : Ev X b σ H (.int j)) : Ev X (.Compare a [.Eq] [b] pos) σ H (.bool (decide (i = j))) := ev_cmp op_eq ha hb rd_eqI
theorem ev_lt (ha : Ev X a σ H (.int i)) (hb : Ev X b σ H (.int j)) : Ev X (.Compare a [.Lt] [b] pos) σ H (.bool (decide (i < j))) := ev_cmp op_lt ha hb (rd_I0 (.bl _))
theorem tv_eqS {z w : Str} (ha : Ev X a σ H (.str z)) (hb : Ev X b σ H (.str w)) : Tv X (.Compare a [.Eq] [b] pos) σ H (decide (z = w)) := tv_cmp op_eq ha hb rd_eqS
/-- a < b < c of numbers -/
theorem ew_chain {op op' : CmpOp} {r r' : R2} {c : Expr} (ho : OpR X (compareOp op) r) (ho' : OpR X (compareOp op') r') (h : EW X a σ H fun x H1 => EW X b σ H1 fun y H2 => r x y H2 fun z H3 => ∃ k, z = .bl k ∧ (if k = true then EW X c σ H3 fun w' H4 => r' y w' H4 Q else Q (.bl false) H3)) (hm : lastMarks [op, op'] [b, c] = false := by rfl) :
    EW X (.Compare a [op, op'] [b, c] pos) σ H Q := ew_pe (pe_chain ho ho' pe_ew pe_ew pe_ew hm) h
end
end SO
set_option Elab.async false
set_option linter.all false
set_option maxRecDepth 100000
set_option maxHeartbeats 4000000
/-! So02: calls, subscripts, displays, tests joined, statements. -/
namespace SO
open PySem PySem.Spec PyProof.Rows L2
section
variable {X : Cx} {e a b c f o : Expr} {es : List Expr} {σ : L2.St} {H H1 H2 : Hp} {st : Stmt} {sts : List Stmt} {pos p apos : Pos} {d d1 d2 : D0} {ds : List D0} {Q : VK}
/-! ### arguments, displays -/
theorem aw_nil {Q : List V → Hp → Prop} (q : Q [] H) : AW X [] σ H Q := aw_pa pa_nil q
theorem aw_cons {Q : List V → Hp → Prop} (q : EW X e σ H fun x H1 => AW X es σ H1 fun xs H2 => Q (x :: xs) H2) (hs : starEach (e :: es) X.env = (false, eval e X.env) :: starEach es X.env := by rfl) : AW X (e :: es) σ H Q := aw_pa (pa_cons pe_ew pa_aw hs) q
theorem aw_one {Q : List V → Hp → Prop} (q : EW X e σ H fun x H1 => Q [x] H1) (hs : starEach [e] X.env = (false, eval e X.env) :: starEach [] X.env := by rfl) : AW X [e] σ H Q := aw_cons (q.mono fun _ _ h => aw_nil h) hs
theorem aw_two {Q : List V → Hp → Prop} (q : EW X a σ H fun x H1 => EW X b σ H1 fun y H2 => Q [x, y] H2) (hs : starEach [a, b] X.env = (false, eval a X.env) :: starEach [b] X.env := by rfl) (hs2 : starEach [b] X.env = (false, eval b X.env) :: starEach [] X.env := by rfl) : AW X [a, b] σ H Q := aw_cons (q.mono fun _ _ h => aw_one h hs2) hs
theorem eva_nil : EvA X [] σ H [] := fun H1 k => aw_nil ⟨Same.refl _, .nil⟩
theorem eva_cons (h1 : Ev X e σ H d) (h2 : EvA X es σ H ds) (hs : starEach (e :: es) X.env = (false, eval e X.env) :: starEach es X.env := by rfl) : EvA X (e :: es) σ H (d :: ds) := fun H1 k =>
  aw_cons ((h1 H1 k).mono fun x H2 ⟨k2, r⟩ => (h2 H2 (k.trans k2)).mono fun xs H3 ⟨k3, rs⟩ => ⟨k2.trans k3, .cons (dp_mono k3 r) rs⟩) hs
theorem eva1 (h1 : Ev X e σ H d) (hs1 : starEach [e] X.env = (false, eval e X.env) :: starEach [] X.env := by rfl) : EvA X [e] σ H [d] := eva_cons h1 eva_nil hs1
theorem eva2 (h1 : Ev X a σ H d1) (h2 : Ev X b σ H d2) (hs1 : starEach [b] X.env = (false, eval b X.env) :: starEach [] X.env := by rfl) (hs2 : starEach [a, b] X.env = (false, eval a X.env) :: starEach [b] X.env := by rfl) : EvA X [a, b] σ H [d1, d2] := eva_cons h1 (eva1 h2 hs1) hs2
theorem eva3 {d3 : D0} (h1 : Ev X a σ H d1) (h2 : Ev X b σ H d2) (h3 : Ev X c σ H d3) (hs1 : starEach [c] X.env = (false, eval c X.env) :: starEach [] X.env := by rfl) (hs2 : starEach [b, c] X.env = (false, eval b X.env) :: starEach [c] X.env := by rfl) (hs3 : starEach [a, b, c] X.env = (false, eval a X.env) :: starEach [b, c] X.env := by rfl) : EvA X [a, b, c] σ H [d1, d2, d3] := eva_cons h1 (eva2 h2 h3 hs1 hs2) hs3
theorem eva4 {d3 d4 : D0} (h1 : Ev X a σ H d1) (h2 : Ev X b σ H d2) (h3 : Ev X c σ H d3) (h4 : Ev X f σ H d4) (hs1 : starEach [f] X.env = (false, eval f X.env) :: starEach [] X.env := by rfl) (hs2 : starEach [c, f] X.env = (false, eval c X.env) :: starEach [f] X.env := by rfl) (hs3 : starEach [b, c, f] X.env = (false, eval b X.env) :: starEach [c, f] X.env := by rfl) (hs4 : starEach [a, b, c, f] X.env = (false, eval a X.env) :: starEach [b, c, f] X.env := by rfl) : EvA X [a, b, c, f] σ H [d1, d2, d3, d4] := eva_cons h1 (eva3 h2 h3 h4 hs1 hs2 hs3) hs4
theorem small {n : Nat} (h : n ≤ 100000) : n ≤ sizeLine := Nat.le_trans h (by decide)
theorem small' {n : Nat} (h : n ≤ 100000) : n < sizeLine := Nat.lt_of_le_of_lt h (by decide)
theorem ew_tup {kk : Nat} (h : AW X es σ H fun xs H1 => xs.length ≤ sizeLine ∧ ∀ p, H1 p = none → Q (.ref p) (upd H1 p (.tup xs))) : EW X (.Tuple es kk pos) σ H Q := ew_pe (pe_tup pa_aw) h
theorem ew_lst (h : AW X es σ H fun xs H1 => xs.length ≤ sizeLine ∧ ∀ p, H1 p = none → Q (.ref p) (upd H1 p (.lst xs))) : EW X (.List es pos) σ H Q := ew_pe (pe_lst pa_aw) h
theorem ev_tup {kk : Nat} (h : EvA X es σ H ds) (hl : ds.length ≤ 100000 := by first | decide | simp) : Ev X (.Tuple es kk pos) σ H (.tuple ds) := fun H1 k =>
  ew_tup ((h H1 k).mono fun xs H2 ⟨k2, r⟩ => ⟨by rw [dpa_len r]; exact small hl, fun p hp => ⟨k2.trans (same_new hp), .tup (SqT.of upd_same) (dpa_mono (same_new hp) r)⟩⟩)
theorem none_back (k : Same H H1) {q : Addr} (h : H1 q = none) : H q = none := k.free h
theorem evl_lst (h : EvA X es σ H ds) (hl : ds.length ≤ 100000 := by first | decide | simp) : EvL X (.List es pos) σ H ds := fun H1 k =>
  ew_lst ((h H1 k).mono fun xs H2 ⟨k2, r⟩ => ⟨by rw [dpa_len r]; exact small hl, fun p hp => ⟨k2.trans (same_new hp), p, rfl, none_back k2 hp, xs, upd_same, dpa_mono (same_new hp) r⟩⟩)
/-! ### subscripts -/
theorem ew_ix {r : R2} (hr : IxR X r) (h : EW X a σ H fun x H1 => EW X b σ H1 fun y H2 => r x y H2 Q) (hs : PlainIx b := by exact fun _ _ => rfl) : EW X (.Subscript a b pos) σ H Q := ew_pe (pe_ix hr pe_ew pe_ew hs) h
theorem atI_len {α β : Type} {xs : List α} {ys : List β} {i : Int} {y : β} (hl : xs.length = ys.length) (h : atI ys i = some y) : ∃ (j : Nat) (x : α), ys[j]? = some y ∧ xs[j]? = some x ∧ atI xs i = some x := by
  unfold atI at h ⊢
  rw [hl]
  cases e : ixN ys.length i with
  | none => rw [e] at h; cases h
  | some j =>
    rw [e] at h
    have h' : ys[j]? = some y := h
    have hj : j < xs.length := by rw [hl]; exact (List.getElem?_eq_some_iff.mp h').1
    exact ⟨j, xs[j], h', List.getElem?_eq_getElem hj, by simp [hj]⟩
theorem rd_ixT {K : PySem.W.Frag} {i : Int} (h : atI ds i = some d) : RD K (rIxT K) H (.tuple ds) (.int i) d := fun x y H1 k rx ry Q q => by
  obtain ⟨a, xs, rfl, h1, h2⟩ := dp_tup rx
  obtain ⟨j, z, e1, e2, e3⟩ := atI_len (dpa_len h2) h
  obtain ⟨z', e4, r⟩ := dpa_get h2 e1
  rw [e2] at e4
  cases e4
  exact ⟨a, xs, i, z, rfl, dp_int ry, h1, e3, q z H1 (Same.refl _) r⟩
theorem rd_ixL {K : PySem.W.Frag} {i : Int} (h : atI ds i = some d) : RD K (rIxL K) H (.list ds) (.int i) d := fun x y H1 k rx ry Q q => by
  obtain ⟨a, xs, rfl, h1, h2⟩ := dp_lst rx
  obtain ⟨j, z, e1, e2, e3⟩ := atI_len (dpa_len h2) h
  obtain ⟨z', e4, r⟩ := dpa_get h2 e1
  rw [e2] at e4
  cases e4
  exact ⟨a, xs, i, z, rfl, dp_int ry, h1, e3, q z H1 (Same.refl _) r⟩
theorem ev_ix {r : R2} (hr : IxR X r) (ha : Ev X a σ H d1) (hb : Ev X b σ H d2) (h : RD X.K r H d1 d2 d) (hs : PlainIx b := by exact fun _ _ => rfl) : Ev X (.Subscript a b pos) σ H d := fun H1 k =>
  ew_ix hr ((ha H1 k).mono fun x H2 ⟨k2, r1⟩ => (hb H2 (k.trans k2)).mono fun y H3 ⟨k3, r2⟩ => h x y H3 ((k.trans k2).trans k3) (dp_mono k3 r1) r2 _ fun z H4 k4 r4 => ⟨(k2.trans k3).trans k4, r4⟩) hs
theorem ev_ixT {i : Int} (ha : Ev X a σ H (.tuple ds)) (hb : Ev X b σ H (.int i)) (h : atI ds i = some d) (hs : PlainIx b := by exact fun _ _ => rfl) : Ev X (.Subscript a b pos) σ H d := ev_ix ix_tup ha hb (rd_ixT h) hs
theorem ev_ixL {i : Int} (ha : Ev X a σ H (.list ds)) (hb : Ev X b σ H (.int i)) (h : atI ds i = some d) (hs : PlainIx b := by exact fun _ _ => rfl) : Ev X (.Subscript a b pos) σ H d := ev_ix ix_list ha hb (rd_ixL h) hs
theorem at_nat {α : Type} {xs : List α} {n : Nat} {x : α} (h : xs[n]? = some x) : atI xs (n : Int) = some x := atI_nat h
theorem at_map {α β : Type} {xs : List α} {g : α → β} {n : Nat} {x : α} (h : xs[n]? = some x) : atI (xs.map g) (n : Int) = some (g x) := atI_nat (by rw [List.getElem?_map, h]; rfl)
/-! ### calls -/
theorem ew_callB {x : Str} {id : String} {r : List V → Hp → VK → Prop} (hc : CallR X (.builtin id) r) (hm : X.mg x = none) (hv : bootBuiltins x = some (.builtin id)) (h : AW X (e :: es) σ H fun vs H1 => r vs H1 Q) (hg : Gl X x := by rfl) (hn : x ≠ "__name__" := by decide) (hdb : (x == ("__debug__" : Str)) = false := by decide)
    (he : starEach (e :: es) X.env = (false, eval e X.env) :: starEach es X.env := by rfl) (hpl : (backTo pos (starEach es X.env)).any (·.1) = false := by rfl) : EW X (.Call (.Name x p) (e :: es) [] pos) σ H Q := ew_pe (pe_callB hc hg hm hv pa_aw hn hdb he hpl) h
theorem ew_callTy {x : Str} {T : String} {r : List V → Hp → VK → Prop} (hc : CallR X (.type T) r) (hm : X.mg x = none) (hv : bootBuiltins x = some (.type T)) (h : AW X (e :: es) σ H fun vs H1 => r vs H1 Q) (hg : Gl X x := by rfl) (hn : x ≠ "__name__" := by decide) (hdb : (x == ("__debug__" : Str)) = false := by decide)
    (he : starEach (e :: es) X.env = (false, eval e X.env) :: starEach es X.env := by rfl) (hpl : (backTo pos (starEach es X.env)).any (·.1) = false := by rfl) : EW X (.Call (.Name x p) (e :: es) [] pos) σ H Q := ew_pe (pe_callTy hc hg hm hv pa_aw hn hdb he hpl) h
/-- what a call's rule gives of data -/
def RC (K : PySem.W.Frag) (r : List V → Hp → VK → Prop) (H : Hp) (ds : List D0) (d : D0) : Prop := ∀ vs H1, Same H H1 → DpAll K H1 vs ds → ∀ Q : VK, (∀ z H2, Same H1 H2 → Dp K H2 z d → Q z H2) → r vs H1 Q
def RCL (K : PySem.W.Frag) (r : List V → Hp → VK → Prop) (H : Hp) (ds es : List D0) : Prop := ∀ vs H1, Same H H1 → DpAll K H1 vs ds → ∀ Q : VK, (∀ q H2, H1 q = none → Same H1 H2 → Ls K H2 q es → Q (.ref q) H2) → r vs H1 Q
theorem ev_callB {x : Str} {id : String} {r : List V → Hp → VK → Prop} (hc : CallR X (.builtin id) r) (hm : X.mg x = none) (hv : bootBuiltins x = some (.builtin id)) (h : EvA X (e :: es) σ H ds) (hr : RC X.K r H ds d) (hg : Gl X x := by rfl) (hn : x ≠ "__name__" := by decide) (hdb : (x == ("__debug__" : Str)) = false := by decide)
    (he : starEach (e :: es) X.env = (false, eval e X.env) :: starEach es X.env := by rfl) (hpl : (backTo pos (starEach es X.env)).any (·.1) = false := by rfl) : Ev X (.Call (.Name x p) (e :: es) [] pos) σ H d := fun H1 k =>
  ew_callB hc hm hv ((h H1 k).mono fun vs H2 ⟨k2, r2⟩ => hr vs H2 (k.trans k2) r2 _ fun z H3 k3 r3 => ⟨k2.trans k3, r3⟩) hg hn hdb he hpl
theorem ev_callTy {x : Str} {T : String} {r : List V → Hp → VK → Prop} (hc : CallR X (.type T) r) (hm : X.mg x = none) (hv : bootBuiltins x = some (.type T)) (h : EvA X (e :: es) σ H ds) (hr : RC X.K r H ds d) (hg : Gl X x := by rfl) (hn : x ≠ "__name__" := by decide) (hdb : (x == ("__debug__" : Str)) = false := by decide)
    (he : starEach (e :: es) X.env = (false, eval e X.env) :: starEach es X.env := by rfl) (hpl : (backTo pos (starEach es X.env)).any (·.1) = false := by rfl) : Ev X (.Call (.Name x p) (e :: es) [] pos) σ H d := fun H1 k =>
  ew_callTy hc hm hv ((h H1 k).mono fun vs H2 ⟨k2, r2⟩ => hr vs H2 (k.trans k2) r2 _ fun z H3 k3 r3 => ⟨k2.trans k3, r3⟩) hg hn hdb he hpl
theorem evl_callB {x : Str} {id : String} {ls : List D0} {r : List V → Hp → VK → Prop} (hc : CallR X (.builtin id) r) (hm : X.mg x = none) (hv : bootBuiltins x = some (.builtin id)) (h : EvA X (e :: es) σ H ds) (hr : RCL X.K r H ds ls) (hg : Gl X x := by rfl) (hn : x ≠ "__name__" := by decide) (hdb : (x == ("__debug__" : Str)) = false := by decide)
    (he : starEach (e :: es) X.env = (false, eval e X.env) :: starEach es X.env := by rfl) (hpl : (backTo pos (starEach es X.env)).any (·.1) = false := by rfl) : EvL X (.Call (.Name x p) (e :: es) [] pos) σ H ls := fun H1 k =>
  ew_callB hc hm hv ((h H1 k).mono fun vs H2 ⟨k2, r2⟩ => hr vs H2 (k.trans k2) r2 _ fun q H3 n3 k3 r3 => ⟨k2.trans k3, q, rfl, none_back k2 n3, r3⟩) hg hn hdb he hpl
theorem evl_callTy {x : Str} {T : String} {ls : List D0} {r : List V → Hp → VK → Prop} (hc : CallR X (.type T) r) (hm : X.mg x = none) (hv : bootBuiltins x = some (.type T)) (h : EvA X (e :: es) σ H ds) (hr : RCL X.K r H ds ls) (hg : Gl X x := by rfl) (hn : x ≠ "__name__" := by decide) (hdb : (x == ("__debug__" : Str)) = false := by decide)
    (he : starEach (e :: es) X.env = (false, eval e X.env) :: starEach es X.env := by rfl) (hpl : (backTo pos (starEach es X.env)).any (·.1) = false := by rfl) : EvL X (.Call (.Name x p) (e :: es) [] pos) σ H ls := fun H1 k =>
  ew_callTy hc hm hv ((h H1 k).mono fun vs H2 ⟨k2, r2⟩ => hr vs H2 (k.trans k2) r2 _ fun q H3 n3 k3 r3 => ⟨k2.trans k3, q, rfl, none_back k2 n3, r3⟩) hg hn hdb he hpl
theorem dpa1 {K : PySem.W.Frag} {vs : List V} (h : DpAll K H vs [d]) : ∃ v, vs = [v] ∧ Dp K H v d := by
  cases h with
  | cons a t => cases t; exact ⟨_, rfl, a⟩
theorem dpa2 {K : PySem.W.Frag} {vs : List V} (h : DpAll K H vs [d1, d2]) : ∃ v w, vs = [v, w] ∧ Dp K H v d1 ∧ Dp K H w d2 := by
  cases h with
  | cons a t =>
    obtain ⟨w, rfl, r⟩ := dpa1 t
    exact ⟨_, w, rfl, a, r⟩
theorem dpa3 {K : PySem.W.Frag} {vs : List V} {d3 : D0} (h : DpAll K H vs [d1, d2, d3]) : ∃ v w u, vs = [v, w, u] ∧ Dp K H v d1 ∧ Dp K H w d2 ∧ Dp K H u d3 := by
  cases h with
  | cons a t =>
    obtain ⟨w, u, rfl, r⟩ := dpa2 t
    exact ⟨_, w, u, rfl, a, r⟩
theorem dpa4 {K : PySem.W.Frag} {vs : List V} {d3 d4 : D0} (h : DpAll K H vs [d1, d2, d3, d4]) : ∃ v w u t, vs = [v, w, u, t] ∧ Dp K H v d1 ∧ Dp K H w d2 ∧ Dp K H u d3 ∧ Dp K H t d4 := by
  cases h with
  | cons a t =>
    obtain ⟨w, u, y, rfl, r⟩ := dpa3 t
    exact ⟨_, w, u, y, rfl, a, r⟩
theorem ev_lenT (hm : X.mg "len" = none) (h : Ev X e σ H (.tuple ds)) (hg : Gl X "len" := by rfl) (he : starEach [e] X.env = (false, eval e X.env) :: starEach [] X.env := by rfl) (hpl : (backTo pos (starEach [] X.env)).any (·.1) = false := by rfl) : Ev X (.Call (.Name "len" p) [e] [] pos) σ H (pn ds.length) :=
  ev_callB call_len_seq hm boot_len (eva1 h he) (fun vs H1 k r Q q => by
    obtain ⟨v, rfl, r1⟩ := dpa1 r
    obtain ⟨a, xs, rfl, h1, h2⟩ := dp_tup r1
    exact ⟨a, xs, rfl, .inr h1, q _ H1 (Same.refl _) (by rw [dpa_len h2]; exact .int _)⟩) hg (by decide) (by decide) he hpl
theorem ev_lenL (hm : X.mg "len" = none) (h : Ev X e σ H (.list ds)) (hg : Gl X "len" := by rfl) (he : starEach [e] X.env = (false, eval e X.env) :: starEach [] X.env := by rfl) (hpl : (backTo pos (starEach [] X.env)).any (·.1) = false := by rfl) : Ev X (.Call (.Name "len" p) [e] [] pos) σ H (pn ds.length) :=
  ev_callB call_len_seq hm boot_len (eva1 h he) (fun vs H1 k r Q q => by
    obtain ⟨v, rfl, r1⟩ := dpa1 r
    obtain ⟨a, xs, rfl, h1, h2⟩ := dp_lst r1
    exact ⟨a, xs, rfl, .inl h1, q _ H1 (Same.refl _) (by rw [dpa_len h2]; exact .int _)⟩) hg (by decide) (by decide) he hpl
/-- tuple(l) of a list -/
theorem ev_tupleL (hm : X.mg "tuple" = none) (h : Ev X e σ H (.list ds)) (hg : Gl X "tuple" := by rfl) (he : starEach [e] X.env = (false, eval e X.env) :: starEach [] X.env := by rfl) (hpl : (backTo pos (starEach [] X.env)).any (·.1) = false := by rfl) : Ev X (.Call (.Name "tuple" p) [e] [] pos) σ H (.tuple ds) :=
  ev_callTy call_tuple_of hm (by decide +kernel) (eva1 h he) (fun vs H1 k r Q q => by
    obtain ⟨v, rfl, r1⟩ := dpa1 r
    obtain ⟨a, xs, rfl, h1, h2⟩ := dp_lst r1
    exact ⟨a, xs, rfl, .inl ⟨h1, fun l hl => q _ _ (same_new hl) (.tup (SqT.of upd_same) (dpa_mono (same_new hl) h2))⟩⟩) hg (by decide) (by decide) he hpl
/-- list(t) of a tuple, of a list -/
theorem evl_listT (hm : X.mg "list" = none) (h : Ev X e σ H (.tuple ds)) (hg : Gl X "list" := by rfl) (he : starEach [e] X.env = (false, eval e X.env) :: starEach [] X.env := by rfl) (hpl : (backTo pos (starEach [] X.env)).any (·.1) = false := by rfl) : EvL X (.Call (.Name "list" p) [e] [] pos) σ H ds :=
  evl_callTy call_list_of hm (by decide +kernel) (eva1 h he) (fun vs H1 k r Q q => by
    obtain ⟨v, rfl, r1⟩ := dpa1 r
    obtain ⟨a, xs, rfl, h1, h2⟩ := dp_tup r1
    exact ⟨a, xs, rfl, .inr h1, fun l hl => q _ _ hl (same_new hl) ⟨xs, upd_same, dpa_mono (same_new hl) h2⟩⟩) hg (by decide) (by decide) he hpl
theorem evl_listL (hm : X.mg "list" = none) (h : Ev X e σ H (.list ds)) (hg : Gl X "list" := by rfl) (he : starEach [e] X.env = (false, eval e X.env) :: starEach [] X.env := by rfl) (hpl : (backTo pos (starEach [] X.env)).any (·.1) = false := by rfl) : EvL X (.Call (.Name "list" p) [e] [] pos) σ H ds :=
  evl_callTy call_list_of hm (by decide +kernel) (eva1 h he) (fun vs H1 k r Q q => by
    obtain ⟨v, rfl, r1⟩ := dpa1 r
    obtain ⟨a, xs, rfl, h1, h2⟩ := dp_lst r1
    exact ⟨a, xs, rfl, .inl h1, fun l hl => q _ _ hl (same_new hl) ⟨xs, upd_same, dpa_mono (same_new hl) h2⟩⟩) hg (by decide) (by decide) he hpl
theorem ev_all {bs : List Bool} (hc : X.calm = true) (hm : X.mg "all" = none) (h : Ev X e σ H (.list (bs.map PyData.bool))) (hg : Gl X "all" := by rfl) (he : starEach [e] X.env = (false, eval e X.env) :: starEach [] X.env := by rfl) (hpl : (backTo pos (starEach [] X.env)).any (·.1) = false := by rfl) :
    Ev X (.Call (.Name "all" p) [e] [] pos) σ H (.bool (bs.all id)) :=
  ev_callB (cr_all hc) hm (by decide +kernel) (eva1 h he) (fun vs H1 k r Q q => by
    obtain ⟨v, rfl, r1⟩ := dpa1 r
    obtain ⟨a, xs, rfl, h1, h2⟩ := dp_lst r1
    rw [dpa_bools h2] at h1
    exact ⟨a, bs, rfl, h1, q _ H1 (Same.refl _) (.bl _)⟩) hg (by decide) (by decide) he hpl
theorem ev_any {bs : List Bool} (hc : X.calm = true) (hm : X.mg "any" = none) (h : Ev X e σ H (.list (bs.map PyData.bool))) (hg : Gl X "any" := by rfl) (he : starEach [e] X.env = (false, eval e X.env) :: starEach [] X.env := by rfl) (hpl : (backTo pos (starEach [] X.env)).any (·.1) = false := by rfl) :
    Ev X (.Call (.Name "any" p) [e] [] pos) σ H (.bool (bs.any id)) :=
  ev_callB (cr_any hc) hm (by decide +kernel) (eva1 h he) (fun vs H1 k r Q q => by
    obtain ⟨v, rfl, r1⟩ := dpa1 r
    obtain ⟨a, xs, rfl, h1, h2⟩ := dp_lst r1
    rw [dpa_bools h2] at h1
    exact ⟨a, bs, rfl, h1, q _ H1 (Same.refl _) (.bl _)⟩) hg (by decide) (by decide) he hpl
/-! ### own defs -/
/-- a def of data: what R relates to the arguments comes back, nothing known changed -/
def spP (K : PySem.W.Frag) (R : List D0 → D0 → Prop) : Sp := fun vs H Q _ => ∃ ds d, DpAll K H vs ds ∧ R ds d ∧ ∀ v H', Same H H' → Dp K H' v d → Q v H'
/-- .. a new list -/
def spL (K : PySem.W.Frag) (R : List D0 → List D0 → Prop) : Sp := fun vs H Q _ => ∃ ds es, DpAll K H vs ds ∧ R ds es ∧ ∀ q H', H q = none → Same H H' → Ls K H' q es → Q (.ref q) H'
theorem ew_call {x : Str} {k j : Nat} {sp : Sp} (c : C8.Cal X.prog X.w X.K X.mg X.base k x sp []) (hr : Room j X.A) (hk : k ≤ j) (h : AW X (e :: es) σ H fun vs H1 => sp vs H1 Q E0) (hg : Gl X x := by rfl)
    (hdb : (x == ("__debug__" : Str)) = false := by decide) (he : starEach (e :: es) X.env = (false, eval e X.env) :: starEach es X.env := by rfl) (hpl : (backTo pos (starEach es X.env)).any (·.1) = false := by rfl) : EW X (.Call (.Name x p) (e :: es) [] pos) σ H Q :=
  ew_pe (C8.pe_c c hr hk hg pa_aw hdb he hpl) (show AW X (e :: es) σ H fun vs H1 => sp (vs ++ []) H1 Q E0 from h.mono fun vs H1 q => by rw [List.append_nil]; exact q)
theorem ev_call {x : Str} {k j : Nat} {R : List D0 → D0 → Prop} (c : C8.Cal X.prog X.w X.K X.mg X.base k x (spP X.K R) []) (hr : Room j X.A) (hk : k ≤ j) (h : EvA X (e :: es) σ H ds) (hR : R ds d) (hg : Gl X x := by rfl)
    (hdb : (x == ("__debug__" : Str)) = false := by decide) (he : starEach (e :: es) X.env = (false, eval e X.env) :: starEach es X.env := by rfl) (hpl : (backTo pos (starEach es X.env)).any (·.1) = false := by rfl) : Ev X (.Call (.Name x p) (e :: es) [] pos) σ H d := fun H1 k1 =>
  ew_call c hr hk ((h H1 k1).mono fun vs H2 ⟨k2, r⟩ => ⟨ds, d, r, hR, fun v H3 k3 r3 => ⟨k2.trans k3, r3⟩⟩) hg hdb he hpl
theorem evl_call {x : Str} {k j : Nat} {ls : List D0} {R : List D0 → List D0 → Prop} (c : C8.Cal X.prog X.w X.K X.mg X.base k x (spL X.K R) []) (hr : Room j X.A) (hk : k ≤ j) (h : EvA X (e :: es) σ H ds) (hR : R ds ls) (hg : Gl X x := by rfl)
    (hdb : (x == ("__debug__" : Str)) = false := by decide) (he : starEach (e :: es) X.env = (false, eval e X.env) :: starEach es X.env := by rfl) (hpl : (backTo pos (starEach es X.env)).any (·.1) = false := by rfl) : EvL X (.Call (.Name x p) (e :: es) [] pos) σ H ls := fun H1 k1 =>
  ew_call c hr hk ((h H1 k1).mono fun vs H2 ⟨k2, r⟩ => ⟨ds, ls, r, hR, fun q H3 n3 k3 r3 => ⟨k2.trans k3, q, rfl, none_back k2 n3, r3⟩⟩) hg hdb he hpl
/-! ### tests -/
theorem tw_val {Q : Bool → Hp → Prop} (h : EW X e σ H fun x H1 => ∃ c, x = .bl c ∧ Q c H1) (he : ∀ whole, isTrue e X.env whole = (do let v ← whole; standAt e.pos; holding [v] (truthy v)) := by intro _; rfl) : TW X e σ H Q := tw_pt (pt_val pe_ew he) h
theorem tv_ev {b : Bool} (h : Ev X e σ H (.bool b)) (he : ∀ whole, isTrue e X.env whole = (do let v ← whole; standAt e.pos; holding [v] (truthy v)) := by intro _; rfl) : Tv X e σ H b := fun H1 k =>
  tw_val ((h H1 k).mono fun v H2 ⟨k2, r⟩ => ⟨b, dp_bool r, k2, rfl⟩) he
theorem tw_not {Q : Bool → Hp → Prop} (h : TW X e σ H fun c H1 => Q (!c) H1) : TW X (.UnaryOp .Not e pos) σ H Q := tw_pt (pt_not pt_tw) h
theorem tv_not {b : Bool} (h : Tv X e σ H b) : Tv X (.UnaryOp .Not e pos) σ H (!b) := fun H1 k => tw_not ((h H1 k).mono fun c H2 ⟨k2, r⟩ => ⟨k2, by rw [r]⟩)
theorem ww_and1 {Q : Bool → Hp → Prop} (h : TW X e σ H Q) : WW X (.BoolOp .And [e] pos) σ H Q := ww_pw (pw_and1 pt_tw) h
theorem ww_or1 {Q : Bool → Hp → Prop} (h : TW X e σ H Q) : WW X (.BoolOp .Or [e] pos) σ H Q := ww_pw (pw_or1 pt_tw) h
theorem ww_and {Q : Bool → Hp → Prop} (h : TW X e σ H fun c H1 => if c = true then WW X (.BoolOp .And (b :: es) pos) σ H1 Q else Q false H1) : WW X (.BoolOp .And (e :: b :: es) pos) σ H Q := ww_pw (pw_and pt_tw pw_ww) h
theorem ww_or {Q : Bool → Hp → Prop} (h : TW X e σ H fun c H1 => if c = true then Q true H1 else WW X (.BoolOp .Or (b :: es) pos) σ H1 Q) : WW X (.BoolOp .Or (e :: b :: es) pos) σ H Q := ww_pw (pw_or pt_tw pw_ww) h
theorem tw_ww {Q : Bool → Hp → Prop} (h : WW X e σ H Q) : TW X e σ H Q := tw_pt (PW.pt pw_ww) h
theorem wv_and1 {x : Bool} (h : Tv X e σ H x) : Wv X (.BoolOp .And [e] pos) σ H x := fun H1 k => ww_and1 (h H1 k)
theorem wv_or1 {x : Bool} (h : Tv X e σ H x) : Wv X (.BoolOp .Or [e] pos) σ H x := fun H1 k => ww_or1 (h H1 k)
theorem wv_and {x y : Bool} (h : Tv X e σ H x) (h2 : x = true → Wv X (.BoolOp .And (b :: es) pos) σ H y) : Wv X (.BoolOp .And (e :: b :: es) pos) σ H (x && y) := fun H1 k =>
  ww_and ((h H1 k).mono fun c H2 ⟨k2, r⟩ => by
    subst r
    cases c with
    | true => exact iteT ((h2 rfl H2 (k.trans k2)).mono fun c' H3 ⟨k3, r3⟩ => ⟨k2.trans k3, by rw [r3]; rfl⟩)
    | false => exact iteF ⟨k2, rfl⟩)
theorem wv_or {x y : Bool} (h : Tv X e σ H x) (h2 : x = false → Wv X (.BoolOp .Or (b :: es) pos) σ H y) : Wv X (.BoolOp .Or (e :: b :: es) pos) σ H (x || y) := fun H1 k =>
  ww_or ((h H1 k).mono fun c H2 ⟨k2, r⟩ => by
    subst r
    cases c with
    | true => exact iteT ⟨k2, rfl⟩
    | false => exact iteF ((h2 rfl H2 (k.trans k2)).mono fun c' H3 ⟨k3, r3⟩ => ⟨k2.trans k3, by rw [r3]; rfl⟩))
theorem tv_wv {x : Bool} (h : Wv X e σ H x) : Tv X e σ H x := fun H1 k => tw_ww (h H1 k)
/-- as values -/
theorem ev_and1 {x : Bool} (h : Ev X e σ H (.bool x)) : Ev X (.BoolOp .And [e] pos) σ H (.bool x) := fun H1 k => ew_pe (pe_one pe_ew) (h H1 k)
theorem ev_and {x y : Bool} (h : Ev X e σ H (.bool x)) (h2 : x = true → Ev X (.BoolOp .And (b :: es) pos) σ H (.bool y)) : Ev X (.BoolOp .And (e :: b :: es) pos) σ H (.bool (x && y)) := fun H1 k =>
  ew_pe (pe_and pe_ew pe_ew) (show tAndV (EW X e) (EW X (.BoolOp .And (b :: es) pos)) σ H1 _ from (h H1 k).mono fun v H2 ⟨k2, r⟩ => ⟨x, dp_bool r, by
    cases x with
    | true => exact iteT ((h2 rfl H2 (k.trans k2)).mono fun c' H3 ⟨k3, r3⟩ => ⟨k2.trans k3, r3⟩)
    | false => exact iteF ⟨k2, .bl false⟩⟩)
theorem ev_notB {x : Bool} (h : Ev X e σ H (.bool x)) : Ev X (.UnaryOp .Not e pos) σ H (.bool (!x)) := fun H1 k => ew_pe (pe_not pe_ew) (show tNotV (EW X e) σ H1 _ from (h H1 k).mono fun v H2 ⟨k2, r⟩ => ⟨x, dp_bool r, k2, .bl _⟩)
theorem ew_if {c : Expr} (h : TW X c σ H fun k H1 => if k = true then EW X a σ H1 Q else EW X b σ H1 Q) : EW X (.IfExp c a b pos) σ H Q := ew_pe (pe_ifExp pt_tw pe_ew pe_ew) h
theorem ev_if {c : Expr} {x : Bool} (h : Tv X c σ H x) (h1 : x = true → Ev X a σ H d) (h2 : x = false → Ev X b σ H d) : Ev X (.IfExp c a b pos) σ H d := fun H1 k => ew_if ((h H1 k).mono fun z H2 ⟨k2, r⟩ => by
  subst r
  cases z with
  | true => exact iteT ((h1 rfl H2 (k.trans k2)).mono fun v H3 ⟨k3, r3⟩ => ⟨k2.trans k3, r3⟩)
  | false => exact iteF ((h2 rfl H2 (k.trans k2)).mono fun v H3 ⟨k3, r3⟩ => ⟨k2.trans k3, r3⟩))
/-- a < b < c -/
theorem ev_chain {i j k : Int} {op op' : CmpOp} {g g' : Int → Int → Bool} {c : Expr} (ho : OpR X (compareOp op) (rI0 fun i j => .bl (g i j))) (ho' : OpR X (compareOp op') (rI0 fun i j => .bl (g' i j))) (ha : Ev X a σ H (.int i)) (hb : Ev X b σ H (.int j)) (hc : Ev X c σ H (.int k)) (hm : lastMarks [op, op'] [b, c] = false := by rfl) :
    Ev X (.Compare a [op, op'] [b, c] pos) σ H (.bool (g i j && g' j k)) := fun H1 k1 =>
  ew_chain ho ho' ((ha H1 k1).mono fun x H2 ⟨k2, r2⟩ => (hb H2 (k1.trans k2)).mono fun y H3 ⟨k3, r3⟩ => ⟨i, j, dp_int r2, dp_int r3, g i j, rfl, by
    cases e : g i j with
    | true => exact iteT ((hc H3 ((k1.trans k2).trans k3)).mono fun z H4 ⟨k4, r4⟩ => ⟨j, k, dp_int r3, dp_int r4, (k2.trans k3).trans k4, .bl _⟩)
    | false => exact iteF ⟨k2.trans k3, .bl _⟩⟩) hm
end
end SO
set_option Elab.async false
set_option linter.all false
set_option maxRecDepth 100000
set_option maxHeartbeats 4000000
/-! So03: statements, loops, comprehensions. -/
namespace SO
open PySem PySem.Spec PyProof.Rows L2
section
variable {X : Cx} {e a b c f o : Expr} {es : List Expr} {σ : L2.St} {H H1 H2 : Hp} {st : Stmt} {sts body : List Stmt} {pos p apos pos' : Pos} {d d1 d2 : D0} {ds : List D0} {Q : VK} {D : Ends} {x : Str}
/-! ### statements -/
theorem b_set (i : Nat) (hN : X.N.Nodup) (h : EW X e σ H fun v H1 => BW X sts D (σ.set i (some v)) H1) (hi : X.N[i]? = some x := by rfl) (hx : Loc X.env.scope x := by first | exact Or.inl rfl | exact Or.inr rfl)
    (hs : swapsWith e (some (.Name x pos')) pos.line X.env = pure false := by rfl) (hf : X.fn x = true ∨ X.env.scope.names.lookup x = some .local := by first | exact .inl rfl | exact .inr rfl) :
    BW X (.Assign [.Name x pos'] e pos :: sts) D σ H := bw_cons (sw_ps (ps_set hN hi hx pe_ew hs hf) h)
theorem b_ret (h : EW X e σ H D.rt) : BW X (.Return (some e) pos :: sts) D σ H := bw_cons (sw_ps (ps_ret pe_ew) h)
theorem b_expr (h : EW X e σ H fun _ H1 => BW X sts D σ H1) (hs : swapsWith e none pos.line X.env = pure false := by rfl) : BW X (.Expr e pos :: sts) D σ H := bw_cons (sw_ps (ps_expr pe_ew hs) h)
theorem b_if {tb eb : List Stmt} (h : TW X c σ H fun k H1 => if k = true then BW X tb { D with nx := fun σ' H' => BW X sts D σ' H' } σ H1 else BW X eb { D with nx := fun σ' H' => BW X sts D σ' H' } σ H1) : BW X (.If c tb eb pos :: sts) D σ H :=
  bw_cons (sw_ps (ps_if pt_tw pss_bw pss_bw) h)
theorem b_asg {tg : Expr} {g : TG} (hg : PG X tg g) (h : EW X e σ H fun v H1 => g v σ H1 fun σ' H' => BW X sts D σ' H') (hs : swapsWithSole [tg] e pos.line X.env = pure false := by rfl) (hw : swappedStores [tg] e X.env = pure none := by rfl)
    (h1 : (assignEach [tg] X.env).map (·.2) = [assign tg X.env] := by rfl) : BW X (.Assign [tg] e pos :: sts) D σ H := bw_cons (sw_ps (ps_asg pe_ew hg hs hw h1) h)
theorem g_name (i : Nat) (hN : X.N.Nodup) (hi : X.N[i]? = some x := by rfl) (hx : Loc X.env.scope x := by first | exact Or.inl rfl | exact Or.inr rfl) (hf : X.fn x = true ∨ X.env.scope.names.lookup x = some .local := by first | exact .inl rfl | exact .inr rfl) : PG X (.Name x pos) (gName i) := pg_name hN hi hx hf
/-- a pair of names -/
def g2 (K : PySem.W.Frag) (i j : Nat) : TG := gTup K 2 (gCons (gName i) (gCons (gName j) gNil))
theorem g_two {y : Str} {k : Nat} {px py : Pos} (i j : Nat) (hc : X.calm = true) (hN : X.N.Nodup) (hi : X.N[i]? = some x := by rfl) (hj : X.N[j]? = some y := by rfl) (hx : Loc X.env.scope x := by first | exact Or.inl rfl | exact Or.inr rfl) (hy : Loc X.env.scope y := by first | exact Or.inl rfl | exact Or.inr rfl)
    (hf : X.fn x = true ∨ X.env.scope.names.lookup x = some .local := by first | exact .inl rfl | exact .inr rfl) (hf2 : X.fn y = true ∨ X.env.scope.names.lookup y = some .local := by first | exact .inl rfl | exact .inr rfl) :
    PG X (.Tuple [.Name x px, .Name y py] k pos) (g2 X.K i j) := pg_tup hc (pgs_cons (pg_name hN hi hx hf) (pgs_cons (pg_name hN hj hy hf2) pgs_nil))
theorem g2_go {K : PySem.W.Frag} {i j : Nat} {v : V} {Q : L2.St → Hp → Prop} (h : Dp K H v (.tuple [d1, d2])) (q : ∀ v1 v2, Dp K H v1 d1 → Dp K H v2 d2 → Q ((σ.set i (some v1)).set j (some v2)) H) : g2 K i j v σ H Q := by
  obtain ⟨a, xs, rfl, h1, h2⟩ := dp_tup h
  obtain ⟨v1, v2, rfl, r1, r2⟩ := dpa2 h2
  exact ⟨a, _, rfl, h1, rfl, v1, _, rfl, v2, _, rfl, rfl, q v1 v2 r1 r2⟩
theorem b_setL (hs : EW X e σ H fun v H1 => EW X o σ H1 fun x H2 => EW X a σ H2 fun y H3 => ∃ p xs k j, x = .ref p ∧ y = .int k ∧ H3 p = some (.lst xs) ∧ ixN xs.length k = some j ∧ BW X sts D σ (upd H3 p (.lst (xs.set j v))))
    (ha : ∀ v, assign (.Subscript o a pos') X.env v = (do
      let ov ← holding [v] (eval o X.env)
      let iv ← holding [v, ov] (eval a X.env)
      standAt pos'
      holding [v, ov, iv] (setItem ov iv v)
      release [v, ov, iv] []) := by intro _; rfl)
    (hs1 : swapsWithSole [.Subscript o a pos'] e pos.line X.env = pure false := by rfl) (hw : swappedStores [.Subscript o a pos'] e X.env = pure none := by rfl)
    (h1 : (assignEach [.Subscript o a pos'] X.env).map (·.2) = [assign (.Subscript o a pos') X.env] := by rfl) : BW X (.Assign [.Subscript o a pos'] e pos :: sts) D σ H :=
  bw_cons (sw_ps (ps_asg pe_ew (pg_sub pe_ew pe_ew set_list ha) hs1 hw h1) hs)
theorem b_fld {f : Str} (h : EW X e σ H fun y H1 => EW X o σ H1 fun x H2 => ∃ a C dx fs, x = .ref a ∧ H2 a = some (.ins C dx fs) ∧ Cls X.K C ∧ NoAttr X.K C f ∧ fs.length < 1000 ∧ BW X sts D σ (upd H2 a (.ins C dx (putF f y fs))))
    (hs : swapsWith e (some (.Attribute o f pos')) pos.line X.env = pure false := by rfl) : BW X (.Assign [.Attribute o f pos'] e pos :: sts) D σ H := bw_cons (sw_ps (ps_fld pe_ew pe_ew hs) h)
theorem ew_fld {f : Str} {pos : Pos} (h : EW X e σ H fun x H1 => ∃ a C dx fs v, x = .ref a ∧ H1 a = some (.ins C dx fs) ∧ Cls X.K C ∧ NoAttr X.K C f ∧ fs.lookup f = some v ∧ Q v H1) (hb : attributeBase e f X.env (eval e X.env) = eval e X.env := by rfl) : EW X (.Attribute e f pos) σ H Q := ew_pe (pe_fld pe_ew hb) h
theorem b_par {i j : Nat} {y : Str} {px py pt : Pos} {kt k2 : Nat} {pt2 : Pos} (hc : X.calm = true) (hN : X.N.Nodup) (h : EW X a σ H fun v H1 => EW X b σ H1 fun w H2 => BW X sts D ((σ.set i (some v)).set j (some w)) H2) (hij : i ≠ j := by decide) (hi : X.N[i]? = some x := by rfl) (hj : X.N[j]? = some y := by rfl)
    (hx : X.env.scope.names.lookup x = some .local := by rfl) (hy : X.env.scope.names.lookup y = some .local := by rfl) (hw : swappedStores [.Tuple [.Name x px, .Name y py] kt pt] (.Tuple [a, b] k2 pt2) X.env = pure (some [x, y]) := by rfl)
    (hs : swapsWithSole [.Tuple [.Name x px, .Name y py] kt pt] (.Tuple [a, b] k2 pt2) pos.line X.env = pure false := by rfl) (hs1 : starEach [a, b] X.env = (false, eval a X.env) :: starEach [b] X.env := by rfl) (hs2 : starEach [b] X.env = (false, eval b X.env) :: starEach [] X.env := by rfl) :
    BW X (.Assign [.Tuple [.Name x px, .Name y py] kt pt] (.Tuple [a, b] k2 pt2) pos :: sts) D σ H :=
  bw_cons (sw_ps (ps_par hc hN hi hj hij hx hy pa_aw hw hs) (show AW X [a, b] σ H _ from aw_two (h.mono fun v H1 k => k.mono fun w H2 q => ⟨v, w, rfl, q⟩) hs1 hs2))
/-! ### for -/
theorem b_forT {tg iter : Expr} {g : TG} (hg : PG X tg g) (hc : X.calm = true) (hi : Ev X iter σ H (.tuple ds))
    (k : ∀ a xs H1, Same H H1 → SqT X.K H1 a xs → DpAll X.K H1 xs ds → ∃ Pv : Nat → L2.St → Hp → Prop, Pv 0 σ H1 ∧ (∀ i σ' H', Pv i σ' H' → SqT X.K H' a xs) ∧
      (∀ i d v σ' H', ds[i]? = some d → xs[i]? = some v → Dp X.K H1 v d → Pv i σ' H' → g v σ' H' fun σ2 H2 => BW X body { D with nx := Pv (i + 1), ct := Pv (i + 1), bk := fun σ' H' => BW X sts D σ' H' } σ2 H2) ∧ ∀ σ' H', Pv ds.length σ' H' → BW X sts D σ' H')
    (hp : PassesOwn (model X.prog X.w) X.A X.env X.xe := by exact PassesOwn.never) (hs : ∀ x, foldedSetIterable iter X.env x = pure x := by intro _; rfl) : BW X (.For tg iter body [] pos :: sts) D σ H := by
  refine bw_cons (sw_ps (ps_for hp hc (pi_tup pe_ew) hg pss_bw hs) (show EW X iter σ H _ from hi.go fun v H1 k1 r => ?_))
  obtain ⟨a, xs, rfl, h1, h2⟩ := dp_tup r
  obtain ⟨Pv, p0, pk, ps, pd⟩ := k a xs H1 k1 h1 h2
  refine ⟨a, rfl, ⟨xs, h1⟩, for_tup (xs := xs) Pv p0 (fun i σ' H' _ p => pk i σ' H' p) (fun i x σ' H' hx p => ?_) (fun σ' H' p => pd σ' H' (by rw [← dpa_len h2]; exact p))⟩
  obtain ⟨d, e1, r1⟩ := dpa_getv h2 hx
  exact ps i d x σ' H' e1 hx r1 p
theorem b_forL {tg iter : Expr} {g : TG} (hg : PG X tg g) (hc : X.calm = true) (hi : Ev X iter σ H (.list ds))
    (k : ∀ a xs H1, Same H H1 → SqL X.K H1 a xs → DpAll X.K H1 xs ds → ∃ Pv : Nat → L2.St → Hp → Prop, Pv 0 σ H1 ∧ (∀ i σ' H', Pv i σ' H' → SqL X.K H' a xs) ∧
      (∀ i d v σ' H', ds[i]? = some d → xs[i]? = some v → Dp X.K H1 v d → Pv i σ' H' → g v σ' H' fun σ2 H2 => BW X body { D with nx := Pv (i + 1), ct := Pv (i + 1), bk := fun σ' H' => BW X sts D σ' H' } σ2 H2) ∧ ∀ σ' H', Pv ds.length σ' H' → BW X sts D σ' H')
    (hp : PassesOwn (model X.prog X.w) X.A X.env X.xe := by exact PassesOwn.never) (hs : ∀ x, foldedSetIterable iter X.env x = pure x := by intro _; rfl) : BW X (.For tg iter body [] pos :: sts) D σ H := by
  refine bw_cons (sw_ps (ps_for hp hc (pi_list pe_ew) hg pss_bw hs) (show EW X iter σ H _ from hi.go fun v H1 k1 r => ?_))
  obtain ⟨a, xs, rfl, h1, h2⟩ := dp_lst r
  obtain ⟨Pv, p0, pk, ps, pd⟩ := k a xs H1 k1 h1 h2
  refine ⟨a, rfl, ⟨xs, h1⟩, for_list (xs := xs) Pv p0 (fun i σ' H' _ p => pk i σ' H' p) (fun i x σ' H' hx p => ?_) (fun σ' H' p => pd σ' H' (by rw [← dpa_len h2]; exact p))⟩
  obtain ⟨d, e1, r1⟩ := dpa_getv h2 hx
  exact ps i d x σ' H' e1 hx r1 p
/-- for i in range(n), any way to n -/
theorem b_forRw {tg e : Expr} {p' : Pos} {g : TG} (hg : PG X tg g) (hc : X.calm = true) (hm : X.mg "range" = none)
    (h : EW X e σ H fun v H1 => ∃ n : Nat, v = .int (n : Int) ∧ n < 2 ^ 62 ∧ ∃ Pv : Nat → L2.St → Hp → Prop, Pv 0 σ H1 ∧
      (∀ i σ' H', i < n → Pv i σ' H' → g (.int (i : Int)) σ' H' fun σ2 H2 => BW X body { D with nx := Pv (i + 1), ct := Pv (i + 1), bk := fun σ' H' => BW X sts D σ' H' } σ2 H2) ∧ ∀ σ' H', Pv n σ' H' → BW X sts D σ' H')
    (hgl : Gl X "range" := by rfl) (hp : PassesOwn (model X.prog X.w) X.A X.env X.xe := by exact PassesOwn.never) (hs : ∀ x, foldedSetIterable (.Call (.Name "range" p) [e] [] p') X.env x = pure x := by intro _; rfl) (hst : starEach [e] X.env = [(false, eval e X.env)] := by rfl) : BW X (.For tg (.Call (.Name "range" p) [e] [] p') body [] pos :: sts) D σ H := by
  refine bw_cons (sw_ps (ps_for hp hc (pi_range1 hgl hm pa_aw hst) hg pss_bw hs) (show AW X [e] σ H _ from aw_one (h.mono fun v H1 h => ?_) hst))
  obtain ⟨n, rfl, hn, Pv, p0, ps, pd⟩ := h
  refine ⟨n, rfl, by omega, by omega, for_range (n := n) Pv p0 (fun i σ' H' hi p => ?_) pd⟩
  rw [Int.zero_add]
  exact ps i σ' H' hi p
/-- while -/
theorem b_while (hw : ∃ W : Nat → L2.St → Hp → Prop, (∃ m, W m σ H) ∧ ∀ m σ' H', W m σ' H' → TW X c σ' H' fun b H1 => if b = true then ∃ N : L2.St → Hp → Prop, (∀ σ2 H2, N σ2 H2 → ∃ m', m' < m ∧ W m' σ2 H2) ∧ BW X body { D with nx := N, ct := N, bk := fun σ' H' => BW X sts D σ' H' } σ' H1 else BW X sts D σ' H1)
    (hp : PassesOwn (model X.prog X.w) X.A X.env X.xe := by exact PassesOwn.never) : BW X (.While c body [] pos :: sts) D σ H := bw_cons (sw_ps (ps_while hp pt_tw pss_bw) hw)
/-! ### comprehensions -/
abbrev Blk (X : Cx) (scope : Scope) (P : Cx → Prop) : Prop := ∀ (s : Shared) (H : Hp) (C : Addr) (cl : List (Str × Addr)) (fp : List Addr), P (X.blk s H scope (compEnvC scope cl C X.env) fp)
/-- a comprehension, its tests and element as they are wanted in its block -/
def LcW (X : Cx) (elt tg iter : Expr) (ifs : List Expr) (scope : Scope) (σ : L2.St) (H : Hp) (Q : VK) : Prop :=
  ∃ (own : List (Str × Nat)) (wi : TI) (g : TG) (tt : TT) (te : TE), (X.calm = true ∧ X.N.Nodup ∧ PI X tg iter wi ∧ BlkOk X.N X.env.scope scope own ∧ Blk X scope (fun Y => PG Y tg g) ∧ Blk X scope (fun Y => PTs Y ifs tt) ∧ Blk X scope (fun Y => PE Y elt te) ∧ ∀ x, foldedSetIterable iter X.env x = pure x) ∧
    tLc wi g tt te (own.map (·.2)) σ H Q
theorem ew_lc {elt tg iter : Expr} {ifs : List Expr} {scope : Scope} (h : LcW X elt tg iter ifs scope σ H Q) : EW X (.ListComp elt [⟨tg, iter, ifs, 0⟩] scope pos) σ H Q := by
  obtain ⟨own, wi, g, tt, te, ⟨h1, h2, h3, h4, h5, h6, h7, h8⟩, h⟩ := h
  exact ew_pe (pe_lc h1 h2 h3 h4 h5 h6 h7 h8) h
theorem b_setLc (i : Nat) {py spos : Pos} {elt tg iter : Expr} {ifs : List Expr} {scope : Scope} (h : LcW X elt tg iter ifs scope σ H fun v H1 => BW X sts D (σ.set i (some v)) H1) (hy : X.N[i]? = some x := by rfl) (hyl : X.env.scope.names.lookup x = some .local := by rfl)
    (hsw : swapsWith (.ListComp elt [⟨tg, iter, ifs, 0⟩] scope pos) (some (.Name x py)) spos.line X.env = pure true := by exact sw_true rfl rfl rfl (by decide +kernel)) : BW X (.Assign [.Name x py] (.ListComp elt [⟨tg, iter, ifs, 0⟩] scope pos) spos :: sts) D σ H := by
  obtain ⟨own, wi, g, tt, te, ⟨h1, h2, h3, h4, h5, h6, h7, h8⟩, h⟩ := h
  exact bw_cons (sw_ps (ps_setLc h1 h2 hy hyl hsw h3 h4 h5 h6 h7 h8) h)
/-- a new list from a comprehension -/
def LcV (X : Cx) (elt tg iter : Expr) (ifs : List Expr) (scope : Scope) (σ : L2.St) (H : Hp) (ds : List D0) : Prop := ∀ H1, Same H H1 → ∀ Q : VK, (∀ q H2, Same H1 H2 → H1 q = none → Ls X.K H2 q ds → Q (.ref q) H2) → LcW X elt tg iter ifs scope σ H1 Q
theorem evl_lc {elt tg iter : Expr} {ifs : List Expr} {scope : Scope} (h : LcV X elt tg iter ifs scope σ H ds) : EvL X (.ListComp elt [⟨tg, iter, ifs, 0⟩] scope pos) σ H ds := fun H1 k => ew_lc (h H1 k _ fun q H2 k2 n r => ⟨k2, q, rfl, n, r⟩)
theorem lc_mono {wi : TI} {g : TG} {tt : TT} {te : TE} {vs : List Nat} (hw : ∀ σ H (R R' : It → Hp → Prop), (∀ J H', R J H' → R' J H') → wi σ H R → wi σ H R') {Q Q' : VK} (h : tLc wi g tt te vs σ H Q) (k : ∀ v H', Q v H' → Q' v H') : tLc wi g tt te vs σ H Q' :=
  hw σ H _ _ (fun J H1 h D hD => by
    obtain ⟨W, w0, w⟩ := h D hD
    exact ⟨W, w0, fun i m H hW => (w i m H hW).imp (fun ⟨s, q⟩ => ⟨s, k _ _ q⟩) id⟩) h
/-- what walks: n turns, at turn i an x of which Y i x holds; the walk stands while nothing known changes -/
def Src (wi : TI) (σ : L2.St) (H : Hp) (n : Nat) (Y : Nat → V → Hp → Prop) : Prop := ∀ H1, Same H H1 → ∀ R : It → Hp → Prop, (∀ J H2, Same H1 H2 →
  (∀ Hc, Same H2 Hc → (J.stop n Hc) ∧ ∀ i, i < n → J.go i Hc ∧ ∀ x H', J.yld i Hc x H' → Same Hc H' ∧ Y i x H') → R J H2) → wi σ H1 R
theorem src_T {iter : Expr} (hi : Ev X iter σ H (.tuple ds)) : Src (iTup X.K (EW X iter)) σ H ds.length fun i x H' => ∃ d, ds[i]? = some d ∧ Dp X.K H' x d := fun H1 k1 R h => by
  show EW X iter σ H1 _
  refine (hi H1 k1).mono fun v H2 ⟨k2, r⟩ => ?_
  obtain ⟨a, xs, rfl, h1, h2⟩ := dp_tup r
  refine ⟨a, rfl, ⟨xs, h1⟩, h _ H2 k2 fun Hc kc => ?_⟩
  have h1c : SqT X.K Hc a xs := by
    have := dp_mono kc r
    rcases h1 with (z | ⟨o, z⟩) | z
    · exact .inl (.inl (kc _ _ z))
    · exact .inl (.inr ⟨o, kc _ _ z⟩)
    · exact .inr z
  refine ⟨⟨xs, h1c, by rw [dpa_len h2]; exact Nat.le_refl _⟩, fun i hi' => ⟨⟨xs, xs[i]'(by rw [dpa_len h2]; exact hi'), h1c, by simp⟩, fun x H' y => ?_⟩⟩
  obtain ⟨rfl, y⟩ := y
  obtain ⟨d, e1, r1⟩ := dpa_getv (dpa_mono kc h2) (y xs h1c)
  exact ⟨Same.refl _, d, e1, r1⟩
theorem src_L {iter : Expr} (hi : Ev X iter σ H (.list ds)) : Src (iList X.K (EW X iter)) σ H ds.length fun i x H' => ∃ d, ds[i]? = some d ∧ Dp X.K H' x d := fun H1 k1 R h => by
  show EW X iter σ H1 _
  refine (hi H1 k1).mono fun v H2 ⟨k2, r⟩ => ?_
  obtain ⟨a, xs, rfl, h1, h2⟩ := dp_lst r
  refine ⟨a, rfl, ⟨xs, h1⟩, h _ H2 k2 fun Hc kc => ?_⟩
  have h1c : SqL X.K Hc a xs := kc.seq h1
  refine ⟨⟨xs, h1c, by rw [dpa_len h2]; exact Nat.le_refl _⟩, fun i hi' => ⟨⟨xs, xs[i]'(by rw [dpa_len h2]; exact hi'), h1c, by simp⟩, fun x H' y => ?_⟩⟩
  obtain ⟨rfl, y⟩ := y
  obtain ⟨d, e1, r1⟩ := dpa_getv (dpa_mono kc h2) (y xs h1c)
  exact ⟨Same.refl _, d, e1, r1⟩
theorem src_R {e : Expr} {n : Nat} (hi : Ev X e σ H (pn n)) (hn : n < 2 ^ 62) (hst : starEach [e] X.env = (false, eval e X.env) :: starEach [] X.env := by rfl) : Src (iRng1 (AW X [e])) σ H n fun i x H' => x = .int (i : Int) := fun H1 k1 R h => by
  show AW X [e] σ H1 _
  refine aw_one ((hi H1 k1).mono fun v H2 ⟨k2, r⟩ => ?_) hst
  refine ⟨n, by rw [dp_int r], by omega, by omega, ?_⟩
  have en : (n : Int).toNat = n := Int.toNat_natCast n
  rw [en]
  exact h _ H2 k2 fun Hc kc => ⟨Nat.le_refl n, fun i hi => ⟨hi, fun x H' y => ⟨by rw [y.1]; exact Same.refl _, by rw [y.2, Int.zero_add]⟩⟩⟩
theorem src_R2 {e e2 : Expr} {n m : Nat} (hi : Ev X e σ H (pn n)) (hi2 : Ev X e2 σ H (pn m)) (hn : n < 2 ^ 62) (hm : m < 2 ^ 62) (hst : starEach [e, e2] X.env = (false, eval e X.env) :: starEach [e2] X.env := by rfl) (hst2 : starEach [e2] X.env = (false, eval e2 X.env) :: starEach [] X.env := by rfl) : Src (iRng2 (AW X [e, e2])) σ H (m - n) fun i x H' => x = .int ((n + i : Nat) : Int) := fun H1 k1 R h => by
  show AW X [e, e2] σ H1 _
  refine aw_two ((hi H1 k1).mono fun v H2 ⟨k2, r⟩ => (hi2 H2 (k1.trans k2)).mono fun v2 H3 ⟨k3, r2⟩ => ?_) hst hst2
  refine ⟨n, m, by rw [dp_int r, dp_int r2], ⟨by omega, by omega, by omega, by omega⟩, ?_⟩
  have en : ((m : Int) - (n : Int)).toNat = m - n := by omega
  rw [en]
  exact h _ H3 (k2.trans k3) fun Hc kc => ⟨Nat.le_refl _, fun i hi => ⟨hi, fun x H' y => ⟨by rw [y.1]; exact Same.refl _, by rw [y.2]; congr 1⟩⟩⟩
/-- the items kept of those that are walked -/
def kept (c : Nat → Bool) (n : Nat) : List Nat := (List.range n).filter c
theorem kept_succ {c : Nat → Bool} {n : Nat} : kept c (n + 1) = if c n = true then kept c n ++ [n] else kept c n := by
  unfold kept
  rw [List.range_succ, List.filter_append]
  cases h : c n with
  | true => simp [h]
  | false => simp [h]
theorem lcw_core {wi : TI} {g : TG} {tt : TT} {te : TE} {vs : List Nat} {n : Nat} {Y : Nat → V → Hp → Prop} {K : PySem.W.Frag} (cnd : Nat → Bool) (fv : Nat → D0) (hs : Src wi σ H n Y) (hn : n ≤ 100000) (ht : ∀ i, i < n → cnd i = true → tupOnly (fv i) = true)
    (turn : ∀ i x H1, i < n → Same H H1 → Y i x H1 → ∀ F : L2.St → Hp → Prop, (∀ τ, wipe τ vs = wipe σ vs → (∀ Q : Bool → Hp → Prop, (∀ H2, Same H1 H2 → Q (cnd i) H2) → tt τ H1 Q) → (cnd i = true → ∀ H2, Same H1 H2 → ∀ Q : VK, (∀ v H3, Same H2 H3 → Dp K H3 v (fv i) → Q v H3) → te τ H2 Q) → F τ H1) → g x (wipe σ vs) H1 F) :
    ∀ H1, Same H H1 → ∀ Q : VK, (∀ q H2, Same H1 H2 → H1 q = none → Ls K H2 q ((kept cnd n).map fv) → Q (.ref q) H2) → tLc wi g tt te vs σ H1 Q := fun H1 k1 Q hQ => by
  refine hs H1 k1 _ fun J H2 k2 hJ Dl hD => ?_
  refine ⟨fun i m H' => m = n - i ∧ i ≤ n ∧ Same H2 H' ∧ Ls K H' Dl ((kept cnd i).map fv), ⟨n, rfl, Nat.zero_le _, same_new hD, [], upd_same, .nil⟩, ?_⟩
  rintro i m H' ⟨rfl, hi, sm, xs, hx, hd⟩
  by_cases hlt : i < n
  · obtain ⟨go, yl⟩ := (hJ H' sm).2 i hlt
    refine .inr ⟨go, fun H'' => Same H2 H'' ∧ Ls K H'' Dl ((kept cnd (i + 1)).map fv), fun H'' ⟨a, b⟩ => ⟨n - (i + 1), by omega, rfl, hlt, a, b⟩, fun x Hy hy => ?_⟩
    obtain ⟨ky, y⟩ := yl x Hy hy
    refine turn i x Hy hlt ((k1.trans k2).trans (sm.trans ky)) y _ fun τ hw htt hte => ⟨hw, htt _ fun H3 k3 => ?_⟩
    cases hc : cnd i with
    | false =>
      refine iteF ⟨(sm.trans ky).trans k3, xs, k3 _ _ (ky _ _ hx), ?_⟩
      rw [kept_succ, if_neg (by rw [hc]; decide)]
      exact dpa_mono (ky.trans k3) hd
    | true =>
      refine iteT (hte hc H3 k3 _ fun v H4 k4 r4 => ?_)
      have kk : Same H' H4 := (ky.trans k3).trans k4
      refine ⟨xs, kk _ _ hx, ?_, ?_⟩
      · have := dpa_len hd
        rw [this, List.length_map]
        have h2 := List.length_filter_le cnd (List.range i)
        rw [List.length_range] at h2
        exact small' (Nat.le_trans h2 (by omega))
      · have tp : Tp H4 (upd H4 Dl (.lst (xs ++ [v]))) := fun b ys hb => by
          have ne : b ≠ Dl := fun z => by
            rw [z] at hb
            rcases hb with h | ⟨o, h⟩
            · rw [kk _ _ hx] at h; cases h
            · rw [kk _ _ hx] at h; cases h
          rcases hb with h | ⟨o, h⟩
          · exact .inl (by rw [upd_ne ne]; exact h)
          · exact .inr ⟨o, by rw [upd_ne ne]; exact h⟩
        refine ⟨fun b o hb => ?_, xs ++ [v], upd_same, ?_⟩
        · have ne : b ≠ Dl := ne_of_none hb hD
          rw [upd_ne ne]
          exact kk _ _ (sm _ _ hb)
        · rw [kept_succ, if_pos hc, List.map_append]
          refine dpa_app (dpa_tp tp ?_ (dpa_mono kk hd)) (.cons (dp_tp tp (ht i hlt hc) r4) .nil)
          refine tupOnlyL_iff.mpr fun d hd => ?_
          obtain ⟨j, hj, rfl⟩ := List.mem_map.mp hd
          obtain ⟨h3, h4⟩ := List.mem_filter.mp hj
          exact ht j (Nat.lt_trans (List.mem_range.mp h3) hlt) h4
  · have e : i = n := by omega
    subst e
    exact .inl ⟨(hJ H' sm).1, hQ Dl H' (k2.trans sm) (none_back k2 hD) ⟨xs, hx, hd⟩⟩
end
end SO
set_option Elab.async false
set_option linter.all false
set_option maxRecDepth 100000
set_option maxHeartbeats 4000000
/-! So04: comprehensions over data, with a name or a pair as target. -/
namespace SO
open PySem PySem.Spec PyProof.Rows L2
section
variable {X : Cx} {σ : L2.St} {H : Hp}
def teB (X : Cx) (scope : Scope) (elt : Expr) : TE := fun σ H Q => Blk X scope fun Y => EW Y elt σ H Q
def ttB (X : Cx) (scope : Scope) (cnd : Expr) : TT := fun σ H Q => Blk X scope fun Y => TW Y cnd σ H Q
theorem pe_blk {scope : Scope} {elt : Expr} : Blk X scope fun Y => PE Y elt (teB X scope elt) := fun s H0 C cl fp => ⟨fun pins s' σ H Q I h => h s H0 C cl fp pins s' I⟩
theorem pts_blk {scope : Scope} {cnd : Expr} : Blk X scope fun Y => PTs Y [cnd] (ttB X scope cnd) := fun s H0 C cl fp => pts_one ⟨fun pins s' σ H Q I h => h s H0 C cl fp pins s' I⟩
theorem pts0_blk {scope : Scope} : Blk X scope fun Y => PTs Y [] tYes := fun s H0 C cl fp => pts_nil
section
variable {α : Type} {xs : List α} {enc f : α → D0} {c : α → Bool}
theorem getD_some {β : Type} {g : α → β} {i : Nat} {a : α} {b : β} (h : xs[i]? = some a) : (xs[i]?.map g).getD b = g a := by rw [h]; rfl
theorem kept_take (c : α → Bool) (f : α → D0) : ∀ n, n ≤ xs.length → (kept (fun i => (xs[i]?.map c).getD false) n).map (fun i => (xs[i]?.map f).getD .none) = ((xs.take n).filter c).map f
  | 0, _ => by simp [kept]
  | n + 1, h => by
    have ih := kept_take c f n (by omega)
    have e : xs[n]? = some xs[n] := List.getElem?_eq_getElem (by omega)
    rw [kept_succ, getD_some e, List.take_succ, e, List.filter_append, List.map_append, ← ih]
    cases hc : c xs[n] with
    | true => simp [hc, getD_some e]
    | false => simp [hc]
theorem kept_all (c : α → Bool) (f : α → D0) : (kept (fun i => (xs[i]?.map c).getD false) xs.length).map (fun i => (xs[i]?.map f).getD .none) = (xs.filter c).map f := by
  rw [kept_take c f xs.length (Nat.le_refl _), List.take_length]
end
/-- the turn: the target's store, the test, the element -/
theorem lcv_gen {α : Type} {xs : List α} {enc f : α → D0} {c : α → Bool} {elt tg iter : Expr} {ifs : List Expr} {scope : Scope} (own : List (Str × Nat)) {wi : TI} {g : TG} {tt : TT} (hc : X.calm = true) (hN : X.N.Nodup) (hi : PI X tg iter wi)
    (hs : Src wi σ H xs.length fun i x H' => ∃ d, (xs.map enc)[i]? = some d ∧ Dp X.K H' x d) (ok : BlkOk X.N X.env.scope scope own) (hg : Blk X scope fun Y => PG Y tg g) (hpt : Blk X scope fun Y => PTs Y ifs tt) (hl : xs.length ≤ 100000)
    (ht : ∀ a ∈ xs, c a = true → tupOnly (f a) = true)
    (turn : ∀ a ∈ xs, ∀ v H1, Same H H1 → Dp X.K H1 v (enc a) → ∀ F : L2.St → Hp → Prop, (∀ τ, wipe τ (own.map (·.2)) = wipe σ (own.map (·.2)) → (∀ Q : Bool → Hp → Prop, (∀ H2, Same H1 H2 → Q (c a) H2) → tt τ H1 Q) → (c a = true → Blk X scope fun Y => Ev Y elt τ H1 (f a)) → F τ H1) → g v (wipe σ (own.map (·.2))) H1 F)
    (hf : ∀ x, foldedSetIterable iter X.env x = pure x := by intro _; rfl) : LcV X elt tg iter ifs scope σ H ((xs.filter c).map f) := fun H1 k1 Q hQ => by
  refine ⟨own, wi, g, tt, teB X scope elt, ⟨hc, hN, hi, ok, hg, hpt, pe_blk, hf⟩, ?_⟩
  have core := lcw_core (K := X.K) (te := teB X scope elt) (tt := tt) (g := g) (vs := own.map (·.2)) (fun i => (xs[i]?.map c).getD false) (fun i => (xs[i]?.map f).getD .none) hs hl (fun i hi' hc' => ?_) (fun i x Hx hi' kx y F hF => ?_) H1 k1 Q
  · rw [kept_all] at core
    exact core hQ
  · have e : xs[i]? = some xs[i] := List.getElem?_eq_getElem hi'
    rw [getD_some e] at hc' ⊢
    exact ht _ (List.getElem_mem hi') hc'
  · have e : xs[i]? = some xs[i] := List.getElem?_eq_getElem hi'
    obtain ⟨d, e1, r⟩ := y
    rw [List.getElem?_map, e] at e1
    cases e1
    refine turn xs[i] (List.getElem_mem hi') x Hx kx r F fun τ hw h1 h2 => hF τ hw (fun Q q => h1 Q fun H2 k2 => ?_) (fun hc' H2 k2 Q q => ?_)
    · have := q H2 k2
      rw [getD_some e] at this
      exact this
    · rw [getD_some e] at hc'
      intro s H0 C cl fp
      refine ((h2 hc' s H0 C cl fp) H2 k2).mono fun v H3 ⟨k3, r3⟩ => q v H3 k3 ?_
      rw [getD_some e]
      exact r3
variable {α : Type} {xs : List α} {enc f : α → D0} {c : α → Bool} {elt iter cnd : Expr} {scope : Scope} {x : Str} {px : Pos}
theorem filter_true' : xs.filter (fun _ => true) = xs := List.filter_eq_self.mpr fun _ _ => rfl
/-- [elt for x in t], t a tuple -/
theorem lcv_T (own : List (Str × Nat)) (j : Nat) (hc : X.calm = true) (hN : X.N.Nodup) (hi : Ev X iter σ H (.tuple (xs.map enc))) (ok : BlkOk X.N X.env.scope scope own) (hl : xs.length ≤ 100000) (ht : ∀ a ∈ xs, tupOnly (f a) = true)
    (he : ∀ a ∈ xs, ∀ v H1, Same H H1 → Dp X.K H1 v (enc a) → Blk X scope fun Y => Ev Y elt ((wipe σ (own.map (·.2))).set j (some v)) H1 (f a))
    (hg : Blk X scope fun Y => PG Y (.Name x px) (gName j) := by exact fun _ _ _ _ _ => g_name _ (by assumption)) (hw : ∀ v, wipe ((wipe σ (own.map (·.2))).set j (some v)) (own.map (·.2)) = wipe σ (own.map (·.2)) := by intro _; rfl)
    (hf : ∀ x, foldedSetIterable iter X.env x = pure x := by intro _; rfl) : LcV X elt (.Name x px) iter [] scope σ H (xs.map f) := by
  have q := lcv_gen (xs := xs) (enc := enc) (f := f) (c := fun _ => true) (elt := elt) own hc hN (pi_tup pe_ew) (by have := src_T hi; rw [List.length_map] at this; exact this) ok hg pts0_blk hl (fun a ha _ => ht a ha)
    (fun a ha v H1 k r F hF => hF _ (hw v) (fun Q q => q H1 (Same.refl _)) fun _ => he a ha v H1 k r) hf
  rw [filter_true'] at q
  exact q
theorem lcv_Tif (own : List (Str × Nat)) (j : Nat) (hc : X.calm = true) (hN : X.N.Nodup) (hi : Ev X iter σ H (.tuple (xs.map enc))) (ok : BlkOk X.N X.env.scope scope own) (hl : xs.length ≤ 100000) (ht : ∀ a ∈ xs, tupOnly (f a) = true)
    (hcn : ∀ a ∈ xs, ∀ v H1, Same H H1 → Dp X.K H1 v (enc a) → Blk X scope fun Y => Tv Y cnd ((wipe σ (own.map (·.2))).set j (some v)) H1 (c a))
    (he : ∀ a ∈ xs, ∀ v H1, Same H H1 → Dp X.K H1 v (enc a) → c a = true → Blk X scope fun Y => Ev Y elt ((wipe σ (own.map (·.2))).set j (some v)) H1 (f a))
    (hg : Blk X scope fun Y => PG Y (.Name x px) (gName j) := by exact fun _ _ _ _ _ => g_name _ (by assumption)) (hw : ∀ v, wipe ((wipe σ (own.map (·.2))).set j (some v)) (own.map (·.2)) = wipe σ (own.map (·.2)) := by intro _; rfl)
    (hf : ∀ x, foldedSetIterable iter X.env x = pure x := by intro _; rfl) : LcV X elt (.Name x px) iter [cnd] scope σ H ((xs.filter c).map f) :=
  lcv_gen (xs := xs) (enc := enc) (f := f) (c := c) (elt := elt) own hc hN (pi_tup pe_ew) (by have := src_T hi; rw [List.length_map] at this; exact this) ok hg pts_blk hl (fun a ha _ => ht a ha)
    (fun a ha v H1 k r F hF => hF _ (hw v) (fun Q q s H0 C cl fp => (hcn a ha v H1 k r s H0 C cl fp).go q) fun h => he a ha v H1 k r h) hf
/-- [elt for x in l], l a list -/
theorem lcv_L (own : List (Str × Nat)) (j : Nat) (hc : X.calm = true) (hN : X.N.Nodup) (hi : Ev X iter σ H (.list (xs.map enc))) (ok : BlkOk X.N X.env.scope scope own) (hl : xs.length ≤ 100000) (ht : ∀ a ∈ xs, tupOnly (f a) = true)
    (he : ∀ a ∈ xs, ∀ v H1, Same H H1 → Dp X.K H1 v (enc a) → Blk X scope fun Y => Ev Y elt ((wipe σ (own.map (·.2))).set j (some v)) H1 (f a))
    (hg : Blk X scope fun Y => PG Y (.Name x px) (gName j) := by exact fun _ _ _ _ _ => g_name _ (by assumption)) (hw : ∀ v, wipe ((wipe σ (own.map (·.2))).set j (some v)) (own.map (·.2)) = wipe σ (own.map (·.2)) := by intro _; rfl)
    (hf : ∀ x, foldedSetIterable iter X.env x = pure x := by intro _; rfl) : LcV X elt (.Name x px) iter [] scope σ H (xs.map f) := by
  have q := lcv_gen (xs := xs) (enc := enc) (f := f) (c := fun _ => true) (elt := elt) own hc hN (pi_list pe_ew) (by have := src_L hi; rw [List.length_map] at this; exact this) ok hg pts0_blk hl (fun a ha _ => ht a ha)
    (fun a ha v H1 k r F hF => hF _ (hw v) (fun Q q => q H1 (Same.refl _)) fun _ => he a ha v H1 k r) hf
  rw [filter_true'] at q
  exact q
theorem lcv_Lif (own : List (Str × Nat)) (j : Nat) (hc : X.calm = true) (hN : X.N.Nodup) (hi : Ev X iter σ H (.list (xs.map enc))) (ok : BlkOk X.N X.env.scope scope own) (hl : xs.length ≤ 100000) (ht : ∀ a ∈ xs, tupOnly (f a) = true)
    (hcn : ∀ a ∈ xs, ∀ v H1, Same H H1 → Dp X.K H1 v (enc a) → Blk X scope fun Y => Tv Y cnd ((wipe σ (own.map (·.2))).set j (some v)) H1 (c a))
    (he : ∀ a ∈ xs, ∀ v H1, Same H H1 → Dp X.K H1 v (enc a) → c a = true → Blk X scope fun Y => Ev Y elt ((wipe σ (own.map (·.2))).set j (some v)) H1 (f a))
    (hg : Blk X scope fun Y => PG Y (.Name x px) (gName j) := by exact fun _ _ _ _ _ => g_name _ (by assumption)) (hw : ∀ v, wipe ((wipe σ (own.map (·.2))).set j (some v)) (own.map (·.2)) = wipe σ (own.map (·.2)) := by intro _; rfl)
    (hf : ∀ x, foldedSetIterable iter X.env x = pure x := by intro _; rfl) : LcV X elt (.Name x px) iter [cnd] scope σ H ((xs.filter c).map f) :=
  lcv_gen (xs := xs) (enc := enc) (f := f) (c := c) (elt := elt) own hc hN (pi_list pe_ew) (by have := src_L hi; rw [List.length_map] at this; exact this) ok hg pts_blk hl (fun a ha _ => ht a ha)
    (fun a ha v H1 k r F hF => hF _ (hw v) (fun Q q s H0 C cl fp => (hcn a ha v H1 k r s H0 C cl fp).go q) fun h => he a ha v H1 k r h) hf
/-- [elt for x in range(n)] -/
theorem src_R' {e : Expr} {n : Nat} (hi : Ev X e σ H (pn n)) (hn : n < 2 ^ 62) (hst : starEach [e] X.env = (false, eval e X.env) :: starEach [] X.env := by rfl) : Src (iRng1 (AW X [e])) σ H (List.range n).length fun i x H' => ∃ d, ((List.range n).map pn)[i]? = some d ∧ Dp X.K H' x d := by
  rw [List.length_range]
  intro H1 k1 R h
  refine src_R hi hn hst H1 k1 R fun J H2 k2 hJ => h J H2 k2 fun Hc kc => ⟨(hJ Hc kc).1, fun i hi => ⟨((hJ Hc kc).2 i hi).1, fun x H' y => ?_⟩⟩
  obtain ⟨a, b⟩ := ((hJ Hc kc).2 i hi).2 x H' y
  exact ⟨a, pn i, by simp [hi], by rw [b]; exact .int _⟩
theorem src_R2' {e e2 : Expr} {n m : Nat} (hi : Ev X e σ H (pn n)) (hi2 : Ev X e2 σ H (pn m)) (hn : n < 2 ^ 62) (hm : m < 2 ^ 62) (hst : starEach [e, e2] X.env = (false, eval e X.env) :: starEach [e2] X.env := by rfl) (hst2 : starEach [e2] X.env = (false, eval e2 X.env) :: starEach [] X.env := by rfl) :
    Src (iRng2 (AW X [e, e2])) σ H (List.range' n (m - n)).length fun i x H' => ∃ d, ((List.range' n (m - n)).map pn)[i]? = some d ∧ Dp X.K H' x d := by
  rw [List.length_range']
  intro H1 k1 R h
  refine src_R2 hi hi2 hn hm hst hst2 H1 k1 R fun J H2 k2 hJ => h J H2 k2 fun Hc kc => ⟨(hJ Hc kc).1, fun i hi => ⟨((hJ Hc kc).2 i hi).1, fun x H' y => ?_⟩⟩
  obtain ⟨a, b⟩ := ((hJ Hc kc).2 i hi).2 x H' y
  exact ⟨a, pn (n + i), by simp [List.getElem?_range', hi], by rw [b]; exact .int _⟩
variable {e e2 : Expr} {n m : Nat} {fn : Nat → D0} {cn : Nat → Bool} {p p' : Pos}
theorem lcv_R (own : List (Str × Nat)) (j : Nat) (hc : X.calm = true) (hN : X.N.Nodup) (hm : X.mg "range" = none) (hi : Ev X e σ H (pn n)) (ok : BlkOk X.N X.env.scope scope own) (hl : n ≤ 100000) (ht : ∀ a, a < n → tupOnly (fn a) = true)
    (he : ∀ a, a < n → ∀ H1, Same H H1 → Blk X scope fun Y => Ev Y elt ((wipe σ (own.map (·.2))).set j (some (.int (a : Int)))) H1 (fn a))
    (hg : Blk X scope fun Y => PG Y (.Name x px) (gName j) := by exact fun _ _ _ _ _ => g_name _ (by assumption)) (hw : ∀ v, wipe ((wipe σ (own.map (·.2))).set j (some v)) (own.map (·.2)) = wipe σ (own.map (·.2)) := by intro _; rfl)
    (hgl : Gl X "range" := by rfl) (hst : starEach [e] X.env = (false, eval e X.env) :: starEach [] X.env := by rfl) (hf : ∀ x, foldedSetIterable (.Call (.Name "range" p) [e] [] p') X.env x = pure x := by intro _; rfl) : LcV X elt (.Name x px) (.Call (.Name "range" p) [e] [] p') [] scope σ H ((List.range n).map fn) := by
  have q := lcv_gen (xs := List.range n) (enc := pn) (f := fn) (c := fun _ => true) (elt := elt) own hc hN (pi_range1 hgl hm pa_aw hst) (src_R' hi (by omega) hst) ok hg pts0_blk (by rw [List.length_range]; exact hl) (fun a ha _ => ht a (List.mem_range.mp ha))
    (fun a ha v H1 k r F hF => hF _ (hw v) (fun Q q => q H1 (Same.refl _)) fun _ => by rw [dp_int r]; exact he a (List.mem_range.mp ha) H1 k) hf
  rw [filter_true'] at q
  exact q
theorem lcv_Rif (own : List (Str × Nat)) (j : Nat) (hc : X.calm = true) (hN : X.N.Nodup) (hm : X.mg "range" = none) (hi : Ev X e σ H (pn n)) (ok : BlkOk X.N X.env.scope scope own) (hl : n ≤ 100000) (ht : ∀ a, a < n → tupOnly (fn a) = true)
    (hcn : ∀ a, a < n → ∀ H1, Same H H1 → Blk X scope fun Y => Tv Y cnd ((wipe σ (own.map (·.2))).set j (some (.int (a : Int)))) H1 (cn a))
    (he : ∀ a, a < n → ∀ H1, Same H H1 → cn a = true → Blk X scope fun Y => Ev Y elt ((wipe σ (own.map (·.2))).set j (some (.int (a : Int)))) H1 (fn a))
    (hg : Blk X scope fun Y => PG Y (.Name x px) (gName j) := by exact fun _ _ _ _ _ => g_name _ (by assumption)) (hw : ∀ v, wipe ((wipe σ (own.map (·.2))).set j (some v)) (own.map (·.2)) = wipe σ (own.map (·.2)) := by intro _; rfl)
    (hgl : Gl X "range" := by rfl) (hst : starEach [e] X.env = (false, eval e X.env) :: starEach [] X.env := by rfl) (hf : ∀ x, foldedSetIterable (.Call (.Name "range" p) [e] [] p') X.env x = pure x := by intro _; rfl) : LcV X elt (.Name x px) (.Call (.Name "range" p) [e] [] p') [cnd] scope σ H (((List.range n).filter cn).map fn) :=
  lcv_gen (xs := List.range n) (enc := pn) (f := fn) (c := cn) (elt := elt) own hc hN (pi_range1 hgl hm pa_aw hst) (src_R' hi (by omega) hst) ok hg pts_blk (by rw [List.length_range]; exact hl) (fun a ha _ => ht a (List.mem_range.mp ha))
    (fun a ha v H1 k r F hF => hF _ (hw v) (fun Q q s H0 C cl fp => (by rw [dp_int r]; exact (hcn a (List.mem_range.mp ha) H1 k s H0 C cl fp).go q)) fun h => by rw [dp_int r]; exact he a (List.mem_range.mp ha) H1 k h) hf
theorem lcv_R2 (own : List (Str × Nat)) (j : Nat) (hc : X.calm = true) (hN : X.N.Nodup) (hmg : X.mg "range" = none) (hi : Ev X e σ H (pn n)) (hi2 : Ev X e2 σ H (pn m)) (ok : BlkOk X.N X.env.scope scope own) (hl1 : n ≤ 100000) (hl : m ≤ 100000) (ht : ∀ a, n ≤ a → a < m → tupOnly (fn a) = true)
    (he : ∀ a, n ≤ a → a < m → ∀ H1, Same H H1 → Blk X scope fun Y => Ev Y elt ((wipe σ (own.map (·.2))).set j (some (.int (a : Int)))) H1 (fn a))
    (hg : Blk X scope fun Y => PG Y (.Name x px) (gName j) := by exact fun _ _ _ _ _ => g_name _ (by assumption)) (hw : ∀ v, wipe ((wipe σ (own.map (·.2))).set j (some v)) (own.map (·.2)) = wipe σ (own.map (·.2)) := by intro _; rfl)
    (hgl : Gl X "range" := by rfl) (hst : starEach [e, e2] X.env = (false, eval e X.env) :: starEach [e2] X.env := by rfl) (hst2 : starEach [e2] X.env = (false, eval e2 X.env) :: starEach [] X.env := by rfl) (hf : ∀ x, foldedSetIterable (.Call (.Name "range" p) [e, e2] [] p') X.env x = pure x := by intro _; rfl) : LcV X elt (.Name x px) (.Call (.Name "range" p) [e, e2] [] p') [] scope σ H ((List.range' n (m - n)).map fn) := by
  have mem : ∀ a, a ∈ List.range' n (m - n) → n ≤ a ∧ a < m := fun a ha => by
    have := List.mem_range'_1.mp ha
    omega
  have q := lcv_gen (xs := List.range' n (m - n)) (enc := pn) (f := fn) (c := fun _ => true) (elt := elt) own hc hN (pi_range2 hgl hmg pa_aw (by rw [hst, hst2]; rfl) hst2) (src_R2' hi hi2 (by omega) (by omega) hst hst2) ok hg pts0_blk (by rw [List.length_range']; omega) (fun a ha _ => ht a (mem a ha).1 (mem a ha).2)
    (fun a ha v H1 k r F hF => hF _ (hw v) (fun Q q => q H1 (Same.refl _)) fun _ => by rw [dp_int r]; exact he a (mem a ha).1 (mem a ha).2 H1 k) hf
  rw [filter_true'] at q
  exact q
theorem lcv_R2if (own : List (Str × Nat)) (j : Nat) (hc : X.calm = true) (hN : X.N.Nodup) (hmg : X.mg "range" = none) (hi : Ev X e σ H (pn n)) (hi2 : Ev X e2 σ H (pn m)) (ok : BlkOk X.N X.env.scope scope own) (hl1 : n ≤ 100000) (hl : m ≤ 100000) (ht : ∀ a, n ≤ a → a < m → tupOnly (fn a) = true)
    (hcn : ∀ a, n ≤ a → a < m → ∀ H1, Same H H1 → Blk X scope fun Y => Tv Y cnd ((wipe σ (own.map (·.2))).set j (some (.int (a : Int)))) H1 (cn a))
    (he : ∀ a, n ≤ a → a < m → ∀ H1, Same H H1 → cn a = true → Blk X scope fun Y => Ev Y elt ((wipe σ (own.map (·.2))).set j (some (.int (a : Int)))) H1 (fn a))
    (hg : Blk X scope fun Y => PG Y (.Name x px) (gName j) := by exact fun _ _ _ _ _ => g_name _ (by assumption)) (hw : ∀ v, wipe ((wipe σ (own.map (·.2))).set j (some v)) (own.map (·.2)) = wipe σ (own.map (·.2)) := by intro _; rfl)
    (hgl : Gl X "range" := by rfl) (hst : starEach [e, e2] X.env = (false, eval e X.env) :: starEach [e2] X.env := by rfl) (hst2 : starEach [e2] X.env = (false, eval e2 X.env) :: starEach [] X.env := by rfl) (hf : ∀ x, foldedSetIterable (.Call (.Name "range" p) [e, e2] [] p') X.env x = pure x := by intro _; rfl) : LcV X elt (.Name x px) (.Call (.Name "range" p) [e, e2] [] p') [cnd] scope σ H (((List.range' n (m - n)).filter cn).map fn) := by
  have mem : ∀ a, a ∈ List.range' n (m - n) → n ≤ a ∧ a < m := fun a ha => by
    have := List.mem_range'_1.mp ha
    omega
  exact lcv_gen (xs := List.range' n (m - n)) (enc := pn) (f := fn) (c := cn) (elt := elt) own hc hN (pi_range2 hgl hmg pa_aw (by rw [hst, hst2]; rfl) hst2) (src_R2' hi hi2 (by omega) (by omega) hst hst2) ok hg pts_blk (by rw [List.length_range']; omega) (fun a ha _ => ht a (mem a ha).1 (mem a ha).2)
    (fun a ha v H1 k r F hF => hF _ (hw v) (fun Q q s H0 C cl fp => (by rw [dp_int r]; exact (hcn a (mem a ha).1 (mem a ha).2 H1 k s H0 C cl fp).go q)) fun h => by rw [dp_int r]; exact he a (mem a ha).1 (mem a ha).2 H1 k h) hf
/-- pairs as items, any source -/
theorem lcv_two {β : Type} {enc2 : α → D0} {tg iter : Expr} {ifs : List Expr} (own : List (Str × Nat)) (i j : Nat) {wi : TI} {tt : TT} (hc : X.calm = true) (hN : X.N.Nodup) (hi : PI X tg iter wi)
    (hs : Src wi σ H xs.length fun i x H' => ∃ d, (xs.map fun a => PyData.tuple [enc a, enc2 a])[i]? = some d ∧ Dp X.K H' x d) (ok : BlkOk X.N X.env.scope scope own) (hg : Blk X scope fun Y => PG Y tg (g2 X.K i j)) (hpt : Blk X scope fun Y => PTs Y ifs tt) (hl : xs.length ≤ 100000)
    (ht : ∀ a ∈ xs, c a = true → tupOnly (f a) = true)
    (htt : ∀ a ∈ xs, ∀ v w H1, Same H H1 → Dp X.K H1 v (enc a) → Dp X.K H1 w (enc2 a) → ∀ Q : Bool → Hp → Prop, (∀ H2, Same H1 H2 → Q (c a) H2) → tt (((wipe σ (own.map (·.2))).set i (some v)).set j (some w)) H1 Q)
    (he : ∀ a ∈ xs, ∀ v w H1, Same H H1 → Dp X.K H1 v (enc a) → Dp X.K H1 w (enc2 a) → c a = true → Blk X scope fun Y => Ev Y elt (((wipe σ (own.map (·.2))).set i (some v)).set j (some w)) H1 (f a))
    (hw : ∀ v w, wipe (((wipe σ (own.map (·.2))).set i (some v)).set j (some w)) (own.map (·.2)) = wipe σ (own.map (·.2)) := by intro _ _; rfl)
    (hf : ∀ x, foldedSetIterable iter X.env x = pure x := by intro _; rfl) : LcV X elt tg iter ifs scope σ H ((xs.filter c).map f) :=
  lcv_gen (xs := xs) (f := f) (c := c) (elt := elt) own hc hN hi hs ok hg hpt hl ht
    (fun a ha v H1 k r F hF => g2_go r fun v1 v2 r1 r2 => hF _ (hw v1 v2) (fun Q q => htt a ha v1 v2 H1 k r1 r2 Q q) fun h => he a ha v1 v2 H1 k r1 r2 h) hf
end
end SO
set_option Elab.async false
set_option linter.all false
set_option maxRecDepth 100000
set_option maxHeartbeats 4000000
/-! So05: rules by values that the layer lacks: t.index(n) of whole numbers, xs.extend(tuple), d.pop(k) of tuple keys, data against each other. -/
namespace SO
open PySem PySem.Spec PyProof.Rows L2
section
variable {X : Cx}
theorem flat_ints (ys : List Int) : (ys.map V.int).all flatV = true := by
  rw [List.all_map]
  exact List.all_eq_true.mpr fun _ _ => rfl
/-- t.index(n), t a tuple of whole numbers: the first place -/
theorem mt_tupIx : MtR X "tuple.index" (fun x xs H Q => ∃ (p : Addr) (ys : List Int) (z : Int) (j : Nat), x = .ref p ∧ xs = [.int z] ∧ SqT X.K H p (ys.map V.int) ∧ ys[j]? = some z ∧ (∀ m, m < j → ys[m]? ≠ some z) ∧ Q (.int (j : Nat)) H) := fun pins s σ H x xs v us Q I rx rs h => by
  obtain ⟨p, ys, z, j, rfl, rfl, hq, hy, hno, q⟩ := h
  cases rx
  obtain ⟨u, rfl, t, rfl⟩ := vals1 rs
  obtain ⟨its, r, ⟨⟨cls, dd, dt, sl⟩, ho, hc, n, hd⟩, hz⟩ := I.tuple hq
  simp only at hc hd
  subst hc; subst hd
  have hl : its.toArray.size = ys.length := by rw [List.size_toArray, ← r.length, List.length_map]
  have here : ∀ (m : Nat) (hm : m < its.toArray.size), ∃ y t', ys[m]? = some y ∧ its.toArray[m] = Value.int y t' := fun m hm => by
    obtain ⟨w, hw, t', e⟩ := r.get (i := m) (x := .int (ys[m]'(by rw [← hl]; exact hm))) (by simp [← hl])
    exact ⟨_, t', List.getElem?_eq_getElem (by rw [← hl]; exact hm), by rw [← e, ← (List.getElem?_eq_some_iff.mp hw).2]; simp⟩
  have hj : j < its.toArray.size := by rw [hl]; exact (List.getElem?_eq_some_iff.mp hy).1
  refine call_meets PySem.F.slot_tuple_index ⟨_, ho, rfl⟩ PySem.F.entry_tuple_index (PySem.F.args_tuple_index_2 _ _)
    (TI.tuple_indexAt p its.toArray n dd sl (.int z t) (eqU (.int z)) j hj ?_ fun m hm hmj => ?_) ⟨ho, fun w hw => mem_eqAt (x := .int z) ⟨t, rfl⟩ rfl r (flat_ints ys) w (by simpa using hw), ⟨.int (j : Nat), H, I.tok _, ⟨_, rfl⟩, q⟩⟩
  · obtain ⟨y, t', h1, h2⟩ := here j hj
    rw [hy] at h1
    cases h1
    rw [h2]
    show eqV (.int z) (.int z) = true
    exact beq_self_eq_true z
  · obtain ⟨y, t', h1, h2⟩ := here m hm
    rw [h2]
    show eqV (.int y) (.int z) = false
    exact beq_eq_false_iff_ne.mpr fun e => hno m hmj (e ▸ h1)
theorem ext_tup (l : Addr) (items : Array Value) (n : Nat) (b : Addr) (items2 : Array Value) (n2 : Nat) (dd : Option Addr) (sl : Array (Option Value)) (few : ¬(!items.isEmpty && Builtin.List.listTooLong (items.size + items2.size)) = true) (h1 : items.size ≤ sizeLine) (h2 : items.size + items2.size ≤ sizeLine) :
    Meets (Builtin.«list.extend» ⟨[.ref l, .ref b], []⟩) (fun _ R s => s.heap.get? l = some { cls := .type "list", data := .seq items n } ∧ s.heap.get? b = some { cls := .type "tuple", dict := dd, data := .seq items2 n2, slots := sl } ∧ R (.ok (.ret Value.none)) { s with heap := s.heap.update l (Obj.mapSeq fun x => x ++ items2) }) :=
  .of_wp fun prog w A R s h => by
    obtain ⟨hp, g, d, tk, os⟩ := s
    obtain ⟨hl, hb, h⟩ := h
    have f1 := AutoSeq1.sub_tuple_tuple; have f2 := AutoSeq1.sub_list_list; have f3 := AutoSeq1.sub_tuple_list; have f4 := AutoSeq1.sub_list_tuple
    have z : (items ++ items2).size ≤ sizeLine + 1 := by rw [Array.size_append]; omega
    wp_walk using (wpAny_updateSeq hl rfl (hz := h1) (_hz' := z)), AutoSeq1.wpAny_loadPart' hl, AutoSeq1.wpAny_loadPart' hb
    exact ⟨_, rfl, h⟩
/-- xs.extend(t), t a tuple -/
def rExtT (K : PySem.W.Frag) : V → List V → Hp → VK → Prop := fun x vs H Q => ∃ l b xs zs, x = .ref l ∧ vs = [.ref b] ∧ H l = some (.lst xs) ∧ SqT K H b zs ∧ xs.length + zs.length ≤ sizeLine ∧ Q .non (upd H l (.lst (xs ++ zs)))
theorem mt_extT : MtR X "list.extend" (rExtT X.K) := fun pins s σ H x vs v us Q I rx rv h => by
  obtain ⟨l, b, xs, zs, rfl, rfl, hH, hB, hz, q⟩ := h
  cases rx
  obtain ⟨u, rfl, ru⟩ := vals1 rv
  cases ru
  obtain ⟨z, its, n, r, hl, e⟩ := I.lstM hH
  obtain ⟨its2, r2, ⟨⟨cls, dd, dt, sl⟩, ho, hc, n2, hd⟩, _⟩ := I.tuple hB
  simp only at hc hd
  subst hc; subst hd
  have l2 := r2.length
  have hsz : its.toArray.size + its2.toArray.size ≤ sizeLine := by rw [List.size_toArray, List.size_toArray]; omega
  have few : ¬ (!its.toArray.isEmpty && Builtin.List.listTooLong (its.toArray.size + its2.toArray.size)) = true := by rw [notLongL hsz, Bool.and_false]; exact Bool.false_ne_true
  refine call_meets PySem.F.slot_list_extend ⟨_, e, rfl⟩ PySem.F.entry_list_extend (PySem.F.args_list_extend_2 _ _) (ext_tup l its.toArray n b its2.toArray n2 dd sl few (by rw [List.size_toArray]; omega) hsz) ⟨e, ho, ?_⟩
  exact ⟨.non, _, I.lset (its' := its ++ its2) hH e (by simp) (r.append r2) (by rw [List.length_append]; omega), rfl, q⟩
/-- d.pop(k), k a tuple that is there -/
def rPop1T : V → List V → Hp → VK → Prop := fun x xs H Q => ∃ (a : Addr) (kvs : List (List L2.Key × V)) (k : List L2.Key) (b : Addr) (v : V), x = .ref a ∧ xs = [.ref b] ∧ H a = some (.dT kvs) ∧ H b = some (.tup (k.map kV)) ∧ valV kvs k = some v ∧ Q v (upd H a (.dT (dropK kvs k)))
theorem mt_pop1T (hu : X.A.units + 1 < cLine) : MtR X "dict.pop" rPop1T := fun pins s σ H x xs v us Q I rx rxs h => by
  obtain ⟨a, kvs, k, b, y, rfl, rfl, ha, hb, hv, q⟩ := h
  cases rx
  obtain ⟨u1, rfl, r1⟩ := vals1 rxs
  cases r1
  obtain ⟨z, hd, xs', rel, dd⟩ := dt_of I.hok ha
  have hz : xs'.length ≤ sizeLine := by rw [← Paired.length rel]; exact z
  have r := rel.val k
  rw [hv] at r
  obtain ⟨p, hp, rv⟩ : ∃ p, atKey xs' k = some p ∧ RelV y p.2 := by
    cases e : atKey xs' k with
    | none => rw [e] at r; exact (show False from r).elim
    | some p => rw [e] at r; exact ⟨p, rfl, r⟩
  refine call_pop_heap (more := []) (hsz := hz) (.inl rfl) (PySem.F.args_dict_pop_2 _ _) (tupleKind_room_in1 hu) (key_of I.hok hb) hd dd hp fun h' dd' hs => ?_
  obtain ⟨o, es, ep, hq, h2, h3, h4, _, h5⟩ := dd'
  exact ⟨y, upd H a (.dT (dropK kvs k)), d_write I (by rw [ha]; exact True.intro) hs ⟨o, hq⟩ ⟨Nat.le_trans (dropK_le kvs k) z, hd, _, (DX.KT_drop k rel).keeps (fun c ys ec => (by rw [upd_ne (ne_of ec ha (fun z => nomatch z))]; exact ec)), o, es, ep, hq, h2, h3, h4, h5⟩, rv, q⟩
end
/-! ### data of small depth, compared -/
def Fl (n : Nat) (d : D0) : Prop := d.canLay0 = true ∧ d.depth ≤ n
theorem fl_all {n : Nat} : ∀ {ds : List D0}, (∀ d ∈ ds, Fl n d) → PyData.canLayAll0 ds = true ∧ PyData.depthAll ds ≤ n
  | [], _ => ⟨rfl, Nat.zero_le _⟩
  | d :: ds, h => by
    obtain ⟨h1, h2⟩ := fl_all (ds := ds) fun x hx => h x (List.mem_cons_of_mem _ hx)
    obtain ⟨h3, h4⟩ := h d List.mem_cons_self
    refine ⟨?_, ?_⟩
    · rw [PyData.canLayAll0, h3, h1]; rfl
    · rw [PyData.depthAll]; exact Nat.max_le.mpr ⟨h4, h2⟩
theorem fl_tup {n : Nat} {ds : List D0} (h : ∀ d ∈ ds, Fl n d) : Fl (n + 1) (.tuple ds) := by
  obtain ⟨h1, h2⟩ := fl_all h
  exact ⟨by rw [PyData.canLay0]; exact h1, by rw [PyData.depth]; omega⟩
theorem fl_lst {n : Nat} {ds : List D0} (h : ∀ d ∈ ds, Fl n d) : Fl (n + 1) (.list ds) := by
  obtain ⟨h1, h2⟩ := fl_all h
  exact ⟨by rw [PyData.canLay0]; exact h1, by rw [PyData.depth]; omega⟩
theorem fl_int {n : Nat} {i : Int} : Fl n (.int i) := ⟨rfl, Nat.zero_le _⟩
theorem fl_str {n : Nat} {i : Str} (h : (PyData.str i).canLay0 = true) : Fl n (.str i) := ⟨h, Nat.zero_le _⟩
theorem fl_non {n : Nat} : Fl n .none := ⟨rfl, Nat.zero_le _⟩
theorem fl_bool {n : Nat} {b : Bool} : Fl n (.bool b) := ⟨rfl, Nat.zero_le _⟩
theorem fl_mono {n m : Nat} {d : D0} (h : Fl n d) (k : n ≤ m) : Fl m d := ⟨h.1, Nat.le_trans h.2 k⟩
theorem fl_ints {n : Nat} {ns : List Int} : Fl (n + 1) (pis ns) := fl_tup fun d hd => by
  obtain ⟨i, _, rfl⟩ := List.mem_map.mp hd
  exact fl_int
theorem fl_nats {n : Nat} {ns : List Nat} : Fl (n + 1) (pns ns) := fl_tup fun d hd => by
  obtain ⟨i, _, rfl⟩ := List.mem_map.mp hd
  exact fl_int
theorem fl_part {n : Nat} {p : Part} : Fl (n + 2) (pp p) := fl_tup fun d hd => by
  rcases List.mem_cons.mp hd with rfl | hd
  · exact fl_nats
  · rw [List.mem_singleton.mp hd]; exact fl_ints
theorem fl_shaped {n : Nat} {d : D0} (h : Fl n d) (hn : n ≤ 64 := by decide) : SeqAt.shaped d = true := by
  unfold SeqAt.shaped
  rw [h.1, decide_eq_true (Nat.le_trans h.2 hn)]
  rfl
theorem eqv_self {n : Nat} {d : D0} (h : Fl n d) : PyData.eqv d d = true := SeqAt.eqv_refl d h.1
theorem eqv_nil {ds : List D0} : PyData.eqv (.list ds) (.list []) = ds.isEmpty := by
  cases ds <;> rfl
section
variable {X : Cx} {a b : Expr} {σ : L2.St} {H : Hp} {pos : Pos} {d d1 d2 : D0}
theorem rd_eqD {K : PySem.W.Frag} {n : Nat} (h1 : Fl n d1) (h2 : Fl n d2) (hn : n ≤ 64 := by decide) : RD K (rEqD K) H d1 d2 (.bool (PyData.eqv d1 d2)) := fun x y H1 k rx ry Q q => ⟨d1, d2, rx, ry, fl_shaped h1 hn, fl_shaped h2 hn, q _ H1 (Same.refl _) (.bl _)⟩
theorem rd_neD {K : PySem.W.Frag} {n : Nat} (h1 : Fl n d1) (h2 : Fl n d2) (hn : n ≤ 64 := by decide) : RD K (rNeD K) H d1 d2 (.bool (!PyData.eqv d1 d2)) := fun x y H1 k rx ry Q q => ⟨d1, d2, rx, ry, fl_shaped h1 hn, fl_shaped h2 hn, q _ H1 (Same.refl _) (.bl _)⟩
theorem tv_eqD {k n : Nat} (hr : Room k X.A) (ha : Ev X a σ H d1) (hb : Ev X b σ H d2) (h1 : Fl n d1) (h2 : Fl n d2) (hn : n ≤ 64 := by decide) : Tv X (.Compare a [.Eq] [b] pos) σ H (PyData.eqv d1 d2) := tv_cmp (op_eqD hr.units) ha hb (rd_eqD h1 h2 hn)
theorem tv_neD {k n : Nat} (hr : Room k X.A) (ha : Ev X a σ H d1) (hb : Ev X b σ H d2) (h1 : Fl n d1) (h2 : Fl n d2) (hn : n ≤ 64 := by decide) : Tv X (.Compare a [.NotEq] [b] pos) σ H (!PyData.eqv d1 d2) := tv_cmp (op_neD hr.units) ha hb (rd_neD h1 h2 hn)
theorem ev_eqD {k n : Nat} (hr : Room k X.A) (ha : Ev X a σ H d1) (hb : Ev X b σ H d2) (h1 : Fl n d1) (h2 : Fl n d2) (hn : n ≤ 64 := by decide) : Ev X (.Compare a [.Eq] [b] pos) σ H (.bool (PyData.eqv d1 d2)) := ev_cmp (op_eqD hr.units) ha hb (rd_eqD h1 h2 hn)
end
/-! ### membership in flat data -/
theorem inV_ints {z : Int} : ∀ {ys : List Int}, inV (.int z) (ys.map V.int) = decide (z ∈ ys)
  | [] => rfl
  | y :: ys => by
    have ih := inV_ints (z := z) (ys := ys)
    unfold inV at ih ⊢
    rw [List.map_cons, List.any_cons, ih]
    show ((y == z) || _) = _
    by_cases e : y = z
    · subst e; simp
    · have e2 : ¬ z = y := fun h => e h.symm
      simp [e, e2]
theorem mem_zs {n : Nat} {ns : List Nat} : ((n : Int) ∈ zs ns) ↔ n ∈ ns := by
  unfold zs
  rw [List.mem_map]
  exact ⟨fun ⟨a, h, e⟩ => by rw [← Int.ofNat.inj e]; exact h, fun h => ⟨n, h, rfl⟩⟩
section
variable {X : Cx} {a b : Expr} {σ : L2.St} {H : Hp} {pos : Pos} {z : Int} {ys : List Int}
theorem rd_inT {K : PySem.W.Frag} {neg : Bool} : RD K (rIn K neg) H (.int z) (pis ys) (.bool (if neg then !decide (z ∈ ys) else decide (z ∈ ys))) := fun x y H1 k rx ry Q q => by
  obtain ⟨a, xs, rfl, h1, h2⟩ := dp_tup ry
  rw [dp_int rx]
  have e := dpa_ints h2
  subst e
  refine ⟨a, _, rfl, .inr h1, rfl, flat_ints ys, ?_⟩
  rw [inV_ints]
  exact q _ H1 (Same.refl _) (.bl _)
theorem rd_inL {K : PySem.W.Frag} {neg : Bool} : RD K (rIn K neg) H (.int z) (.list (ys.map PyData.int)) (.bool (if neg then !decide (z ∈ ys) else decide (z ∈ ys))) := fun x y H1 k rx ry Q q => by
  obtain ⟨a, xs, rfl, h1, h2⟩ := dp_lst ry
  rw [dp_int rx]
  have e := dpa_ints h2
  subst e
  refine ⟨a, _, rfl, .inl h1, rfl, flat_ints ys, ?_⟩
  rw [inV_ints]
  exact q _ H1 (Same.refl _) (.bl _)
theorem pns_pis {ns : List Nat} : pns ns = pis (zs ns) := by unfold pns pis; rw [map_pn]
theorem tv_inT {n : Nat} {ns : List Nat} (ha : Ev X a σ H (pn n)) (hb : Ev X b σ H (pns ns)) (hm : behindInMarks .In b = false := by rfl) : Tv X (.Compare a [.In] [b] pos) σ H (decide (n ∈ ns)) := by
  have h := tv_cmp (pos := pos) op_in_seq ha (hb.to pns_pis) (rd_inT (neg := false)) hm
  rw [if_neg (by decide)] at h
  simpa only [mem_zs] using h
theorem tv_notInT {n : Nat} {ns : List Nat} (ha : Ev X a σ H (pn n)) (hb : Ev X b σ H (pns ns)) (hm : behindInMarks .NotIn b = false := by rfl) : Tv X (.Compare a [.NotIn] [b] pos) σ H (!decide (n ∈ ns)) := by
  have h := tv_cmp (pos := pos) op_notIn_seq ha (hb.to pns_pis) (rd_inT (neg := true)) hm
  rw [if_pos rfl] at h
  simpa only [mem_zs] using h
theorem ev_inT {n : Nat} {ns : List Nat} (ha : Ev X a σ H (pn n)) (hb : Ev X b σ H (pns ns)) (hm : behindInMarks .In b = false := by rfl) : Ev X (.Compare a [.In] [b] pos) σ H (.bool (decide (n ∈ ns))) := by
  have h := ev_cmp (pos := pos) op_in_seq ha (hb.to pns_pis) (rd_inT (neg := false)) hm
  rw [if_neg (by decide)] at h
  simpa only [mem_zs] using h
theorem ev_inTI (ha : Ev X a σ H (.int z)) (hb : Ev X b σ H (pis ys)) (hm : behindInMarks .In b = false := by rfl) : Ev X (.Compare a [.In] [b] pos) σ H (.bool (decide (z ∈ ys))) := by
  have h := ev_cmp (pos := pos) op_in_seq ha hb (rd_inT (neg := false)) hm
  rw [if_neg (by decide)] at h
  exact h
theorem ev_inL {n : Nat} {ns : List Nat} (ha : Ev X a σ H (pn n)) (hb : Ev X b σ H (.list (ns.map pn))) (hm : behindInMarks .In b = false := by rfl) : Ev X (.Compare a [.In] [b] pos) σ H (.bool (decide (n ∈ ns))) := by
  have h := ev_cmp (pos := pos) op_in_seq ha (hb.to (by rw [map_pn])) (rd_inL (neg := false)) hm
  rw [if_neg (by decide)] at h
  simpa only [mem_zs] using h
theorem tv_inL {n : Nat} {ns : List Nat} (ha : Ev X a σ H (pn n)) (hb : Ev X b σ H (.list (ns.map pn))) (hm : behindInMarks .In b = false := by rfl) : Tv X (.Compare a [.In] [b] pos) σ H (decide (n ∈ ns)) := by
  have h := tv_cmp (pos := pos) op_in_seq ha (hb.to (by rw [map_pn])) (rd_inL (neg := false)) hm
  rw [if_neg (by decide)] at h
  simpa only [mem_zs] using h
theorem tv_notInL {n : Nat} {ns : List Nat} (ha : Ev X a σ H (pn n)) (hb : Ev X b σ H (.list (ns.map pn))) (hm : behindInMarks .NotIn b = false := by rfl) : Tv X (.Compare a [.NotIn] [b] pos) σ H (!decide (n ∈ ns)) := by
  have h := tv_cmp (pos := pos) op_notIn_seq ha (hb.to (by rw [map_pn])) (rd_inL (neg := true)) hm
  rw [if_pos rfl] at h
  simpa only [mem_zs] using h
/-- a text in a written pair of texts -/
theorem tv_inS {w : Str} {ws : List Str} (ha : Ev X a σ H (.str w)) (hb : Ev X b σ H (.tuple (ws.map PyData.str))) (hm : behindInMarks .In b = false := by rfl) : Tv X (.Compare a [.In] [b] pos) σ H (decide (w ∈ ws)) :=
  tv_cmp (pos := pos) op_in_seq ha hb (fun x y H1 k rx ry Q q => by
    obtain ⟨p, xs, rfl, h1, h2⟩ := dp_tup ry
    rw [dp_str rx]
    have e : ∀ {vs : List V} {ws : List Str}, DpAll X.K H1 vs (ws.map PyData.str) → vs = ws.map V.str := by
      intro vs ws h
      induction ws generalizing vs with
      | nil => cases h; rfl
      | cons w ws ih =>
        cases h with
        | cons h1 h2 => rw [dp_str h1, ih h2]; rfl
    have e2 := e h2
    subst e2
    refine ⟨p, _, rfl, .inr h1, rfl, flat_strs ws, ?_⟩
    have e3 : ∀ ws : List Str, inV (.str w) (ws.map V.str) = decide (w ∈ ws) := by
      intro ws
      induction ws with
      | nil => rfl
      | cons y ys ih =>
        unfold inV at ih ⊢
        rw [List.map_cons, List.any_cons, ih]
        show ((y == w) || _) = _
        by_cases e : y = w
        · subst e; simp
        · have e2 : ¬ w = y := fun h => e h.symm
          simp [e, e2]
    rw [e3]
    exact q _ H1 (Same.refl _) (.bl _)) hm
end
end SO
set_option Elab.async false
set_option linter.all false
set_option maxRecDepth 100000
set_option maxHeartbeats 4000000
/-! So06: set(..) of whole numbers, sorted of it, sorted of a pair, >= of tuples. -/
namespace SO
open PySem PySem.Spec PyProof.Rows L2
/-! ### set(l), l a list of whole numbers -/
abbrev noSet (w : World) : Obj := { cls := .type "set", dict := none, data := .set #[] 0 (.fresh 0 0 (!w.params.followText "set-order")) }
section
variable {P : Program} {w : World} {A : Around} {E : Value → Shared → Prop} {s : Shared}
theorem set_of_list {l : Addr} {items : Array Value} (ns : List Int) {Q : Value → Shared → Prop} (hh : A.handled = none) (hl : s.heap.IsList l items) (hit : IntsAre items.toList ns) (hb : ns.length + 1 < scanBound)
    (h : ∀ (h' : Heap) (tk c : Nat), SetR w h' s.heap.objs.size (fun j => decide (j ∈ ns)) c → c ≤ ns.length → (∀ b o, s.heap.get? b = some o → h'.get? b = some o) → Q (.ref s.heap.objs.size) { s with heap := h', toks := tk }) : wpAny (model P w) A (call (.type "set") [.ref l]) Q E s := by
  have hsz : items.size = ns.length := (Array.length_toList.symm.trans (IntsAre.length hit))
  obtain ⟨c, tl, hmro⟩ := F.called_set.mro
  have f1 := F.called_set.made; have f2 := F.called_set.sub
  refine wpAny_call (codeAny_of_tree (show wpAny _ _ (callAny (.type "set") _) _ _ _ from wpAny_pure ⟨Code.quiet_builtin _ (by decide +kernel), codeAny_builtin F.entry_type_call ?_⟩))
  rw [Around.under_plain (weight_type_call_type "set" [.ref l] []) rfl]
  have f3 := F.called_set.notType; have f4 := F.called_set.canCreate; have f5 := F.typeCall_set_1 (.ref l)
  repeat (any_goals (first | assumption | wp_step))
  refine codeAny_mono (code_set_led1 (.ref l) (E := E) (Q₁ := fun obj s₁ => obj = .ref s.heap.objs.size ∧ s₁ = { s with heap := s.heap.push (noSet w) }) ⟨rfl, rfl⟩) fun r s₁ hr => ?_
  cases r with
  | error e => exact hr
  | ok fl =>
    cases fl with
    | next => exact hr.elim
    | brk => exact hr.elim
    | cont => exact hr.elim
    | ret obj =>
      obtain ⟨rfl, rfl⟩ := hr
      have gS : (s.heap.push (noSet w)).get? s.heap.objs.size = some (noSet w) := Heap.get?_push_size _ rfl
      have tS : Shared.TypeIs { s with heap := s.heap.push (noSet w) } (.ref s.heap.objs.size) "set" := ⟨_, gS, rfl⟩
      have f6 := F.called_set.init.lookup; have f7 := F.called_set.init.bind (.ref s.heap.objs.size)
      repeat (any_goals (first | assumption | wp_step))
      refine codeAny_mono (codeAny_call_builtin (R := wants (fun r s₂ => r = .none ∧ ∃ h' tk c, s₂ = { s with heap := h', toks := tk } ∧ SetR w h' s.heap.objs.size (fun j => decide (j ∈ ns)) c ∧ c ≤ ns.length ∧ (∀ b o, s.heap.get? b = some o → h'.get? b = some o)) E)
        F.called_set.init.plain F.entry_set_init (check_set_init_1 tS ?_)) fun r₂ s₂ hr₂ => ?_
      · obtain ⟨⟨oc, od, odt, osl⟩, hol, hcl, nl, hdl⟩ := hl
        simp only at hcl hdl
        subst hcl; subst hdl
        have hlS : l < s.heap.objs.size := Heap.lt_size hol
        have hol' : (s.heap.push (noSet w)).get? l = some { cls := .type "list", dict := od, data := .seq items nl, slots := osl } := Heap.get?_push_of_some _ hol
        have f8 := F.sub_list_set; have f9 := F.sub_list_frozenset
        have f10 : (Value.type "list" == Value.type "dict") = false := by decide
        have hl1 : (s.heap.push (noSet w)).IsList l items := ⟨_, hol', rfl, nl, rfl⟩
        unfold Builtin.«set.__init__» noKeywords Builtin.Frozenset.updateFrom
        generalize hPI : pyIter = PI
        wp_walk
        subst hPI
        refine wpAny_pyIter_list hl1 (wpAny_bind (wpAny_runValue ?_))
        have h3 : A.in1.in1.in1.handled = none := by simp [hh]
        have neI : l ≠ (s.heap.push (noSet w)).objs.size := by rw [Heap.size_push]; exact Nat.ne_of_lt (Nat.lt_succ_of_lt hlS)
        have nSf : s.heap.objs.size ∉ [(s.heap.push (noSet w)).objs.size, l] := by
          rw [Heap.size_push]
          intro z
          rcases List.mem_cons.mp z with z | z
          · exact absurd z (Nat.ne_of_lt (Nat.lt_succ_self _))
          · exact absurd (List.mem_singleton.mp z) (Nat.ne_of_gt hlS)
        have vals : ∀ (i : Nat) (v : Value), items[i]? = some v → ∃ k t, ns[i]? = some k ∧ v = .int k t := fun i v hv => by
          have hi : i < ns.length := by rw [← hsz]; exact (Array.getElem?_eq_some_iff.mp hv).1
          obtain ⟨t, e⟩ := PyProof.Rows.IntsAre.int_at hit i v (by rw [Array.getElem?_toList]; exact hv)
          exact ⟨ns[i], t, List.getElem?_eq_getElem hi, by rw [e, List.getD_eq_getElem?_getD, List.getElem?_eq_getElem hi]; rfl⟩
        refine set_update_ints ((Walks.list h3 _ l neI items).toS) s.heap.objs.size nSf ns hsz hb vals (items.size - 0) 0 _ (by omega) (Nat.zero_le _) ⟨⟨_, Heap.get?_push_size _ rfl, rfl, rfl⟩, (hl1.push _)⟩ ⟨0, Nat.le_refl 0, setR_new_at (Heap.get?_push_of_some _ gS)⟩ fun s' c' hm hc' hS' => ?_
        obtain ⟨h', g2, d', tk', os'⟩ := s'
        obtain rfl : g2 = s.gens := hm.gens
        obtain rfl : d' = s.drawn := hm.drawn
        obtain rfl : os' = s.os := hm.os
        refine (show wpAny _ _ _ _ _ _ from wpAny_pure (show wpAny _ _ (ret Value.none) _ _ _ from wpAny_pure ⟨rfl, h', tk', c', rfl, hS', by rw [hsz] at hc'; exact hc', fun b o e => ?_⟩))
        have b0 : b < s.heap.objs.size := Heap.lt_size e
        refine hm.heap b o (fun z => ?_) (Heap.get?_push_of_some _ (Heap.get?_push_of_some _ e))
        rcases List.mem_cons.mp z with z | z
        · exact absurd z (Nat.ne_of_lt b0)
        · have z2 := List.mem_singleton.mp z
          rw [z2, Heap.size_push] at b0
          exact absurd b0 (Nat.not_lt.mpr (Nat.le_succ _))
      · cases r₂ with
        | error e => exact hr₂
        | ok fl₂ =>
          cases fl₂ with
          | next => exact hr₂.elim
          | brk => exact hr₂.elim
          | cont => exact hr₂.elim
          | ret r =>
            obtain ⟨rfl, h', tk, c', rfl, hS', hc', hk'⟩ := hr₂
            repeat (any_goals (first | assumption | wp_step))
            exact h _ _ _ hS' hc' hk'
end
section
variable {X : Cx}
/-- a new set of the whole numbers of a list or tuple -/
def rSetI (K : PySem.W.Frag) (w : World) : List V → Hp → VK → Prop := fun xs H Q => ∃ (p : Addr) (ns : List Int), xs = [.ref p] ∧ (SqL K H p (ns.map V.int) ∨ SqT K H p (ns.map V.int)) ∧ ns.length ≤ 1000 ∧ ∀ a c, H a = none → c ≤ ns.length → Q (.ref a) (upd H a (SetO w a (fun j => decide (j ∈ ns)) c))
theorem cr_setI (hc : X.calm = true) : CallR X (.type "set") (rSetI X.K X.w) := fun pins s σ H xs us Q I r h => by
  obtain ⟨p, ns, rfl, hq, hl, q⟩ := h
  obtain ⟨u, rfl, ru⟩ := vals1 r
  cases ru
  have hd := I.ok.hd hc
  have fin : ∀ (h' : Heap) (tk c : Nat), SetR X.w h' s.heap.objs.size (fun j => decide (j ∈ ns)) c → c ≤ ns.length → (∀ b o, s.heap.get? b = some o → h'.get? b = some o) → EP X pins σ Q (.ref s.heap.objs.size) { s with heap := h', toks := tk } := fun h' tk c R1 hcn k =>
    ⟨.ref s.heap.objs.size, _, I.laid (t' := tk) k (Nat.le_refl _) (setO_new R1), rfl, q _ c (I.hok.fresh (Nat.le_refl _)) hcn⟩
  rcases hq with hq | hq
  · obtain ⟨its, rv, pt, hz⟩ := I.list hq
    exact set_of_list ns hd pt.isList (ints_of_vals rv) (by unfold scanBound; omega) fin
  · obtain ⟨its, rv, pt, hz⟩ := I.tuple hq
    exact call_set_tupI ns hd (show s.heap.IsTuple p its.toArray from pt) (ints_of_vals rv) (by unfold scanBound; omega) fin
/-- sorted(t) of a tuple of few whole numbers -/
def rSrtT (K : PySem.W.Frag) : List V → Hp → VK → Prop := fun xs H Q => ∃ (p : Addr) (ns : List Int), xs = [.ref p] ∧ SqT K H p (ns.map V.int) ∧ ns.length < 64 ∧ ∀ (ns' : List Int) (a : Addr), ns'.Perm ns → ns'.Pairwise (· ≤ ·) → H a = none → Q (.ref a) (upd H a (.lst (ns'.map V.int)))
theorem cr_srtT : CallR X (.builtin "sorted") (rSrtT X.K) := fun pins s σ H xs us Q I r h => by
  obtain ⟨p, ns, rfl, hq, h64, q⟩ := h
  obtain ⟨u, rfl, ru⟩ := vals1 r
  cases ru
  obtain ⟨its, rv, ⟨o, ho, hcl, n, hd⟩, hz⟩ := I.tuple hq
  have hI : IntsAre its ns := ints_of_vals rv
  have hl : its.length = ns.length := hI.length
  refine Calls.call_function_entry kind_sorted plain_sorted entry_sorted (args_sorted1 _) ?_
  unfold Builtin.«sorted»
  refine wpAny_bind (m := checkCount "sorted" 1 1 _) (wpAny_pure (wpAny_bind (wpAny_collect_seq p (.inr rfl) ho hcl hd (fun h' k => ?_) (by rw [List.size_toArray, hl, sizeLine_eq]; omega))))
  refine wpAny_bind (wpAny_newList ?_ (by rw [hl, sizeLine_eq]; omega))
  have gL : (h'.push (seqObj "list" its.toArray 0)).get? h'.objs.size = some (seqObj "list" its.toArray 0) := Heap.get?_push_size _ rfl
  refine wpAny_bind (wpAny_holding (wpAny_call_entry slot_list_sort ⟨_, gL, rfl⟩ entry_list_sort (list_sort_tree gL hI (by rw [hl]; exact h64) fun out ns' a1 a2 a3 => ⟨_, rfl, ?_⟩) (args_list_sort _)))
  obtain ⟨c, hc⟩ := sortedHeap_at (vs := its) (out := out) gL
  have I2 : Inv X pins σ H { s with heap := h' } := I.kept (t' := s.toks) k
  refine wpAny_pure ⟨_, rfl, ⟨.ref h'.objs.size, upd H h'.objs.size (.lst (ns'.map V.int)), I2.laid (t' := s.toks) (fun b u e => ?_) (Nat.le_refl _) ⟨by rw [List.length_map, a2.length_eq, sizeLine_eq]; omega, out.toList, c, vals_of_ints a1, hc⟩, rfl, q ns' _ a2 a3 (I2.hok.fresh (Nat.le_refl _))⟩⟩
  have hlt := Heap.lt_size e
  show (sortedHeap (h'.push (seqObj "list" its.toArray 0)) h'.objs.size its out).get? b = some u
  rw [sortedHeap_old (Nat.ne_of_lt hlt) (by rw [size_push']; exact Nat.lt_succ_of_lt hlt)]
  exact Heap.get?_push_of_some _ e
end
end SO
set_option Elab.async false
set_option linter.all false
set_option maxRecDepth 100000
set_option maxHeartbeats 4000000
/-! So07: sorted things as plain lists; enumerate of a tuple, zip of a tuple and a list. -/
namespace SO
open PySem PySem.Spec PyProof.Rows L2
/-! ### sorted lists -/
def sortN (ns : List Nat) : List Nat := ns.mergeSort (fun x y => decide (x ≤ y))
theorem sortN_perm (ns : List Nat) : (sortN ns).Perm ns := List.mergeSort_perm _ _
theorem sortN_mem {ns : List Nat} {x : Nat} : x ∈ sortN ns ↔ x ∈ ns := (sortN_perm ns).mem_iff
theorem sortN_len (ns : List Nat) : (sortN ns).length = ns.length := (sortN_perm ns).length_eq
theorem sortN_le (ns : List Nat) : (sortN ns).Pairwise (· ≤ ·) := by
  have h := List.pairwise_mergeSort (le := fun x y : Nat => decide (x ≤ y)) (fun a b c h1 h2 => by simp at *; omega) (fun a b => by simp; omega) ns
  exact h.imp fun h => by simpa using h
theorem zs_perm {ns ms : List Nat} (h : ns.Perm ms) : (zs ns).Perm (zs ms) := h.map _
theorem zs_le {ns : List Nat} (h : ns.Pairwise (· ≤ ·)) : (zs ns).Pairwise (· ≤ ·) := List.pairwise_map.mpr (h.imp fun h => Int.ofNat_le.mpr h)
theorem zs_lt {ns : List Nat} (h : ns.Pairwise (· < ·)) : (zs ns).Pairwise (· < ·) := List.pairwise_map.mpr (h.imp fun h => Int.ofNat_lt.mpr h)
theorem sortN_int {ns : List Nat} {ms : List Int} (h : ms.Perm (zs ns)) (hs : ms.Pairwise (· ≤ ·)) : ms = zs (sortN ns) :=
  PySem.W.os_sorted_one (h.trans (zs_perm (sortN_perm ns)).symm) hs (zs_le (sortN_le ns))
/-- the members, rising, each once -/
def sd (ns : List Nat) : List Nat := (List.range (ns.foldl max 0 + 1)).filter fun x => decide (x ∈ ns)
theorem le_foldl : ∀ {ns : List Nat} {a : Nat}, a ≤ ns.foldl max a ∧ ∀ x ∈ ns, x ≤ ns.foldl max a
  | [], a => ⟨Nat.le_refl _, fun x h => by cases h⟩
  | n :: ns, a => by
    obtain ⟨h1, h2⟩ := le_foldl (ns := ns) (a := max a n)
    refine ⟨Nat.le_trans (Nat.le_max_left _ _) h1, fun x hx => ?_⟩
    rcases List.mem_cons.mp hx with rfl | hx
    · exact Nat.le_trans (Nat.le_max_right _ _) h1
    · exact h2 x hx
theorem sd_mem {ns : List Nat} {x : Nat} : x ∈ sd ns ↔ x ∈ ns := by
  unfold sd
  rw [List.mem_filter, List.mem_range, decide_eq_true_eq]
  exact ⟨fun h => h.2, fun h => ⟨Nat.lt_succ_of_le (le_foldl.2 x h), h⟩⟩
theorem sd_lt (ns : List Nat) : (sd ns).Pairwise (· < ·) := (List.pairwise_lt_range).filter _
theorem lt_uniq : ∀ {a b : List Int}, a.Pairwise (· < ·) → b.Pairwise (· < ·) → (∀ x, x ∈ a ↔ x ∈ b) → a = b
  | [], [], _, _, _ => rfl
  | [], y :: b, _, _, h => absurd ((h y).mpr List.mem_cons_self) (by simp)
  | x :: a, [], _, _, h => absurd ((h x).mp List.mem_cons_self) (by simp)
  | x :: a, y :: b, ha, hb, h => by
    obtain ⟨a1, a2⟩ := List.pairwise_cons.mp ha
    obtain ⟨b1, b2⟩ := List.pairwise_cons.mp hb
    have e : x = y := by
      have h1 := (h x).mp List.mem_cons_self
      have h2 := (h y).mpr List.mem_cons_self
      rcases List.mem_cons.mp h1 with e | h1
      · exact e
      · rcases List.mem_cons.mp h2 with e | h2
        · exact e.symm
        · have := a1 y h2
          have := b1 x h1
          omega
    subst e
    rw [lt_uniq a2 b2 fun z => ⟨fun hz => ?_, fun hz => ?_⟩]
    · have := (h z).mp (List.mem_cons_of_mem _ hz)
      rcases List.mem_cons.mp this with e | h'
      · have := a1 z hz
        omega
      · exact h'
    · have := (h z).mpr (List.mem_cons_of_mem _ hz)
      rcases List.mem_cons.mp this with e | h'
      · have := b1 z hz
        omega
      · exact h'
theorem sd_int {ns : List Nat} {ms : List Int} (hs : ms.Pairwise (· < ·)) (h : ∀ k : Int, k ∈ ms ↔ k ∈ zs ns) : ms = zs (sd ns) := lt_uniq hs (zs_lt (sd_lt ns)) fun x => by
  rw [h]
  unfold zs
  rw [List.mem_map, List.mem_map]
  exact ⟨fun ⟨a, h1, h2⟩ => ⟨a, sd_mem.mpr h1, h2⟩, fun ⟨a, h1, h2⟩ => ⟨a, sd_mem.mp h1, h2⟩⟩
theorem zs_len (ns : List Nat) : (zs ns).length = ns.length := List.length_map ..
theorem sd_len {ns : List Nat} : (sd ns).length ≤ ns.foldl max 0 + 1 := by
  unfold sd
  exact Nat.le_trans (List.length_filter_le _ _) (Nat.le_of_eq List.length_range)
section
variable {X : Cx} {e e2 tg : Expr} {σ : L2.St} {H : Hp} {pos p p2 pos2 : Pos} {ns : List Nat} {d : D0} {ds : List D0}
/-- sorted(set(e)) -/
theorem evl_sortedSet (hc : X.calm = true) (hm : X.mg "sorted" = none) (hm2 : X.mg "set" = none) (h : Ev X e σ H (.list (ns.map pn)) ∨ Ev X e σ H (pns ns)) (hl : ns.length < 64) (hg : Gl X "sorted" := by rfl) (hg2 : Gl X "set" := by rfl)
    (he : starEach [e] X.env = (false, eval e X.env) :: starEach [] X.env := by rfl) (hpl : (backTo pos2 (starEach [] X.env)).any (·.1) = false := by rfl)
    (he2 : starEach [.Call (.Name "set" p2) [e] [] pos2] X.env = (false, eval (.Call (.Name "set" p2) [e] [] pos2) X.env) :: starEach [] X.env := by rfl) (hpl2 : (backTo pos (starEach [] X.env)).any (·.1) = false := by rfl) :
    EvL X (.Call (.Name "sorted" p) [.Call (.Name "set" p2) [e] [] pos2] [] pos) σ H ((sd ns).map pn) := fun H1 k => by
  refine ew_callB (cr_sortedSet hc) hm (by decide +kernel) (aw_one (ew_callTy (cr_setI hc) hm2 PyProof.Rows.boot_set (aw_one ?_ he) hg2 (by decide) (by decide) he hpl) he2) hg (by decide) (by decide) he2 hpl2
  have fin : ∀ v H2, Same H1 H2 → (∃ a, v = .ref a ∧ (SqL X.K H2 a ((zs ns).map V.int) ∨ SqT X.K H2 a ((zs ns).map V.int))) →
      rSetI X.K X.w [v] H2 fun x H3 => rSortedSet X.w [x] H3 fun v H4 => Same H1 H4 ∧ ∃ q, v = .ref q ∧ H1 q = none ∧ Ls X.K H4 q ((sd ns).map pn) := fun v H2 k2 ⟨a, e, hq⟩ => by
    subst e
    refine ⟨a, zs ns, rfl, hq, by rw [zs_len]; omega, fun b c hb hcn => ⟨b, _, c, rfl, upd_same, by rw [zs_len] at hcn; omega, fun ms q hs hm _ hq' => ?_⟩⟩
    have em := sd_int (ns := ns) hs fun k => by rw [hm k, decide_eq_true_eq]
    subst em
    have nb : b ≠ q := fun z => by rw [z, upd_same] at hq'; cases hq'
    rw [upd_ne (Ne.symm nb)] at hq'
    refine ⟨fun x o hx => ?_, q, rfl, none_back k2 hq', _, upd_same, ?_⟩
    · rw [upd_ne (ne_of_none (k2 _ _ hx) hq'), upd_ne (ne_of_none (k2 _ _ hx) hb)]
      exact k2 _ _ hx
    · rw [map_pn]
      exact dpa_of_ints
  rcases h with h | h
  · refine (h H1 k).mono fun v H2 ⟨k2, r⟩ => fin v H2 k2 ?_
    obtain ⟨a, xs, e1, h1, h2⟩ := dp_lst r
    rw [map_pn] at h2
    rw [dpa_ints h2] at h1
    exact ⟨a, e1, .inl h1⟩
  · refine (h H1 k).mono fun v H2 ⟨k2, r⟩ => fin v H2 k2 ?_
    obtain ⟨a, xs, e1, h1, h2⟩ := dp_tup r
    rw [map_pn] at h2
    rw [dpa_ints h2] at h1
    exact ⟨a, e1, .inr h1⟩
/-- sorted(l) of a list of few whole numbers; of a pair -/
theorem evl_sortedL (hm : X.mg "sorted" = none) (h : Ev X e σ H (.list (ns.map pn))) (hl : ns.length < 64) (hg : Gl X "sorted" := by rfl)
    (he : starEach [e] X.env = (false, eval e X.env) :: starEach [] X.env := by rfl) (hpl : (backTo pos (starEach [] X.env)).any (·.1) = false := by rfl) : EvL X (.Call (.Name "sorted" p) [e] [] pos) σ H ((sortN ns).map pn) :=
  evl_callB cr_sorted hm (by decide +kernel) (eva1 h he) (fun vs H1 k r Q q => by
    obtain ⟨v, rfl, r1⟩ := dpa1 r
    obtain ⟨a, xs, rfl, h1, h2⟩ := dp_lst r1
    rw [map_pn] at h2
    rw [dpa_ints h2] at h1
    refine ⟨a, zs ns, rfl, h1, by rw [zs_len]; exact hl, fun ms b hp hs hb => ?_⟩
    rw [sortN_int hp hs]
    exact q b _ hb (same_new hb) ⟨_, upd_same, by rw [map_pn]; exact dpa_of_ints⟩) hg (by decide) (by decide) he hpl
theorem evl_sortedT (hm : X.mg "sorted" = none) (h : Ev X e σ H (pns ns)) (hl : ns.length < 64) (hg : Gl X "sorted" := by rfl)
    (he : starEach [e] X.env = (false, eval e X.env) :: starEach [] X.env := by rfl) (hpl : (backTo pos (starEach [] X.env)).any (·.1) = false := by rfl) : EvL X (.Call (.Name "sorted" p) [e] [] pos) σ H ((sortN ns).map pn) :=
  evl_callB cr_srtT hm (by decide +kernel) (eva1 h he) (fun vs H1 k r Q q => by
    obtain ⟨v, rfl, r1⟩ := dpa1 r
    obtain ⟨a, xs, rfl, h1, h2⟩ := dp_tup r1
    rw [map_pn] at h2
    rw [dpa_ints h2] at h1
    refine ⟨a, zs ns, rfl, h1, by rw [zs_len]; exact hl, fun ms b hp hs hb => ?_⟩
    rw [sortN_int hp hs]
    exact q b _ hb (same_new hb) ⟨_, upd_same, by rw [map_pn]; exact dpa_of_ints⟩) hg (by decide) (by decide) he hpl
end
/-! ### enumerate(t), t a tuple -/
/-- the tuple at a, each item in a new pair with its place -/
def IteT (K : PySem.W.Frag) (a : Addr) : It :=
  ⟨fun i H => ∃ (xs : List V) (x : V), SqT K H a xs ∧ xs[i]? = some x, fun i H v H' => ∃ T x, v = .ref T ∧ H T = none ∧ H' = upd H T (.tup [.int (i : Nat), x]) ∧ ∀ xs, SqT K H a xs → xs[i]? = some x, fun i H => ∃ xs : List V, SqT K H a xs ∧ xs.length ≤ i⟩
theorem two_small {x y : V} : [x, y].length ≤ sizeLine := by show 2 ≤ sizeLine; decide
theorem turn_enumT {P : Program} {w : World} {K : PySem.W.Frag} {elts : List Expr} {kk : Nat} {tpos : Pos} (a e it : Addr) (hei : e ≠ it) (hae : a ≠ e) (hai : a ≠ it) :
    Turn P w K (.Tuple elts kk tpos) (IteT K a) [e, it] e (fun i h => (∃ old, IsEnum h e it ((0 : Int) + (i : Int)) old) ∧ h.IsTupleIter it a i) where
  mem := List.mem_cons_self
  obj := fun i h ⟨⟨old, he⟩, ⟨o, ho, _, hd⟩⟩ b hb => by
    rcases List.mem_cons.mp hb with z | z
    · subst z; exact ⟨_, he, fun v q => nomatch q⟩
    · rw [List.mem_singleton.mp z]; exact ⟨o, ho, fun v q => by rw [hd] at q; cases q⟩
  keep := fun i h h' ⟨⟨old, he⟩, hi⟩ k => ⟨⟨old, k e List.mem_cons_self _ he⟩, hi.at fun o q => k it (List.mem_cons_of_mem _ List.mem_cons_self) o q⟩
  item := fun X hP hw hK hc i pins s σ H E I hf ⟨he, hit⟩ hg => by
    subst hP; subst hw; subst hK
    obtain ⟨xs, x, hq, hx⟩ := hg
    obtain ⟨its, rv, p, hz⟩ := I.tuple hq
    obtain ⟨u, hu, ru⟩ := rv.get hx
    have W := WalksT.enumFrom (prog := X.prog) (w := X.w) (A := X.A) (0 : Int) (Draws.tuple (A := X.A.in1) (I.ok.hd hc) it a hai its.toArray) e hei (fun z => by
      rcases List.mem_cons.mp z with z | z
      · exact hei z
      · exact hae (List.mem_singleton.mp z).symm) List.mem_cons_self
    have lt : i < its.toArray.size := by
      rw [List.size_toArray, ← rv.length]
      exact (List.getElem?_eq_some_iff.mp hx).1
    refine W.item i s _ _ lt ⟨he, hit, show s.heap.IsTuple a its.toArray from p⟩ fun T vals h1 tk hP hT hTup hM k1 => ?_
    obtain ⟨t, y, hy, rfl⟩ := hP
    have ey : y = u := by
      have hy' : its.toArray[i]? = some y := hy
      rw [show its.toArray[i]? = some u by simpa using hu] at hy'
      exact (Option.some.inj hy').symm
    subst ey
    have hTw := W.apart i T h1 hM
    refine ⟨_, rfl, W.go elts kk tpos i T _ _ _ hM fun h2 hS k2 => ?_⟩
    obtain ⟨o, ho, hoc, n, hod⟩ := hTup
    have new : ObjOk X.prog X.w (upd H T (.tup [.int (i : Nat), x])) h2 T (.tup [.int (i : Nat), x]) :=
      ⟨two_small, [_, y], .cons ⟨t, by rw [Int.zero_add]⟩ (.cons ru .nil), ⟨o, k2 T o hTw ho, hoc, n, hod⟩⟩
    have I1 := I.turnedNew (t' := tk) (h' := h2) (ch := [e, it]) (fun b ob hb q => k2 b ob hb (k1 b ob hb q)) hf hT new
    refine ⟨.ref T, _, I1, rfl, ⟨T, x, rfl, I.hok.fresh hT, rfl, fun ys hy => by rw [I.tuple_inj hy hq]; exact hx⟩, ⟨hS.1, hS.2.1⟩, fun b hb => ?_⟩
    rw [upd_ne fun z => hTw (by rw [← z]; exact hb)]
    exact (hf b hb).1
  done := fun X hP hw hK hc i pins s σ H E I hf ⟨he, hit⟩ hg => by
    subst hP; subst hw; subst hK
    obtain ⟨xs, hq, hx⟩ := hg
    obtain ⟨its, rv, p, hz⟩ := I.tuple hq
    have D := Draws.tuple (prog := X.prog) (w := X.w) (A := X.A.in1) (I.ok.hd hc) it a hai its.toArray
    obtain ⟨old, he⟩ := he
    by_cases hin : i = its.toArray.size
    · subst hin
      exact wpAny_pyNext_enum_endD D he ⟨hit, show s.heap.IsTuple a its.toArray from p⟩ fun h' hk => ⟨rfl, I.turnedL (t' := s.toks) (ch := [e, it]) (fun b o hb q => hk b o (fun z => hb (by rw [z]; exact List.mem_cons_of_mem _ List.mem_cons_self)) q) hf⟩
    · have gt : its.toArray.size < i := by
        have := rv.length
        rw [List.size_toArray] at hin ⊢
        omega
      have D2 : Draws X.prog X.w X.A.in1 it [it, a] i (fun _ _ => False) (fun j h => (h.IsTupleIter it a j ∧ h.IsTuple a its.toArray) ∧ its.toArray.size < j ∧ j = i) :=
        { live := fun j h st => D.live j h st.1
          frame := fun j h h' st k => ⟨D.frame j h h' st.1 k, st.2⟩
          item := fun j s' Q E' hj st => absurd st.2.2 (Nat.ne_of_lt hj)
          done := fun s' Q E' st hE => wpAny_nextOf_tuple_end (I.ok.hd hc) st.1.1 st.1.2 (by have := st.2.1; simp at this ⊢; omega) hE }
      exact wpAny_pyNext_enum_endD D2 he ⟨⟨hit, show s.heap.IsTuple a its.toArray from p⟩, gt, rfl⟩ fun h' hk => ⟨rfl, I.turnedL (t' := s.toks) (ch := [e, it]) (fun b o hb q => hk b o (fun z => hb (by rw [z]; exact List.mem_cons_of_mem _ List.mem_cons_self)) q) hf⟩
  self := fun A i s Q E ⟨⟨_, he⟩, _⟩ h => wpAny_pyIter_enum he h
end SO
set_option Elab.async false
set_option linter.all false
set_option maxRecDepth 100000
set_option maxHeartbeats 4000000
/-! So08: enumerate(tuple), zip(tuple, list), zip(list, list) walked; >= of tuples of whole numbers. -/
namespace SO
open PySem PySem.Spec PyProof.Rows L2
abbrev tupIt (l : Addr) : Obj := { cls := .type "tuple_iterator", data := .fields #[.ref l, .int 0 0] }
abbrev enumAt (i : Addr) : Obj := { cls := .type "enumerate", data := .fields #[.none, .bool false, .ref i, rawInt 0, .none, .none] }
theorem enum_newT (l : Addr) (items : Array Value) (n : Nat) (dd : Option Addr) (sl : Array (Option Value)) :
    Meets (Builtin.«enumerate.__new__» ⟨[.type "enumerate", .ref l], []⟩) (fun _ R s => s.heap.get? l = some { cls := .type "tuple", dict := dd, data := .seq items n, slots := sl } ∧
      R (.ok (.ret (.ref (s.heap.push (tupIt l)).objs.size))) { s with heap := (s.heap.push (tupIt l)).push (enumAt s.heap.objs.size) }) :=
  .of_wp fun prog w A R s h => by
    obtain ⟨hp, g, d, tk, os⟩ := s
    obtain ⟨hl, h⟩ := h
    have f1 := sub_enumerate
    have f2 : Heap.IsTuple (Shared.heap ⟨hp, g, d, tk, os⟩) l items := ⟨_, hl, rfl, n, rfl⟩
    wp_walk using AutoSeq1.wpAny_loadPart' hl
    refine wpAny_stack_any fun st => wpAny_pure ?_
    split
    · rename_i c _ _ _ _ _
      cases (c == Value.type "enumerate") <;> (wp_walk using AutoSeq1.wpAny_loadPart' hl, wpAny_pyIter_tuple f2; exact ⟨_, rfl, h⟩)
    · wp_walk using AutoSeq1.wpAny_loadPart' hl, wpAny_pyIter_tuple f2
      exact ⟨_, rfl, h⟩
theorem call_enumT {prog : Program} {w : World} {A : Around} {E : Value → Shared → Prop} {s : Shared} {l : Addr} {items : Array Value} {Q : Value → Shared → Prop} (hT : s.heap.IsTuple l items)
    (h : ∀ h', IsEnum h' (s.heap.objs.size + 1) s.heap.objs.size 0 .none → h'.IsTupleIter s.heap.objs.size l 0 → (∀ b o, s.heap.get? b = some o → h'.get? b = some o) → Q (.ref (s.heap.objs.size + 1)) { s with heap := h' }) : wpAny (model prog w) A (call (.type "enumerate") [.ref l]) Q E s := by
  obtain ⟨⟨c, dd, dt, sl⟩, hl, hc, n, hd⟩ := hT
  simp only at hc hd
  subst hc; subst hd
  refine callType_new F.called_enumerate (by decide) (F.typeCall_enumerate_1 _) (F.newCall_enumerate_1 _) (fun obj => F.args_object_init_2 obj _) F.entry_enumerate_new (enum_newT l items n dd sl) ⟨hl, ?_⟩
  have hz : (s.heap.push (tupIt l)).objs.size = s.heap.objs.size + 1 := Heap.size_push ..
  have he : IsEnum ((s.heap.push (tupIt l)).push (enumAt s.heap.objs.size)) (s.heap.objs.size + 1) s.heap.objs.size 0 .none := by
    have := Heap.get?_push_size (s.heap.push (tupIt l)) (o := enumAt s.heap.objs.size) rfl
    rw [hz] at this
    exact this
  show _ ∧ _
  rw [hz]
  exact ⟨⟨_, he, rfl⟩, h _ he ⟨_, Heap.get?_push_of_some _ (Heap.get?_push_size _ rfl), rfl, rfl⟩ fun b o x => Heap.get?_push_of_some _ (Heap.get?_push_of_some _ x)⟩
section
variable {X : Cx} {e e2 : Expr} {σ : L2.St} {H : Hp} {ta : TA} {p pos tpos : Pos} {elts : List Expr} {kk : Nat}
def iEnumT (K : PySem.W.Frag) (ta : TA) : TI := fun σ H R => ta σ H fun vs H1 => ∃ a xs, vs = [.ref a] ∧ SqT K H1 a xs ∧ R (IteT K a) H1
theorem fp_new {pins : List (Addr × Obj)} {s : Shared} {a : Addr} (I : Inv X pins σ H s) (ha : s.heap.objs.size ≤ a) : FpOk X pins H a := I.fpOk ha (I.hok.fresh ha)
theorem pi_enumT (hm : X.mg "enumerate" = none) (ha : PA X [e] ta) (hg : Gl X "enumerate" := by rfl) (hs : starEach [e] X.env = [(false, eval e X.env)] := by rfl) : PI X (.Tuple elts kk tpos) (.Call (.Name "enumerate" p) [e] [] pos) (iEnumT X.K ta) := by
  refine ⟨fun pins s σ H R I h => ?_⟩
  refine Call_ (ld_blt I hg hm boot_enumerate (PyProof.Rows.callWith_type1 (thn (ha.run pos pins s σ H _ I h) fun us s1 ⟨vs, H1, I1, r1, a, xs, ex, hq, q⟩ => ?_) hs rfl))
  subst ex
  obtain ⟨u, rfl, ru⟩ := vals1 r1
  cases ru
  obtain ⟨its, rv, p', hz⟩ := I1.tuple hq
  obtain ⟨oa, hoa, _⟩ := id p'
  have hlt : a < s1.heap.objs.size := Heap.lt_size hoa
  refine call_enumT (show s1.heap.IsTuple a its.toArray from p') fun h' he hit hk => wpAny_pyIter_enum he ?_
  refine ⟨s1.heap.objs.size + 1, [s1.heap.objs.size + 1, s1.heap.objs.size], _, _, H1, rfl, I1.kept (t' := s1.toks) hk, turn_enumT a (s1.heap.objs.size + 1) s1.heap.objs.size (Nat.succ_ne_self _) (Nat.ne_of_lt (Nat.lt_succ_of_lt hlt)) (Nat.ne_of_lt hlt), ⟨⟨.none, he⟩, hit⟩, fun b hb => ?_, q⟩
  rcases List.mem_cons.mp hb with z | z
  · rw [z]; exact fp_new I1 (Nat.le_succ _)
  · rw [List.mem_singleton.mp z]; exact fp_new I1 (Nat.le_refl _)
/-- what enumerate of a tuple of data gives -/
theorem src_enumT {ds : List D0} (hi : Ev X e σ H (.tuple ds)) (hs : starEach [e] X.env = (false, eval e X.env) :: starEach [] X.env := by rfl) : Src (iEnumT X.K (AW X [e])) σ H ds.length fun i x H' => ∃ d, (ds.zipIdx.map fun a => PyData.tuple [pn a.2, a.1])[i]? = some d ∧ Dp X.K H' x d := fun H1 k1 R h => by
  show AW X [e] σ H1 _
  refine aw_one ((hi H1 k1).mono fun v H2 ⟨k2, r⟩ => ?_) hs
  obtain ⟨a, xs, rfl, h1, h2⟩ := dp_tup r
  refine ⟨a, xs, rfl, h1, h _ H2 k2 fun Hc kc => ?_⟩
  have h1c : SqT X.K Hc a xs := by
    rcases h1 with z | z
    · exact .inl (tp_same kc _ _ z)
    · exact .inr z
  refine ⟨⟨xs, h1c, by rw [dpa_len h2]; exact Nat.le_refl _⟩, fun i hi' => ⟨⟨xs, xs[i]'(by rw [dpa_len h2]; exact hi'), h1c, by simp⟩, fun x H' y => ?_⟩⟩
  obtain ⟨T, z, rfl, hT, rfl, y⟩ := y
  obtain ⟨d, e1, r1⟩ := dpa_getv (dpa_mono kc h2) (y xs h1c)
  refine ⟨same_new hT, .tuple [pn i, d], by simp [e1], .tup (SqT.of upd_same) (.cons (.int _) (.cons (dp_mono (same_new hT) r1) .nil))⟩
/-! ### zip(list, list) -/
theorem src_zipL {ds es : List D0} (hi : Ev X e σ H (.list ds)) (hi2 : Ev X e2 σ H (.list es)) (hl : ds.length = es.length) (hs : starEach [e, e2] X.env = (false, eval e X.env) :: starEach [e2] X.env := by rfl) (hs2 : starEach [e2] X.env = (false, eval e2 X.env) :: starEach [] X.env := by rfl) :
    Src (iZip X.K (AW X [e, e2])) σ H ds.length fun i x H' => ∃ d, ((ds.zip es).map fun a => PyData.tuple [a.1, a.2])[i]? = some d ∧ Dp X.K H' x d := fun H1 k1 R h => by
  show AW X [e, e2] σ H1 _
  refine aw_two ((hi H1 k1).mono fun v H2 ⟨k2, r⟩ => (hi2 H2 (k1.trans k2)).mono fun v2 H3 ⟨k3, r2⟩ => ?_) hs hs2
  obtain ⟨a, xs, rfl, h1, h2⟩ := dp_lst (dp_mono k3 r)
  obtain ⟨b, ys, rfl, h3, h4⟩ := dp_lst r2
  refine ⟨a, b, xs, ys, rfl, h1, h3, h _ H3 (k2.trans k3) fun Hc kc => ?_⟩
  have h1c : SqL X.K Hc a xs := kc.seq h1
  have h3c : SqL X.K Hc b ys := kc.seq h3
  have l1 := dpa_len h2
  have l2 := dpa_len h4
  refine ⟨⟨xs, ys, h1c, h3c, .inl (by rw [l1]; exact Nat.le_refl _)⟩, fun i hi' => ⟨⟨xs, ys, xs[i]'(by rw [l1]; exact hi'), ys[i]'(by rw [l2, ← hl]; exact hi'), h1c, h3c, by simp, by simp⟩, fun x H' y => ?_⟩⟩
  obtain ⟨T, z1, z2, rfl, hT, rfl, y1, y2⟩ := y
  obtain ⟨d, e1, r1⟩ := dpa_getv (dpa_mono kc h2) (y1 xs h1c)
  obtain ⟨d2, e3, r3⟩ := dpa_getv (dpa_mono kc h4) (y2 ys h3c)
  exact ⟨same_new hT, .tuple [d, d2], by rw [List.getElem?_map, (List.getElem?_zip_eq_some (l₁ := ds) (l₂ := es) (z := (d, d2)) (i := i)).mpr ⟨e1, e3⟩]; rfl, .tup (SqT.of upd_same) (.cons (dp_mono (same_new hT) r1) (.cons (dp_mono (same_new hT) r3) .nil))⟩
end
/-! ### zip(tuple, list) -/
def ItzM (K : PySem.W.Frag) (a b : Addr) : It :=
  ⟨fun i H => ∃ (xs ys : List V) (x y : V), SqT K H a xs ∧ SqL K H b ys ∧ xs[i]? = some x ∧ ys[i]? = some y,
    fun i H v H' => ∃ T x y, v = .ref T ∧ H T = none ∧ H' = upd H T (.tup [x, y]) ∧ (∀ xs, SqT K H a xs → xs[i]? = some x) ∧ ∀ ys, SqL K H b ys → ys[i]? = some y,
    fun i H => ∃ xs ys : List V, SqT K H a xs ∧ SqL K H b ys ∧ xs.length = ys.length ∧ xs.length = i⟩
theorem turn_zipM {P : Program} {w : World} {K : PySem.W.Frag} {elts : List Expr} {kk : Nat} {tpos : Pos} {a b z TI TO i1 i2 : Addr} (S : ZipSep2 z TI TO i1 i2 [i1, a] [i2, b]) (ha : a ≠ i1) (hb : b ≠ i2) :
    Turn P w K (.Tuple elts kk tpos) (ItzM K a b) [z, TI, TO, i1, i2] z (fun i h => IsZip h z TI TO .none ∧ IsTupOf2 h TI (.ref i1) (.ref i2) ∧ (∃ x y, IsTupOf2 h TO x y) ∧ h.IsTupleIter i1 a i ∧ h.IsListIter i2 b i) where
  mem := List.mem_cons_self
  obj := fun i h ⟨hz, hTI, ⟨x, y, hTO⟩, ⟨o1, e1, _, d1⟩, ⟨o2, e2, _, d2⟩⟩ c hc => by
    have e' : c = z ∨ c = TI ∨ c = TO ∨ c = i1 ∨ c = i2 := by simpa using hc
    rcases e' with q | q | q | q | q <;> rw [q]
    · exact ⟨_, hz, fun v q => nomatch q⟩
    · exact ⟨_, hTI, fun v q => nomatch q⟩
    · exact ⟨_, hTO, fun v q => nomatch q⟩
    · exact ⟨o1, e1, fun v q => by rw [d1] at q; cases q⟩
    · exact ⟨o2, e2, fun v q => by rw [d2] at q; cases q⟩
  keep := fun i h h' ⟨hz, hTI, ⟨x, y, hTO⟩, h1, h2⟩ k => ⟨k z (by simp) _ hz, k TI (by simp) _ hTI, ⟨x, y, k TO (by simp) _ hTO⟩, h1.at fun o q => k i1 (by simp) o q, h2.at fun o q => k i2 (by simp) o q⟩
  item := fun X hP hw hK hc i pins s σ H E I hf st hg => by
    subst hP; subst hw; subst hK
    obtain ⟨hz, hTI, hTO, h1, h2⟩ := st
    obtain ⟨xs, ys, x, y, hqx, hqy, hx, hy⟩ := hg
    obtain ⟨its, rv, p, _⟩ := I.tuple hqx
    obtain ⟨its2, rv2, p2, _⟩ := I.list hqy
    obtain ⟨u, hu, ru⟩ := rv.get hx
    obtain ⟨u2, hu2, ru2⟩ := rv2.get hy
    have hh : X.A.in1.handled = none := I.ok.hd hc
    have W := WalksT.zipD2 (prog := X.prog) (w := X.w) (A := X.A) S (Draws.tuple hh i1 a ha its.toArray) (Draws.list hh i2 b hb its2.toArray)
    have lt : i < min its.toArray.size its2.toArray.size := by
      rw [List.size_toArray, List.size_toArray, ← rv.length, ← rv2.length]
      have := (List.getElem?_eq_some_iff.mp hx).1
      have := (List.getElem?_eq_some_iff.mp hy).1
      omega
    refine W.item i s _ _ lt ⟨hz, hTI, hTO, ⟨h1, show s.heap.IsTuple a its.toArray from p⟩, ⟨h2, p2.isList⟩⟩ fun T vals g1 tk hP hT hTup hM k1 => ?_
    obtain ⟨y1, y2, e1, e2, rfl⟩ := hP
    obtain rfl : y1 = u := by
      have e1' : its.toArray[i]? = some y1 := e1
      rw [show its.toArray[i]? = some u by simpa using hu] at e1'
      exact (Option.some.inj e1').symm
    obtain rfl : y2 = u2 := by
      have e2' : its2.toArray[i]? = some y2 := e2
      rw [show its2.toArray[i]? = some u2 by simpa using hu2] at e2'
      exact (Option.some.inj e2').symm
    have hTw := W.apart i T g1 hM
    refine ⟨_, rfl, W.go elts kk tpos i T _ _ _ hM fun g2 hS k2 => ?_⟩
    obtain ⟨o, ho, hoc, n, hod⟩ := hTup
    have new : ObjOk X.prog X.w (upd H T (.tup [x, y])) g2 T (.tup [x, y]) := ⟨two_small, [y1, y2], .cons ru (.cons ru2 .nil), ⟨o, k2 T o hTw ho, hoc, n, hod⟩⟩
    have sub : ∀ b, b ∉ [z, TI, TO, i1, i2] → b ∉ [z, TO, i1, i2] := fun b hb hz => hb (by
      rcases List.mem_cons.mp hz with q | q
      · rw [q]; simp
      · exact List.mem_cons_of_mem _ (List.mem_cons_of_mem _ q))
    have I1 := I.turnedNew (t' := tk) (h' := g2) (ch := [z, TI, TO, i1, i2]) (fun b ob hb q => k2 b ob (sub b hb) (k1 b ob (sub b hb) q)) hf hT new
    refine ⟨.ref T, _, I1, rfl, ⟨T, x, y, rfl, I.hok.fresh hT, rfl, fun l hl => by rw [I.tuple_inj hl hqx]; exact hx, fun l hl => by rw [I.list_inj hl hqy]; exact hy⟩, ⟨hS.1, hS.2.1, hS.2.2.1, hS.2.2.2.1.1, hS.2.2.2.2.1⟩, fun c hc => ?_⟩
    have hne : c ≠ T := fun q => by
      have e' : c = z ∨ c = TI ∨ c = TO ∨ c = i1 ∨ c = i2 := by simpa using hc
      rcases e' with q2 | q2 | q2 | q2 | q2
      · exact hTw (by rw [← q, q2]; simp)
      · have := Heap.lt_size hTI
        rw [← q2, q] at this
        exact absurd this (Nat.not_lt_of_le hT)
      · exact hTw (by rw [← q, q2]; simp)
      · exact hTw (by rw [← q, q2]; simp)
      · exact hTw (by rw [← q, q2]; simp)
    rw [upd_ne hne]
    exact (hf c hc).1
  done := fun X hP hw hK hc i pins s σ H E I hf st hg => by
    subst hP; subst hw; subst hK
    obtain ⟨hz, hTI, hTO, h1, h2⟩ := st
    obtain ⟨xs, ys, hqx, hqy, l1, l2⟩ := hg
    obtain ⟨its, rv, p, _⟩ := I.tuple hqx
    obtain ⟨its2, rv2, p2, _⟩ := I.list hqy
    have hh : X.A.in1.handled = none := I.ok.hd hc
    have W := WalksT.zipD2 (prog := X.prog) (w := X.w) (A := X.A) S (Draws.tuple hh i1 a ha its.toArray) (Draws.list hh i2 b hb its2.toArray)
    have e : min its.toArray.size its2.toArray.size = i := by
      rw [List.size_toArray, List.size_toArray, ← rv.length, ← rv2.length]
      omega
    have d := W.done s (fun r s1 => r = none ∧ Inv X pins σ H s1) E
    rw [e] at d
    refine d ⟨hz, hTI, hTO, ⟨h1, show s.heap.IsTuple a its.toArray from p⟩, ⟨h2, p2.isList⟩⟩ fun h' tk k => ⟨rfl, I.turnedL (t' := tk) (ch := [z, TI, TO, i1, i2]) (fun c o hb q => k c o (fun hz => hb ?_) q) hf⟩
    rcases List.mem_cons.mp hz with q | q
    · rw [q]; simp
    · exact List.mem_cons_of_mem _ (List.mem_cons_of_mem _ q)
  self := fun A i s Q E st h => wpAny_pyIter_zip st.1 h
section
variable {X : Cx} {e e2 : Expr} {σ : L2.St} {H : Hp} {ta : TA} {p pos tpos : Pos} {elts : List Expr} {kk : Nat}
def iZipM (K : PySem.W.Frag) (ta : TA) : TI := fun σ H R => ta σ H fun vs H1 => ∃ a b xs ys, vs = [.ref a, .ref b] ∧ SqT K H1 a xs ∧ SqL K H1 b ys ∧ R (ItzM K a b) H1
theorem pi_zipM (hm : X.mg "zip" = none) (ha : PA X [e, e2] ta) (hg : Gl X "zip" := by rfl) (hs : starEach [e, e2] X.env = (false, eval e X.env) :: starEach [e2] X.env := by rfl) (hpl : (backTo pos (starEach [e2] X.env)).any (·.1) = false := by rfl) :
    PI X (.Tuple elts kk tpos) (.Call (.Name "zip" p) [e, e2] [] pos) (iZipM X.K ta) := by
  refine ⟨fun pins s σ H R I h => ?_⟩
  refine Call_ (ld_blt I hg hm PyProof.Rows.boot_zip (PyProof.Rows.callWith_type1 (thn (ha.run pos pins s σ H _ I h) fun us s1 ⟨vs, H1, I1, r1, a, b, xs, ys, ex, hqx, hqy, q⟩ => ?_) hs hpl))
  subst ex
  obtain ⟨u1, u2, rfl, ru1, ru2⟩ := vals2 r1
  cases ru1
  cases ru2
  obtain ⟨its, rv, p1, _⟩ := I1.tuple hqx
  obtain ⟨its2, rv2, p2, _⟩ := I1.list hqy
  obtain ⟨oa, hoa, _⟩ := id p1
  have la : a < s1.heap.objs.size := Heap.lt_size hoa
  have lb : b < s1.heap.objs.size := p2.lt
  refine zip_begins2 (begins_tuple a its.toArray) (begins_list b its2.toArray) (show s1.heap.IsTuple a its.toArray from p1) p2.isList fun h' hz hTI hTO o1 o2 hsz hk => wpAny_pyIter_zip hz ?_
  have S := zip_sep2 (N := s1.heap.objs.size) (fp1 := [a]) (fp2 := [b]) (fun c hc => by rw [List.mem_singleton.mp hc]; exact la) (fun c hc => by rw [List.mem_singleton.mp hc]; exact lb)
  refine ⟨s1.heap.objs.size + 4, [s1.heap.objs.size + 4, s1.heap.objs.size + 2, s1.heap.objs.size + 3, s1.heap.objs.size, s1.heap.objs.size + 1], _, _, H1, rfl, I1.kept (t' := s1.toks) hk, turn_zipM S (Nat.ne_of_lt la) (Nat.ne_of_lt (Nat.lt_succ_of_lt lb)), ⟨hz, hTI, ⟨_, _, hTO⟩, ⟨_, o1, rfl, rfl⟩, ⟨_, o2, rfl, rfl⟩⟩, fun c hc => ?_, q⟩
  have e' : c = s1.heap.objs.size + 4 ∨ c = s1.heap.objs.size + 2 ∨ c = s1.heap.objs.size + 3 ∨ c = s1.heap.objs.size ∨ c = s1.heap.objs.size + 1 := by simpa using hc
  rcases e' with q | q | q | q | q <;> (rw [q]; exact fp_new I1 (by first | exact Nat.le_add_right _ _ | exact Nat.le_refl _))
end
/-! ### t >= u -/
theorem op_geT {X : Cx} (hu : X.A.units < cLine) : OpR X (compareOp .GtE) (fun x y H Q => ∃ (a b : Addr) (n1 n2 m1 m2 : Int), x = .ref a ∧ y = .ref b ∧ SqT X.K H a [.int n1, .int n2] ∧ SqT X.K H b [.int m1, .int m2] ∧ Q (.bl (if n1 = m1 then decide (m2 ≤ n2) else decide (m1 ≤ n1))) H) := fun pins s σ H x y v u Q I rx ry h => by
  obtain ⟨a, b, n1, n2, m1, m2, rfl, rfl, ha, hb, q⟩ := h
  cases rx
  cases ry
  obtain ⟨its, r1, p1, _⟩ := I.tuple ha
  obtain ⟨its2, r2, p2, _⟩ := I.tuple hb
  obtain ⟨u1, u2, rfl, ⟨t1, rfl⟩, ⟨t2, rfl⟩⟩ := vals2 r1
  obtain ⟨w1, w2, rfl, ⟨t3, rfl⟩, ⟨t4, rfl⟩⟩ := vals2 r2
  have R := Ob.RcOp.tuples_ge (A := X.A) (s := s) (e := fun j => if j = 0 then decide (n1 = m1) else decide (n2 = m2)) (r := fun j => if j = 0 then decide (m1 ≤ n1) else decide (m2 ≤ n2)) p1 p2 hu (fun j h1 h2 => ?_) fun j h1 h2 _ => ?_
  · refine R X.prog X.w X.xe (EP X pins σ Q) ⟨.bl _, H, I, rfl, ?_⟩
    have e : Ob.lexAt (fun j => if j = 0 then decide (n1 = m1) else decide (n2 = m2)) (fun j => if j = 0 then decide (m1 ≤ n1) else decide (m2 ≤ n2)) (decide ((#[Value.int n1 t1, Value.int n2 t2] : Array Value).size ≥ (#[Value.int m1 t3, Value.int m2 t4] : Array Value).size)) 0 2 = (if n1 = m1 then decide (m2 ≤ n2) else decide (m1 ≤ n1)) := by
      rw [Ob.lexAt_succ, Ob.lexAt_succ, Ob.lexAt_zero]
      by_cases e1 : n1 = m1
      · by_cases e2 : n2 = m2
        · simp [e1, e2]
        · simp [e1, e2]
      · simp [e1]
    show Q (V.bl (Ob.lexAt _ _ _ 0 2)) H
    rw [e]
    exact q
  · have hj : j = 0 ∨ j = 1 := by simp at h1; omega
    have dd : ∀ x y : Int, (x == y) = decide (x = y) := fun x y => by by_cases h : x = y <;> simp [h]
    rcases hj with rfl | rfl
    · show SeqAt.EqAt X.A.in1 s (Value.int n1 t1) (Value.int m1 t3) (decide (n1 = m1))
      rw [← dd]
      exact SeqAt.EqAt.int_int _ _ _ _
    · show SeqAt.EqAt X.A.in1 s (Value.int n2 t2) (Value.int m2 t4) (decide (n2 = m2))
      rw [← dd]
      exact SeqAt.EqAt.int_int _ _ _ _
  · have hj : j = 0 ∨ j = 1 := by simp at h1; omega
    rcases hj with rfl | rfl
    · exact Ob.RcOp.ge_int _ _ _ _
    · exact Ob.RcOp.ge_int _ _ _ _
end SO
set_option Elab.async false
set_option linter.all false
set_option maxRecDepth 100000
set_option maxHeartbeats 4000000
/-! So09: the defs of the row by their places, their scopes. Printed by gen_text.py. -/
namespace SO
open PySem PySem.Spec PyProof.Rows L2
def top (i : Nat) : Stmt := PySem.Challenge.pw_sumorder_k76_whole_long_histories.main.body.getD i (.Pass ⟨0, 0, 0, 0⟩)
abbrev s_unit : Stmt := top 2
abbrev n_unit : List Str := ["word"]
abbrev p_unit : List Str := ["word"]
theorem c_unit : FnScope n_unit p_unit (defScope s_unit) := ⟨rfl, rfl, rfl, by decide +kernel, rfl, by decide +kernel, by decide +kernel⟩
abbrev s_join : Stmt := top 3
abbrev n_join : List Str := ["word", "one", "other"]
abbrev p_join : List Str := ["word", "one", "other"]
theorem c_join : FnScope n_join p_join (defScope s_join) := ⟨rfl, rfl, rfl, by decide +kernel, rfl, by decide +kernel, by decide +kernel⟩
abbrev s_gather : Stmt := top 4
abbrev n_gather : List Str := ["word", "numbers"]
abbrev p_gather : List Str := ["word", "numbers"]
theorem c_gather : FnScope n_gather p_gather (defScope s_gather) := ⟨rfl, rfl, rfl, by decide +kernel, rfl, by decide +kernel, by decide +kernel⟩
abbrev s_is_whole : Stmt := top 5
abbrev n_is_whole : List Str := ["thing"]
abbrev p_is_whole : List Str := ["thing"]
theorem c_is_whole : FnScope n_is_whole p_is_whole (defScope s_is_whole) := ⟨rfl, rfl, rfl, by decide +kernel, rfl, by decide +kernel, by decide +kernel⟩
abbrev s_product : Stmt := top 6
abbrev n_product : List Str := ["numbers", "found", "number"]
abbrev p_product : List Str := ["numbers"]
theorem c_product : FnScope n_product p_product (defScope s_product) := ⟨rfl, rfl, rfl, by decide +kernel, rfl, by decide +kernel, by decide +kernel⟩
abbrev s_fillings_of : Stmt := top 7
abbrev n_fillings_of : List Str := ["sizes", "names", "found", "name", "longer", "some", "worth"]
abbrev p_fillings_of : List Str := ["sizes", "names"]
theorem c_fillings_of : FnScope n_fillings_of p_fillings_of (defScope s_fillings_of) := ⟨rfl, rfl, rfl, by decide +kernel, rfl, by decide +kernel, by decide +kernel⟩
abbrev s_are_names : Stmt := top 19
abbrev n_are_names : List Str := ["many", "thing", "k", "one"]
abbrev p_are_names : List Str := ["many", "thing"]
theorem c_are_names : FnScope n_are_names p_are_names (defScope s_are_names) := ⟨rfl, rfl, rfl, by decide +kernel, rfl, by decide +kernel, by decide +kernel⟩
abbrev s_need_names : Stmt := top 20
abbrev n_need_names : List Str := ["many", "thing"]
abbrev p_need_names : List Str := ["many", "thing"]
theorem c_need_names : FnScope n_need_names p_need_names (defScope s_need_names) := ⟨rfl, rfl, rfl, by decide +kernel, rfl, by decide +kernel, by decide +kernel⟩
abbrev s_are_worths : Stmt := top 21
abbrev n_are_worths : List Str := ["sizes", "names", "thing", "one", "name"]
abbrev p_are_worths : List Str := ["sizes", "names", "thing"]
theorem c_are_worths : FnScope n_are_worths p_are_worths (defScope s_are_worths) := ⟨rfl, rfl, rfl, by decide +kernel, rfl, by decide +kernel, by decide +kernel⟩
abbrev s_place_of : Stmt := top 22
abbrev n_place_of : List Str := ["sizes", "names", "worths", "found", "name", "worth"]
abbrev p_place_of : List Str := ["sizes", "names", "worths"]
theorem c_place_of : FnScope n_place_of p_place_of (defScope s_place_of) := ⟨rfl, rfl, rfl, by decide +kernel, rfl, by decide +kernel, by decide +kernel⟩
abbrev s_worth_by : Stmt := top 24
abbrev n_worth_by : List Str := ["sizes", "part", "names", "worths", "own", "numbers", "name"]
abbrev p_worth_by : List Str := ["sizes", "part", "names", "worths"]
theorem c_worth_by : FnScope n_worth_by p_worth_by (defScope s_worth_by) := ⟨rfl, rfl, rfl, by decide +kernel, rfl, by decide +kernel, by decide +kernel⟩
abbrev s_joined : Stmt := top 25
abbrev n_joined : List Str := ["word", "sizes", "one", "other", "names", "worths", "some"]
abbrev p_joined : List Str := ["word", "sizes", "one", "other"]
theorem c_joined : FnScope n_joined p_joined (defScope s_joined) := ⟨rfl, rfl, rfl, by decide +kernel, rfl, by decide +kernel, by decide +kernel⟩
abbrev s_need_name : Stmt := top 26
abbrev n_need_name : List Str := ["part", "name"]
abbrev p_need_name : List Str := ["part", "name"]
theorem c_need_name : FnScope n_need_name p_need_name (defScope s_need_name) := ⟨rfl, rfl, rfl, by decide +kernel, rfl, by decide +kernel, by decide +kernel⟩
abbrev s_without : Stmt := top 27
abbrev n_without : List Str := ["names", "name", "one"]
abbrev p_without : List Str := ["names", "name"]
theorem c_without : FnScope n_without p_without (defScope s_without) := ⟨rfl, rfl, rfl, by decide +kernel, rfl, by decide +kernel, by decide +kernel⟩
abbrev s_gathered : Stmt := top 28
abbrev n_gathered : List Str := ["word", "sizes", "part", "name", "names", "worths", "some", "numbers", "worth"]
abbrev p_gathered : List Str := ["word", "sizes", "part", "name"]
theorem c_gathered : FnScope n_gathered p_gathered (defScope s_gathered) := ⟨rfl, rfl, rfl, by decide +kernel, rfl, by decide +kernel, by decide +kernel⟩
abbrev s_settled : Stmt := top 29
abbrev n_settled : List Str := ["sizes", "part", "name", "worth", "names", "every", "some"]
abbrev p_settled : List Str := ["sizes", "part", "name", "worth"]
theorem c_settled : FnScope n_settled p_settled (defScope s_settled) := ⟨rfl, rfl, rfl, by decide +kernel, rfl, by decide +kernel, by decide +kernel⟩
abbrev s_widened : Stmt := top 30
abbrev n_widened : List Str := ["sizes", "part", "names", "every", "some"]
abbrev p_widened : List Str := ["sizes", "part", "names"]
theorem c_widened : FnScope n_widened p_widened (defScope s_widened) := ⟨rfl, rfl, rfl, by decide +kernel, rfl, by decide +kernel, by decide +kernel⟩
abbrev s_all_joined : Stmt := top 32
abbrev n_all_joined : List Str := ["word", "sizes", "parts", "found", "part"]
abbrev p_all_joined : List Str := ["word", "sizes", "parts"]
theorem c_all_joined : FnScope n_all_joined p_all_joined (defScope s_all_joined) := ⟨rfl, rfl, rfl, by decide +kernel, rfl, by decide +kernel, by decide +kernel⟩
abbrev s_are_bags : Stmt := top 35
abbrev n_are_bags : List Str := ["many", "thing", "bag"]
abbrev p_are_bags : List Str := ["many", "thing"]
theorem c_are_bags : FnScope n_are_bags p_are_bags (defScope s_are_bags) := ⟨rfl, rfl, rfl, by decide +kernel, rfl, by decide +kernel, by decide +kernel⟩
abbrev s_is_tie : Stmt := top 36
abbrev n_is_tie : List Str := ["many", "thing"]
abbrev p_is_tie : List Str := ["many", "thing"]
theorem c_is_tie : FnScope n_is_tie p_is_tie (defScope s_is_tie) := ⟨rfl, rfl, rfl, by decide +kernel, rfl, by decide +kernel, by decide +kernel⟩
abbrev s_near_of : Stmt := top 37
abbrev n_near_of : List Str := ["ties", "i", "one", "other"]
abbrev p_near_of : List Str := ["ties", "i"]
theorem c_near_of : FnScope n_near_of p_near_of (defScope s_near_of) := ⟨rfl, rfl, rfl, by decide +kernel, rfl, by decide +kernel, by decide +kernel⟩
abbrev s_hanging : Stmt := top 38
abbrev n_hanging : List Str := ["ties", "some", "seen", "at", "other"]
abbrev p_hanging : List Str := ["ties", "some"]
theorem c_hanging : FnScope n_hanging p_hanging (defScope s_hanging) := ⟨rfl, rfl, rfl, by decide +kernel, rfl, by decide +kernel, by decide +kernel⟩
abbrev s_is_tree : Stmt := top 39
abbrev n_is_tree : List Str := ["many", "bags", "ties", "k", "tie"]
abbrev p_is_tree : List Str := ["many", "bags", "ties"]
theorem c_is_tree : FnScope n_is_tree p_is_tree (defScope s_is_tree) := ⟨rfl, rfl, rfl, by decide +kernel, rfl, by decide +kernel, by decide +kernel⟩
abbrev s_is_bag_tree : Stmt := top 40
abbrev n_is_bag_tree : List Str := ["sheet", "thing", "many", "bags", "ties", "part", "name", "some", "i", "bag"]
abbrev p_is_bag_tree : List Str := ["sheet", "thing"]
theorem c_is_bag_tree : FnScope n_is_bag_tree p_is_bag_tree (defScope s_is_bag_tree) := ⟨rfl, rfl, rfl, by decide +kernel, rfl, by decide +kernel, by decide +kernel⟩
abbrev s_bag_of : Stmt := top 42
abbrev n_bag_of : List Str := ["tree", "names", "bag", "name"]
abbrev p_bag_of : List Str := ["tree", "names"]
theorem c_bag_of : FnScope n_bag_of p_bag_of (defScope s_bag_of) := ⟨rfl, rfl, rfl, by decide +kernel, rfl, by decide +kernel, by decide +kernel⟩
abbrev s_left_for : Stmt := top 43
abbrev n_left_for : List Str := ["word", "sizes", "part", "bag", "name"]
abbrev p_left_for : List Str := ["word", "sizes", "part", "bag"]
theorem c_left_for : FnScope n_left_for p_left_for (defScope s_left_for) := ⟨rfl, rfl, rfl, by decide +kernel, rfl, by decide +kernel, by decide +kernel⟩
abbrev s_is_number : Stmt := top 45
abbrev n_is_number : List Str := ["thing", "many"]
abbrev p_is_number : List Str := ["thing", "many"]
theorem c_is_number : FnScope n_is_number p_is_number (defScope s_is_number) := ⟨rfl, rfl, rfl, by decide +kernel, rfl, by decide +kernel, by decide +kernel⟩
abbrev s_side_of : Stmt := top 46
abbrev n_side_of : List Str := ["near", "i", "j", "found", "at", "bag"]
abbrev p_side_of : List Str := ["near", "i", "j"]
theorem c_side_of : FnScope n_side_of p_side_of (defScope s_side_of) := ⟨rfl, rfl, rfl, by decide +kernel, rfl, by decide +kernel, by decide +kernel⟩
abbrev s_k_init : Stmt := inClass (top 47) 0
abbrev n_k_init : List Str := ["self", "word", "sheet", "tree", "i", "part"]
abbrev p_k_init : List Str := ["self", "word", "sheet", "tree"]
theorem c_k_init : FnScope n_k_init p_k_init (defScope s_k_init) := ⟨rfl, rfl, rfl, by decide +kernel, rfl, by decide +kernel, by decide +kernel⟩
abbrev s_k_own : Stmt := inClass (top 47) 3
abbrev n_k_own : List Str := ["self", "i", "found", "name", "part", "bag"]
abbrev p_k_own : List Str := ["self", "i"]
theorem c_k_own : FnScope n_k_own p_k_own (defScope s_k_own) := ⟨rfl, rfl, rfl, by decide +kernel, rfl, by decide +kernel, by decide +kernel⟩
abbrev s_k_rest_but : Stmt := inClass (top 47) 4
abbrev n_k_rest_but : List Str := ["self", "i", "but", "some", "k"]
abbrev p_k_rest_but : List Str := ["self", "i", "but"]
theorem c_k_rest_but : FnScope n_k_rest_but p_k_rest_but (defScope s_k_rest_but) := ⟨rfl, rfl, rfl, by decide +kernel, rfl, by decide +kernel, by decide +kernel⟩
abbrev s_k_letter : Stmt := inClass (top 47) 5
abbrev n_k_letter : List Str := ["self", "i", "j"]
abbrev p_k_letter : List Str := ["self", "i", "j"]
theorem c_k_letter : FnScope n_k_letter p_k_letter (defScope s_k_letter) := ⟨rfl, rfl, rfl, by decide +kernel, rfl, by decide +kernel, by decide +kernel⟩
abbrev s_k_reckoned : Stmt := inClass (top 47) 6
abbrev n_k_reckoned : List Str := ["self"]
abbrev p_k_reckoned : List Str := ["self"]
theorem c_k_reckoned : FnScope n_k_reckoned p_k_reckoned (defScope s_k_reckoned) := ⟨rfl, rfl, rfl, by decide +kernel, rfl, by decide +kernel, by decide +kernel⟩
abbrev s_k_rest : Stmt := inClass (top 47) 7
abbrev n_k_rest : List Str := ["self", "i"]
abbrev p_k_rest : List Str := ["self", "i"]
theorem c_k_rest : FnScope n_k_rest p_k_rest (defScope s_k_rest) := ⟨rfl, rfl, rfl, by decide +kernel, rfl, by decide +kernel, by decide +kernel⟩
abbrev s_k_whole : Stmt := inClass (top 47) 8
abbrev n_k_whole : List Str := ["self"]
abbrev p_k_whole : List Str := ["self"]
theorem c_k_whole : FnScope n_k_whole p_k_whole (defScope s_k_whole) := ⟨rfl, rfl, rfl, by decide +kernel, rfl, by decide +kernel, by decide +kernel⟩
abbrev s_k_touch : Stmt := inClass (top 47) 9
abbrev n_k_touch : List Str := ["self", "bags", "i", "j", "bag"]
abbrev p_k_touch : List Str := ["self", "bags"]
theorem c_k_touch : FnScope n_k_touch p_k_touch (defScope s_k_touch) := ⟨rfl, rfl, rfl, by decide +kernel, rfl, by decide +kernel, by decide +kernel⟩
abbrev s_k_lay : Stmt := inClass (top 47) 10
abbrev n_k_lay : List Str := ["self", "k", "worths"]
abbrev p_k_lay : List Str := ["self", "k", "worths"]
theorem c_k_lay : FnScope n_k_lay p_k_lay (defScope s_k_lay) := ⟨rfl, rfl, rfl, by decide +kernel, rfl, by decide +kernel, by decide +kernel⟩
abbrev s_k_fix : Stmt := inClass (top 47) 11
abbrev n_k_fix : List Str := ["self", "name", "worth", "i", "bag"]
abbrev p_k_fix : List Str := ["self", "name", "worth"]
theorem c_k_fix : FnScope n_k_fix p_k_fix (defScope s_k_fix) := ⟨rfl, rfl, rfl, by decide +kernel, rfl, by decide +kernel, by decide +kernel⟩
abbrev s_k_put : Stmt := inClass (top 47) 12
abbrev n_k_put : List Str := ["self", "k", "worths", "worth"]
abbrev p_k_put : List Str := ["self", "k", "worths"]
theorem c_k_put : FnScope n_k_put p_k_put (defScope s_k_put) := ⟨rfl, rfl, rfl, by decide +kernel, rfl, by decide +kernel, by decide +kernel⟩
abbrev s_k_settle : Stmt := inClass (top 47) 13
abbrev n_k_settle : List Str := ["self", "name", "worth"]
abbrev p_k_settle : List Str := ["self", "name", "worth"]
theorem c_k_settle : FnScope n_k_settle p_k_settle (defScope s_k_settle) := ⟨rfl, rfl, rfl, by decide +kernel, rfl, by decide +kernel, by decide +kernel⟩
abbrev s_k_free : Stmt := inClass (top 47) 14
abbrev n_k_free : List Str := ["self", "name"]
abbrev p_k_free : List Str := ["self", "name"]
theorem c_k_free : FnScope n_k_free p_k_free (defScope s_k_free) := ⟨rfl, rfl, rfl, by decide +kernel, rfl, by decide +kernel, by decide +kernel⟩
abbrev s_k_back : Stmt := inClass (top 47) 15
abbrev n_k_back : List Str := ["self", "word", "number", "elder"]
abbrev p_k_back : List Str := ["self"]
theorem c_k_back : FnScope n_k_back p_k_back (defScope s_k_back) := ⟨rfl, rfl, rfl, by decide +kernel, rfl, by decide +kernel, by decide +kernel⟩
abbrev s_g_prime : Stmt := top 49
abbrev n_g_prime : List Str := ["at", "some"]
abbrev p_g_prime : List Str := ["at"]
theorem c_g_prime : FnScope n_g_prime p_g_prime (defScope s_g_prime) := ⟨rfl, rfl, rfl, by decide +kernel, rfl, by decide +kernel, by decide +kernel⟩
abbrev s_g_fresh : Stmt := top 50
abbrev n_g_fresh : List Str := ["tape", "at", "cell", "one", "two", "three"]
abbrev p_g_fresh : List Str := ["tape"]
theorem c_g_fresh : FnScope n_g_fresh p_g_fresh (defScope s_g_fresh) := ⟨rfl, rfl, rfl, by decide +kernel, rfl, by decide +kernel, by decide +kernel⟩
abbrev s_g_draw : Stmt := top 51
abbrev n_g_draw : List Str := ["tape", "many", "drawn"]
abbrev p_g_draw : List Str := ["tape", "many"]
theorem c_g_draw : FnScope n_g_draw p_g_draw (defScope s_g_draw) := ⟨rfl, rfl, rfl, by decide +kernel, rfl, by decide +kernel, by decide +kernel⟩
abbrev s_g_fillings : Stmt := top 55
abbrev n_g_fillings : List Str := ["sizes", "names", "found", "name", "longer", "some", "worth"]
abbrev p_g_fillings : List Str := ["sizes", "names"]
theorem c_g_fillings : FnScope n_g_fillings p_g_fillings (defScope s_g_fillings) := ⟨rfl, rfl, rfl, by decide +kernel, rfl, by decide +kernel, by decide +kernel⟩
abbrev s_g_word : Stmt := top 59
abbrev n_g_word : List Str := ["tape"]
abbrev p_g_word : List Str := ["tape"]
theorem c_g_word : FnScope n_g_word p_g_word (defScope s_g_word) := ⟨rfl, rfl, rfl, by decide +kernel, rfl, by decide +kernel, by decide +kernel⟩
abbrev s_g_worths : Stmt := top 60
abbrev n_g_worths : List Str := ["tape", "word", "many", "way", "k"]
abbrev p_g_worths : List Str := ["tape", "word", "many"]
theorem c_g_worths : FnScope n_g_worths p_g_worths (defScope s_g_worths) := ⟨rfl, rfl, rfl, by decide +kernel, rfl, by decide +kernel, by decide +kernel⟩
abbrev s_g_parts : Stmt := top 61
abbrev n_g_parts : List Str := ["tape", "word", "sizes", "most", "found", "k", "names", "j"]
abbrev p_g_parts : List Str := ["tape", "word", "sizes", "most"]
theorem c_g_parts : FnScope n_g_parts p_g_parts (defScope s_g_parts) := ⟨rfl, rfl, rfl, by decide +kernel, rfl, by decide +kernel, by decide +kernel⟩
abbrev s_g_sheet : Stmt := top 62
abbrev n_g_sheet : List Str := ["tape", "word", "names", "most", "parts", "sizes", "room", "x", "size"]
abbrev p_g_sheet : List Str := ["tape", "word", "names", "most", "parts"]
theorem c_g_sheet : FnScope n_g_sheet p_g_sheet (defScope s_g_sheet) := ⟨rfl, rfl, rfl, by decide +kernel, rfl, by decide +kernel, by decide +kernel⟩
abbrev s_g_order : Stmt := top 63
abbrev n_g_order : List Str := ["tape", "many", "left", "k"]
abbrev p_g_order : List Str := ["tape", "many"]
theorem c_g_order : FnScope n_g_order p_g_order (defScope s_g_order) := ⟨rfl, rfl, rfl, by decide +kernel, rfl, by decide +kernel, by decide +kernel⟩
abbrev s_g_bags : Stmt := top 64
abbrev n_g_bags : List Str := ["sheet", "order", "near", "name", "names", "worths", "bags", "k", "bag", "other"]
abbrev p_g_bags : List Str := ["sheet", "order"]
theorem c_g_bags : FnScope n_g_bags p_g_bags (defScope s_g_bags) := ⟨rfl, rfl, rfl, by decide +kernel, rfl, by decide +kernel, by decide +kernel⟩
abbrev s_g_tree : Stmt := top 65
abbrev n_g_tree : List Str := ["tape", "sheet", "order", "bags", "ties", "k", "later", "turn", "at", "i", "j", "turned", "found", "name"]
abbrev p_g_tree : List Str := ["tape", "sheet"]
theorem c_g_tree : FnScope n_g_tree p_g_tree (defScope s_g_tree) := ⟨rfl, rfl, rfl, by decide +kernel, rfl, by decide +kernel, by decide +kernel⟩
abbrev s_g_near : Stmt := top 66
abbrev n_g_near : List Str := ["ties", "i", "one", "other"]
abbrev p_g_near : List Str := ["ties", "i"]
theorem c_g_near : FnScope n_g_near p_g_near (defScope s_g_near) := ⟨rfl, rfl, rfl, by decide +kernel, rfl, by decide +kernel, by decide +kernel⟩
abbrev s_g_side : Stmt := top 67
abbrev n_g_side : List Str := ["ties", "i", "j", "found", "waiting", "here", "but", "bag"]
abbrev p_g_side : List Str := ["ties", "i", "j"]
theorem c_g_side : FnScope n_g_side p_g_side (defScope s_g_side) := ⟨rfl, rfl, rfl, by decide +kernel, rfl, by decide +kernel, by decide +kernel⟩
abbrev s_g_laid : Stmt := top 68
abbrev n_g_laid : List Str := ["tree", "names", "bag", "name"]
abbrev p_g_laid : List Str := ["tree", "names"]
theorem c_g_laid : FnScope n_g_laid p_g_laid (defScope s_g_laid) := ⟨rfl, rfl, rfl, by decide +kernel, rfl, by decide +kernel, by decide +kernel⟩
abbrev s_g_begun : Stmt := top 69
abbrev n_g_begun : List Str := ["word", "sheet", "tree"]
abbrev p_g_begun : List Str := ["word", "sheet", "tree"]
theorem c_g_begun : FnScope n_g_begun p_g_begun (defScope s_g_begun) := ⟨rfl, rfl, rfl, by decide +kernel, rfl, by decide +kernel, by decide +kernel⟩
abbrev s_g_set : Stmt := top 70
abbrev n_g_set : List Str := ["model", "word", "number", "worth"]
abbrev p_g_set : List Str := ["model", "word", "number", "worth"]
theorem c_g_set : FnScope n_g_set p_g_set (defScope s_g_set) := ⟨rfl, rfl, rfl, by decide +kernel, rfl, by decide +kernel, by decide +kernel⟩
abbrev s_g_do : Stmt := top 71
abbrev n_g_do : List Str := ["model", "deed", "word", "number", "elder"]
abbrev p_g_do : List Str := ["model", "deed"]
theorem c_g_do : FnScope n_g_do p_g_do (defScope s_g_do) := ⟨rfl, rfl, rfl, by decide +kernel, rfl, by decide +kernel, by decide +kernel⟩
abbrev s_g_deed : Stmt := top 72
abbrev n_g_deed : List Str := ["tape", "model", "way", "held", "k", "worths", "name"]
abbrev p_g_deed : List Str := ["tape", "model"]
theorem c_g_deed : FnScope n_g_deed p_g_deed (defScope s_g_deed) := ⟨rfl, rfl, rfl, by decide +kernel, rfl, by decide +kernel, by decide +kernel⟩
abbrev s_g_say : Stmt := top 74
abbrev n_g_say : List Str := ["keeper", "deed"]
abbrev p_g_say : List Str := ["keeper", "deed"]
theorem c_g_say : FnScope n_g_say p_g_say (defScope s_g_say) := ⟨rfl, rfl, rfl, by decide +kernel, rfl, by decide +kernel, by decide +kernel⟩
abbrev s_g_far : Stmt := top 75
abbrev n_g_far : List Str := ["tape", "sheet", "most", "by", "parts", "names", "worths", "name"]
abbrev p_g_far : List Str := ["tape", "sheet", "most"]
theorem c_g_far : FnScope n_g_far p_g_far (defScope s_g_far) := ⟨rfl, rfl, rfl, by decide +kernel, rfl, by decide +kernel, by decide +kernel⟩
abbrev s_g_all : Stmt := top 76
abbrev n_g_all : List Str := ["keeper", "many", "i"]
abbrev p_g_all : List Str := ["keeper", "many"]
theorem c_g_all : FnScope n_g_all p_g_all (defScope s_g_all) := ⟨rfl, rfl, rfl, by decide +kernel, rfl, by decide +kernel, by decide +kernel⟩
abbrev s_g_touched : Stmt := top 77
abbrev n_g_touched : List Str := ["model", "deed", "bags", "word", "number", "i", "bag"]
abbrev p_g_touched : List Str := ["model", "deed"]
theorem c_g_touched : FnScope n_g_touched p_g_touched (defScope s_g_touched) := ⟨rfl, rfl, rfl, by decide +kernel, rfl, by decide +kernel, by decide +kernel⟩
abbrev s_g_forgotten : Stmt := top 78
abbrev n_g_forgotten : List Str := ["tree", "touched", "found", "one", "other", "i", "j", "bag"]
abbrev p_g_forgotten : List Str := ["tree", "touched"]
theorem c_g_forgotten : FnScope n_g_forgotten p_g_forgotten (defScope s_g_forgotten) := ⟨rfl, rfl, rfl, by decide +kernel, rfl, by decide +kernel, by decide +kernel⟩
abbrev s_g_fresh_told : Stmt := top 79
abbrev n_g_fresh_told : List Str := ["model", "many", "fresh", "name"]
abbrev p_g_fresh_told : List Str := ["model", "many"]
theorem c_g_fresh_told : FnScope n_g_fresh_told p_g_fresh_told (defScope s_g_fresh_told) := ⟨rfl, rfl, rfl, by decide +kernel, rfl, by decide +kernel, by decide +kernel⟩
abbrev s_law : Stmt := top 80
abbrev n_law : List Str := ["script", "tape", "word", "sheet", "tree", "many", "keeper", "model", "first", "turn", "count", "touched", "step", "deed"]
abbrev p_law : List Str := ["script"]
theorem c_law : FnScope n_law p_law (defScope s_law) := ⟨rfl, rfl, rfl, by decide +kernel, rfl, by decide +kernel, by decide +kernel⟩
def d_unit : He.DefD := ⟨("unit", none), "unit", "unit", defArgs s_unit, defBody s_unit, defScope s_unit, [], []⟩
def d_join : He.DefD := ⟨("join", none), "join", "join", defArgs s_join, defBody s_join, defScope s_join, [], []⟩
def d_gather : He.DefD := ⟨("gather", none), "gather", "gather", defArgs s_gather, defBody s_gather, defScope s_gather, [], []⟩
def d_is_whole : He.DefD := ⟨("is_whole", none), "is_whole", "is_whole", defArgs s_is_whole, defBody s_is_whole, defScope s_is_whole, [], []⟩
def d_product : He.DefD := ⟨("product", none), "product", "product", defArgs s_product, defBody s_product, defScope s_product, [], []⟩
def d_fillings_of : He.DefD := ⟨("fillings_of", none), "fillings_of", "fillings_of", defArgs s_fillings_of, defBody s_fillings_of, defScope s_fillings_of, [], []⟩
def d_are_names : He.DefD := ⟨("are_names", none), "are_names", "are_names", defArgs s_are_names, defBody s_are_names, defScope s_are_names, [], []⟩
def d_need_names : He.DefD := ⟨("need_names", none), "need_names", "need_names", defArgs s_need_names, defBody s_need_names, defScope s_need_names, [], []⟩
def d_are_worths : He.DefD := ⟨("are_worths", none), "are_worths", "are_worths", defArgs s_are_worths, defBody s_are_worths, defScope s_are_worths, [], []⟩
def d_place_of : He.DefD := ⟨("place_of", none), "place_of", "place_of", defArgs s_place_of, defBody s_place_of, defScope s_place_of, [], []⟩
def d_worth_by : He.DefD := ⟨("worth_by", none), "worth_by", "worth_by", defArgs s_worth_by, defBody s_worth_by, defScope s_worth_by, [], []⟩
def d_joined : He.DefD := ⟨("joined", none), "joined", "joined", defArgs s_joined, defBody s_joined, defScope s_joined, [], []⟩
def d_need_name : He.DefD := ⟨("need_name", none), "need_name", "need_name", defArgs s_need_name, defBody s_need_name, defScope s_need_name, [], []⟩
def d_without : He.DefD := ⟨("without", none), "without", "without", defArgs s_without, defBody s_without, defScope s_without, [], []⟩
def d_gathered : He.DefD := ⟨("gathered", none), "gathered", "gathered", defArgs s_gathered, defBody s_gathered, defScope s_gathered, [], []⟩
def d_settled : He.DefD := ⟨("settled", none), "settled", "settled", defArgs s_settled, defBody s_settled, defScope s_settled, [], []⟩
def d_widened : He.DefD := ⟨("widened", none), "widened", "widened", defArgs s_widened, defBody s_widened, defScope s_widened, [], []⟩
def d_all_joined : He.DefD := ⟨("all_joined", none), "all_joined", "all_joined", defArgs s_all_joined, defBody s_all_joined, defScope s_all_joined, [], []⟩
def d_are_bags : He.DefD := ⟨("are_bags", none), "are_bags", "are_bags", defArgs s_are_bags, defBody s_are_bags, defScope s_are_bags, [], []⟩
def d_is_tie : He.DefD := ⟨("is_tie", none), "is_tie", "is_tie", defArgs s_is_tie, defBody s_is_tie, defScope s_is_tie, [], []⟩
def d_near_of : He.DefD := ⟨("near_of", none), "near_of", "near_of", defArgs s_near_of, defBody s_near_of, defScope s_near_of, [], []⟩
def d_hanging : He.DefD := ⟨("hanging", none), "hanging", "hanging", defArgs s_hanging, defBody s_hanging, defScope s_hanging, [], []⟩
def d_is_tree : He.DefD := ⟨("is_tree", none), "is_tree", "is_tree", defArgs s_is_tree, defBody s_is_tree, defScope s_is_tree, [], []⟩
def d_is_bag_tree : He.DefD := ⟨("is_bag_tree", none), "is_bag_tree", "is_bag_tree", defArgs s_is_bag_tree, defBody s_is_bag_tree, defScope s_is_bag_tree, [], []⟩
def d_bag_of : He.DefD := ⟨("bag_of", none), "bag_of", "bag_of", defArgs s_bag_of, defBody s_bag_of, defScope s_bag_of, [], []⟩
def d_left_for : He.DefD := ⟨("left_for", none), "left_for", "left_for", defArgs s_left_for, defBody s_left_for, defScope s_left_for, [], []⟩
def d_is_number : He.DefD := ⟨("is_number", none), "is_number", "is_number", defArgs s_is_number, defBody s_is_number, defScope s_is_number, [], []⟩
def d_side_of : He.DefD := ⟨("side_of", none), "side_of", "side_of", defArgs s_side_of, defBody s_side_of, defScope s_side_of, [], []⟩
def d_k_init : He.DefD := ⟨("Keeper", some "__init__"), "__init__", "Keeper.__init__", defArgs s_k_init, defBody s_k_init, defScope s_k_init, [], []⟩
def d_k_own : He.DefD := ⟨("Keeper", some "own"), "own", "Keeper.own", defArgs s_k_own, defBody s_k_own, defScope s_k_own, [], []⟩
def d_k_rest_but : He.DefD := ⟨("Keeper", some "rest_but"), "rest_but", "Keeper.rest_but", defArgs s_k_rest_but, defBody s_k_rest_but, defScope s_k_rest_but, [], []⟩
def d_k_letter : He.DefD := ⟨("Keeper", some "letter"), "letter", "Keeper.letter", defArgs s_k_letter, defBody s_k_letter, defScope s_k_letter, [], []⟩
def d_k_reckoned : He.DefD := ⟨("Keeper", some "reckoned"), "reckoned", "Keeper.reckoned", defArgs s_k_reckoned, defBody s_k_reckoned, defScope s_k_reckoned, [], []⟩
def d_k_rest : He.DefD := ⟨("Keeper", some "rest"), "rest", "Keeper.rest", defArgs s_k_rest, defBody s_k_rest, defScope s_k_rest, [], []⟩
def d_k_whole : He.DefD := ⟨("Keeper", some "whole"), "whole", "Keeper.whole", defArgs s_k_whole, defBody s_k_whole, defScope s_k_whole, [], []⟩
def d_k_touch : He.DefD := ⟨("Keeper", some "touch"), "touch", "Keeper.touch", defArgs s_k_touch, defBody s_k_touch, defScope s_k_touch, [], []⟩
def d_k_lay : He.DefD := ⟨("Keeper", some "lay"), "lay", "Keeper.lay", defArgs s_k_lay, defBody s_k_lay, defScope s_k_lay, [], []⟩
def d_k_fix : He.DefD := ⟨("Keeper", some "fix"), "fix", "Keeper.fix", defArgs s_k_fix, defBody s_k_fix, defScope s_k_fix, [], []⟩
def d_k_put : He.DefD := ⟨("Keeper", some "put"), "put", "Keeper.put", defArgs s_k_put, defBody s_k_put, defScope s_k_put, [], []⟩
def d_k_settle : He.DefD := ⟨("Keeper", some "settle"), "settle", "Keeper.settle", defArgs s_k_settle, defBody s_k_settle, defScope s_k_settle, [], []⟩
def d_k_free : He.DefD := ⟨("Keeper", some "free"), "free", "Keeper.free", defArgs s_k_free, defBody s_k_free, defScope s_k_free, [], []⟩
def d_k_back : He.DefD := ⟨("Keeper", some "back"), "back", "Keeper.back", defArgs s_k_back, defBody s_k_back, defScope s_k_back, [], []⟩
def d_g_prime : He.DefD := ⟨("_law_gprime", none), "_law_gprime", "_law_gprime", defArgs s_g_prime, defBody s_g_prime, defScope s_g_prime, [], []⟩
def d_g_fresh : He.DefD := ⟨("_law_gfresh", none), "_law_gfresh", "_law_gfresh", defArgs s_g_fresh, defBody s_g_fresh, defScope s_g_fresh, [], []⟩
def d_g_draw : He.DefD := ⟨("_law_gdraw", none), "_law_gdraw", "_law_gdraw", defArgs s_g_draw, defBody s_g_draw, defScope s_g_draw, [], []⟩
def d_g_fillings : He.DefD := ⟨("_law_gfillings", none), "_law_gfillings", "_law_gfillings", defArgs s_g_fillings, defBody s_g_fillings, defScope s_g_fillings, [], []⟩
def d_g_word : He.DefD := ⟨("_law_gword", none), "_law_gword", "_law_gword", defArgs s_g_word, defBody s_g_word, defScope s_g_word, [], []⟩
def d_g_worths : He.DefD := ⟨("_law_gworths", none), "_law_gworths", "_law_gworths", defArgs s_g_worths, defBody s_g_worths, defScope s_g_worths, [], []⟩
def d_g_parts : He.DefD := ⟨("_law_gparts", none), "_law_gparts", "_law_gparts", defArgs s_g_parts, defBody s_g_parts, defScope s_g_parts, [], []⟩
def d_g_sheet : He.DefD := ⟨("_law_gsheet", none), "_law_gsheet", "_law_gsheet", defArgs s_g_sheet, defBody s_g_sheet, defScope s_g_sheet, [], []⟩
def d_g_order : He.DefD := ⟨("_law_gorder", none), "_law_gorder", "_law_gorder", defArgs s_g_order, defBody s_g_order, defScope s_g_order, [], []⟩
def d_g_bags : He.DefD := ⟨("_law_gbags", none), "_law_gbags", "_law_gbags", defArgs s_g_bags, defBody s_g_bags, defScope s_g_bags, [], []⟩
def d_g_tree : He.DefD := ⟨("_law_gtree", none), "_law_gtree", "_law_gtree", defArgs s_g_tree, defBody s_g_tree, defScope s_g_tree, [], []⟩
def d_g_near : He.DefD := ⟨("_law_gnear", none), "_law_gnear", "_law_gnear", defArgs s_g_near, defBody s_g_near, defScope s_g_near, [], []⟩
def d_g_side : He.DefD := ⟨("_law_gside", none), "_law_gside", "_law_gside", defArgs s_g_side, defBody s_g_side, defScope s_g_side, [], []⟩
def d_g_laid : He.DefD := ⟨("_law_glaid", none), "_law_glaid", "_law_glaid", defArgs s_g_laid, defBody s_g_laid, defScope s_g_laid, [], []⟩
def d_g_begun : He.DefD := ⟨("_law_gbegun", none), "_law_gbegun", "_law_gbegun", defArgs s_g_begun, defBody s_g_begun, defScope s_g_begun, [], []⟩
def d_g_set : He.DefD := ⟨("_law_gset", none), "_law_gset", "_law_gset", defArgs s_g_set, defBody s_g_set, defScope s_g_set, [], []⟩
def d_g_do : He.DefD := ⟨("_law_gdo", none), "_law_gdo", "_law_gdo", defArgs s_g_do, defBody s_g_do, defScope s_g_do, [], []⟩
def d_g_deed : He.DefD := ⟨("_law_gdeed", none), "_law_gdeed", "_law_gdeed", defArgs s_g_deed, defBody s_g_deed, defScope s_g_deed, [], []⟩
def d_g_say : He.DefD := ⟨("_law_gsay", none), "_law_gsay", "_law_gsay", defArgs s_g_say, defBody s_g_say, defScope s_g_say, [], []⟩
def d_g_far : He.DefD := ⟨("_law_gfar", none), "_law_gfar", "_law_gfar", defArgs s_g_far, defBody s_g_far, defScope s_g_far, [], []⟩
def d_g_all : He.DefD := ⟨("_law_gall", none), "_law_gall", "_law_gall", defArgs s_g_all, defBody s_g_all, defScope s_g_all, [], []⟩
def d_g_touched : He.DefD := ⟨("_law_gtouched", none), "_law_gtouched", "_law_gtouched", defArgs s_g_touched, defBody s_g_touched, defScope s_g_touched, [], []⟩
def d_g_forgotten : He.DefD := ⟨("_law_gforgotten", none), "_law_gforgotten", "_law_gforgotten", defArgs s_g_forgotten, defBody s_g_forgotten, defScope s_g_forgotten, [], []⟩
def d_g_fresh_told : He.DefD := ⟨("_law_gfresh_told", none), "_law_gfresh_told", "_law_gfresh_told", defArgs s_g_fresh_told, defBody s_g_fresh_told, defScope s_g_fresh_told, [], []⟩
def d_law : He.DefD := ⟨("law", none), "law", "law", defArgs s_law, defBody s_law, defScope s_law, [], []⟩
def fn1 : List He.DefD := [d_unit, d_join, d_gather, d_is_whole, d_product, d_fillings_of, d_are_names, d_need_names, d_are_worths, d_place_of, d_worth_by, d_joined, d_need_name, d_without, d_gathered, d_settled, d_widened, d_all_joined, d_are_bags, d_is_tie, d_near_of, d_hanging, d_is_tree, d_is_bag_tree, d_bag_of]
def fn2 : List He.DefD := [d_left_for, d_is_number, d_side_of, d_k_init, d_k_own, d_k_rest_but, d_k_letter, d_k_reckoned, d_k_rest, d_k_whole, d_k_touch, d_k_lay, d_k_fix, d_k_put, d_k_settle, d_k_free, d_k_back, d_g_prime, d_g_fresh, d_g_draw, d_g_fillings, d_g_word, d_g_worths, d_g_parts, d_g_sheet]
def fn3 : List He.DefD := [d_g_order, d_g_bags, d_g_tree, d_g_near, d_g_side, d_g_laid, d_g_begun, d_g_set, d_g_do, d_g_deed, d_g_say, d_g_far, d_g_all, d_g_touched, d_g_forgotten, d_g_fresh_told, d_law]
def fn : List He.DefD := fn1 ++ fn2 ++ fn3
def fa1 : List He.Fa := [.glo "unit", .glo "join", .glo "gather", .glo "is_whole", .glo "product", .glo "fillings_of", .glo "are_names", .glo "need_names", .glo "are_worths", .glo "place_of", .glo "worth_by", .glo "joined", .glo "need_name", .glo "without", .glo "gathered", .glo "settled", .glo "widened", .glo "all_joined", .glo "are_bags", .glo "is_tie", .glo "near_of", .glo "hanging", .glo "is_tree", .glo "is_bag_tree", .glo "bag_of"]
def fa2 : List He.Fa := [.glo "left_for", .glo "is_number", .glo "side_of", .glo "_law_gprime", .glo "_law_gfresh", .glo "_law_gdraw", .glo "_law_gfillings", .glo "_law_gword", .glo "_law_gworths", .glo "_law_gparts", .glo "_law_gsheet", .glo "_law_gorder", .glo "_law_gbags", .glo "_law_gtree", .glo "_law_gnear", .glo "_law_gside", .glo "_law_glaid", .glo "_law_gbegun", .glo "_law_gset", .glo "_law_gdo", .glo "_law_gdeed", .glo "_law_gsay", .glo "_law_gfar", .glo "_law_gall", .glo "_law_gtouched"]
def fa3 : List He.Fa := [.glo "_law_gforgotten", .glo "_law_gfresh_told", .glo "law", .free "len", .free "range", .free "tuple", .free "list", .free "set", .free "sorted", .free "min", .free "max", .free "sum", .free "all", .free "any", .free "isinstance", .free "zip", .free "enumerate", .free "int", .free "bool", .glo "Keeper", .cls "Keeper", .mkr "Keeper", .meth "Keeper" "__init__", .meth "Keeper" "own", .meth "Keeper" "rest_but"]
def fa4 : List He.Fa := [.meth "Keeper" "letter", .meth "Keeper" "reckoned", .meth "Keeper" "rest", .meth "Keeper" "whole", .meth "Keeper" "touch", .meth "Keeper" "lay", .meth "Keeper" "fix", .meth "Keeper" "put", .meth "Keeper" "settle", .meth "Keeper" "free", .meth "Keeper" "back", .noat "Keeper" "word", .noat "Keeper" "sizes", .noat "Keeper" "parts", .noat "Keeper" "bags", .noat "Keeper" "near", .noat "Keeper" "laid", .noat "Keeper" "worths", .noat "Keeper" "known", .noat "Keeper" "many", .noat "Keeper" "changes", .int "ROOF" 1000000000000000000000000000000, .int "MOST_WORTH" 1000000000000, .int "MOST_BAGS" 12]
def fa : List He.Fa := fa1 ++ fa2 ++ fa3 ++ fa4
/-- what the top leaves: the written part K says the facts, mg are the module's names -/
structure Ctx (K : PySem.W.Frag) (mg : Str → Option Value) : Prop where
  says : He.SaysD fa fn K
  there : ∃ h : Heap, K.In h ∧ h.Ns mainGlobals mg
section
variable {K : PySem.W.Frag} {mg : Str → Option Value}
theorem Ctx.glo (C : Ctx K mg) (i : Nat) {x : Str} (h : fa[i]? = some (.glo x) := by rfl) : mg x = some (.ref (He.ga K x)) := by
  obtain ⟨hp, X, G⟩ := C.there
  exact He.glo_ok X G (C.says.fact i h)
theorem Ctx.free (C : Ctx K mg) (i : Nat) {x : Str} (h : fa[i]? = some (.free x) := by rfl) : mg x = none := by
  obtain ⟨hp, X, G⟩ := C.there
  exact He.free_ok X G (C.says.fact i h)
theorem Ctx.int (C : Ctx K mg) (i : Nat) {x : Str} {j : Int} (h : fa[i]? = some (.int x j) := by rfl) : ∃ t, mg x = some (.int j t) := by
  obtain ⟨hp, X, G⟩ := C.there
  exact He.int_ok X G (C.says.fact i h)
abbrev kC (K : PySem.W.Frag) : Addr := He.ga K "Keeper"
theorem Ctx.m_len (C : Ctx K mg) : mg "len" = none := C.free 53
theorem Ctx.m_range (C : Ctx K mg) : mg "range" = none := C.free 54
theorem Ctx.m_tuple (C : Ctx K mg) : mg "tuple" = none := C.free 55
theorem Ctx.m_list (C : Ctx K mg) : mg "list" = none := C.free 56
theorem Ctx.m_set (C : Ctx K mg) : mg "set" = none := C.free 57
theorem Ctx.m_sorted (C : Ctx K mg) : mg "sorted" = none := C.free 58
theorem Ctx.m_min (C : Ctx K mg) : mg "min" = none := C.free 59
theorem Ctx.m_max (C : Ctx K mg) : mg "max" = none := C.free 60
theorem Ctx.m_sum (C : Ctx K mg) : mg "sum" = none := C.free 61
theorem Ctx.m_all (C : Ctx K mg) : mg "all" = none := C.free 62
theorem Ctx.m_any (C : Ctx K mg) : mg "any" = none := C.free 63
theorem Ctx.m_isinstance (C : Ctx K mg) : mg "isinstance" = none := C.free 64
theorem Ctx.m_zip (C : Ctx K mg) : mg "zip" = none := C.free 65
theorem Ctx.m_enumerate (C : Ctx K mg) : mg "enumerate" = none := C.free 66
theorem Ctx.m_int (C : Ctx K mg) : mg "int" = none := C.free 67
theorem Ctx.m_bool (C : Ctx K mg) : mg "bool" = none := C.free 68
theorem Ctx.m_ROOF (C : Ctx K mg) : ∃ t, mg "ROOF" = some (.int 1000000000000000000000000000000 t) := C.int 96
theorem Ctx.m_MOST_WORTH (C : Ctx K mg) : ∃ t, mg "MOST_WORTH" = some (.int 1000000000000 t) := C.int 97
theorem Ctx.m_MOST_BAGS (C : Ctx K mg) : ∃ t, mg "MOST_BAGS" = some (.int 12 t) := C.int 98
theorem Ctx.m_Keeper (C : Ctx K mg) : mg "Keeper" = some (.ref (kC K)) := C.glo 69
theorem Ctx.cl (C : Ctx K mg) : Cls K (kC K) := He.cls_ok (C.says.fact 70)
theorem Ctx.mkr (C : Ctx K mg) : Mk K (kC K) (He.ma K (kC K) "__init__") := He.mkr_ok (C.says.fact 71)
theorem Ctx.na_word (C : Ctx K mg) : NoAttr K (kC K) "word" := He.noat_ok (C.says.fact 86)
theorem Ctx.na_sizes (C : Ctx K mg) : NoAttr K (kC K) "sizes" := He.noat_ok (C.says.fact 87)
theorem Ctx.na_parts (C : Ctx K mg) : NoAttr K (kC K) "parts" := He.noat_ok (C.says.fact 88)
theorem Ctx.na_bags (C : Ctx K mg) : NoAttr K (kC K) "bags" := He.noat_ok (C.says.fact 89)
theorem Ctx.na_near (C : Ctx K mg) : NoAttr K (kC K) "near" := He.noat_ok (C.says.fact 90)
theorem Ctx.na_laid (C : Ctx K mg) : NoAttr K (kC K) "laid" := He.noat_ok (C.says.fact 91)
theorem Ctx.na_worths (C : Ctx K mg) : NoAttr K (kC K) "worths" := He.noat_ok (C.says.fact 92)
theorem Ctx.na_known (C : Ctx K mg) : NoAttr K (kC K) "known" := He.noat_ok (C.says.fact 93)
theorem Ctx.na_many (C : Ctx K mg) : NoAttr K (kC K) "many" := He.noat_ok (C.says.fact 94)
theorem Ctx.na_changes (C : Ctx K mg) : NoAttr K (kC K) "changes" := He.noat_ok (C.says.fact 95)
theorem Ctx.h_unit (C : Ctx K mg) : ∃ fd, FunD K "unit" "unit" (defArgs s_unit) (defBody s_unit) (defScope s_unit) [] [] (He.ga K "unit") fd ∧ mg "unit" = some (.ref (He.ga K "unit")) ∧ Binds K fd p_unit [] := by
  obtain ⟨fd, h⟩ := C.says.def_ 0 (d := d_unit) rfl
  exact ⟨fd, h, C.glo 0, FunD.bindsN h fun _ _ _ _ _ _ us hl => match us, hl with | [_], _ => rfl⟩
theorem Ctx.h_join (C : Ctx K mg) : ∃ fd, FunD K "join" "join" (defArgs s_join) (defBody s_join) (defScope s_join) [] [] (He.ga K "join") fd ∧ mg "join" = some (.ref (He.ga K "join")) ∧ Binds K fd p_join [] := by
  obtain ⟨fd, h⟩ := C.says.def_ 1 (d := d_join) rfl
  exact ⟨fd, h, C.glo 1, FunD.bindsN h fun _ _ _ _ _ _ us hl => match us, hl with | [_, _, _], _ => rfl⟩
theorem Ctx.h_gather (C : Ctx K mg) : ∃ fd, FunD K "gather" "gather" (defArgs s_gather) (defBody s_gather) (defScope s_gather) [] [] (He.ga K "gather") fd ∧ mg "gather" = some (.ref (He.ga K "gather")) ∧ Binds K fd p_gather [] := by
  obtain ⟨fd, h⟩ := C.says.def_ 2 (d := d_gather) rfl
  exact ⟨fd, h, C.glo 2, FunD.bindsN h fun _ _ _ _ _ _ us hl => match us, hl with | [_, _], _ => rfl⟩
theorem Ctx.h_is_whole (C : Ctx K mg) : ∃ fd, FunD K "is_whole" "is_whole" (defArgs s_is_whole) (defBody s_is_whole) (defScope s_is_whole) [] [] (He.ga K "is_whole") fd ∧ mg "is_whole" = some (.ref (He.ga K "is_whole")) ∧ Binds K fd p_is_whole [] := by
  obtain ⟨fd, h⟩ := C.says.def_ 3 (d := d_is_whole) rfl
  exact ⟨fd, h, C.glo 3, FunD.bindsN h fun _ _ _ _ _ _ us hl => match us, hl with | [_], _ => rfl⟩
theorem Ctx.h_product (C : Ctx K mg) : ∃ fd, FunD K "product" "product" (defArgs s_product) (defBody s_product) (defScope s_product) [] [] (He.ga K "product") fd ∧ mg "product" = some (.ref (He.ga K "product")) ∧ Binds K fd p_product [] := by
  obtain ⟨fd, h⟩ := C.says.def_ 4 (d := d_product) rfl
  exact ⟨fd, h, C.glo 4, FunD.bindsN h fun _ _ _ _ _ _ us hl => match us, hl with | [_], _ => rfl⟩
theorem Ctx.h_fillings_of (C : Ctx K mg) : ∃ fd, FunD K "fillings_of" "fillings_of" (defArgs s_fillings_of) (defBody s_fillings_of) (defScope s_fillings_of) [] [] (He.ga K "fillings_of") fd ∧ mg "fillings_of" = some (.ref (He.ga K "fillings_of")) ∧ Binds K fd p_fillings_of [] := by
  obtain ⟨fd, h⟩ := C.says.def_ 5 (d := d_fillings_of) rfl
  exact ⟨fd, h, C.glo 5, FunD.bindsN h fun _ _ _ _ _ _ us hl => match us, hl with | [_, _], _ => rfl⟩
theorem Ctx.h_are_names (C : Ctx K mg) : ∃ fd, FunD K "are_names" "are_names" (defArgs s_are_names) (defBody s_are_names) (defScope s_are_names) [] [] (He.ga K "are_names") fd ∧ mg "are_names" = some (.ref (He.ga K "are_names")) ∧ Binds K fd p_are_names [] := by
  obtain ⟨fd, h⟩ := C.says.def_ 6 (d := d_are_names) rfl
  exact ⟨fd, h, C.glo 6, FunD.bindsN h fun _ _ _ _ _ _ us hl => match us, hl with | [_, _], _ => rfl⟩
theorem Ctx.h_need_names (C : Ctx K mg) : ∃ fd, FunD K "need_names" "need_names" (defArgs s_need_names) (defBody s_need_names) (defScope s_need_names) [] [] (He.ga K "need_names") fd ∧ mg "need_names" = some (.ref (He.ga K "need_names")) ∧ Binds K fd p_need_names [] := by
  obtain ⟨fd, h⟩ := C.says.def_ 7 (d := d_need_names) rfl
  exact ⟨fd, h, C.glo 7, FunD.bindsN h fun _ _ _ _ _ _ us hl => match us, hl with | [_, _], _ => rfl⟩
theorem Ctx.h_are_worths (C : Ctx K mg) : ∃ fd, FunD K "are_worths" "are_worths" (defArgs s_are_worths) (defBody s_are_worths) (defScope s_are_worths) [] [] (He.ga K "are_worths") fd ∧ mg "are_worths" = some (.ref (He.ga K "are_worths")) ∧ Binds K fd p_are_worths [] := by
  obtain ⟨fd, h⟩ := C.says.def_ 8 (d := d_are_worths) rfl
  exact ⟨fd, h, C.glo 8, FunD.bindsN h fun _ _ _ _ _ _ us hl => match us, hl with | [_, _, _], _ => rfl⟩
theorem Ctx.h_place_of (C : Ctx K mg) : ∃ fd, FunD K "place_of" "place_of" (defArgs s_place_of) (defBody s_place_of) (defScope s_place_of) [] [] (He.ga K "place_of") fd ∧ mg "place_of" = some (.ref (He.ga K "place_of")) ∧ Binds K fd p_place_of [] := by
  obtain ⟨fd, h⟩ := C.says.def_ 9 (d := d_place_of) rfl
  exact ⟨fd, h, C.glo 9, FunD.bindsN h fun _ _ _ _ _ _ us hl => match us, hl with | [_, _, _], _ => rfl⟩
theorem Ctx.h_worth_by (C : Ctx K mg) : ∃ fd, FunD K "worth_by" "worth_by" (defArgs s_worth_by) (defBody s_worth_by) (defScope s_worth_by) [] [] (He.ga K "worth_by") fd ∧ mg "worth_by" = some (.ref (He.ga K "worth_by")) ∧ Binds K fd p_worth_by [] := by
  obtain ⟨fd, h⟩ := C.says.def_ 10 (d := d_worth_by) rfl
  exact ⟨fd, h, C.glo 10, FunD.bindsN h fun _ _ _ _ _ _ us hl => match us, hl with | [_, _, _, _], _ => rfl⟩
theorem Ctx.h_joined (C : Ctx K mg) : ∃ fd, FunD K "joined" "joined" (defArgs s_joined) (defBody s_joined) (defScope s_joined) [] [] (He.ga K "joined") fd ∧ mg "joined" = some (.ref (He.ga K "joined")) ∧ Binds K fd p_joined [] := by
  obtain ⟨fd, h⟩ := C.says.def_ 11 (d := d_joined) rfl
  exact ⟨fd, h, C.glo 11, FunD.bindsN h fun _ _ _ _ _ _ us hl => match us, hl with | [_, _, _, _], _ => rfl⟩
theorem Ctx.h_need_name (C : Ctx K mg) : ∃ fd, FunD K "need_name" "need_name" (defArgs s_need_name) (defBody s_need_name) (defScope s_need_name) [] [] (He.ga K "need_name") fd ∧ mg "need_name" = some (.ref (He.ga K "need_name")) ∧ Binds K fd p_need_name [] := by
  obtain ⟨fd, h⟩ := C.says.def_ 12 (d := d_need_name) rfl
  exact ⟨fd, h, C.glo 12, FunD.bindsN h fun _ _ _ _ _ _ us hl => match us, hl with | [_, _], _ => rfl⟩
theorem Ctx.h_without (C : Ctx K mg) : ∃ fd, FunD K "without" "without" (defArgs s_without) (defBody s_without) (defScope s_without) [] [] (He.ga K "without") fd ∧ mg "without" = some (.ref (He.ga K "without")) ∧ Binds K fd p_without [] := by
  obtain ⟨fd, h⟩ := C.says.def_ 13 (d := d_without) rfl
  exact ⟨fd, h, C.glo 13, FunD.bindsN h fun _ _ _ _ _ _ us hl => match us, hl with | [_, _], _ => rfl⟩
theorem Ctx.h_gathered (C : Ctx K mg) : ∃ fd, FunD K "gathered" "gathered" (defArgs s_gathered) (defBody s_gathered) (defScope s_gathered) [] [] (He.ga K "gathered") fd ∧ mg "gathered" = some (.ref (He.ga K "gathered")) ∧ Binds K fd p_gathered [] := by
  obtain ⟨fd, h⟩ := C.says.def_ 14 (d := d_gathered) rfl
  exact ⟨fd, h, C.glo 14, FunD.bindsN h fun _ _ _ _ _ _ us hl => match us, hl with | [_, _, _, _], _ => rfl⟩
theorem Ctx.h_settled (C : Ctx K mg) : ∃ fd, FunD K "settled" "settled" (defArgs s_settled) (defBody s_settled) (defScope s_settled) [] [] (He.ga K "settled") fd ∧ mg "settled" = some (.ref (He.ga K "settled")) ∧ Binds K fd p_settled [] := by
  obtain ⟨fd, h⟩ := C.says.def_ 15 (d := d_settled) rfl
  exact ⟨fd, h, C.glo 15, FunD.bindsN h fun _ _ _ _ _ _ us hl => match us, hl with | [_, _, _, _], _ => rfl⟩
theorem Ctx.h_widened (C : Ctx K mg) : ∃ fd, FunD K "widened" "widened" (defArgs s_widened) (defBody s_widened) (defScope s_widened) [] [] (He.ga K "widened") fd ∧ mg "widened" = some (.ref (He.ga K "widened")) ∧ Binds K fd p_widened [] := by
  obtain ⟨fd, h⟩ := C.says.def_ 16 (d := d_widened) rfl
  exact ⟨fd, h, C.glo 16, FunD.bindsN h fun _ _ _ _ _ _ us hl => match us, hl with | [_, _, _], _ => rfl⟩
theorem Ctx.h_all_joined (C : Ctx K mg) : ∃ fd, FunD K "all_joined" "all_joined" (defArgs s_all_joined) (defBody s_all_joined) (defScope s_all_joined) [] [] (He.ga K "all_joined") fd ∧ mg "all_joined" = some (.ref (He.ga K "all_joined")) ∧ Binds K fd p_all_joined [] := by
  obtain ⟨fd, h⟩ := C.says.def_ 17 (d := d_all_joined) rfl
  exact ⟨fd, h, C.glo 17, FunD.bindsN h fun _ _ _ _ _ _ us hl => match us, hl with | [_, _, _], _ => rfl⟩
theorem Ctx.h_are_bags (C : Ctx K mg) : ∃ fd, FunD K "are_bags" "are_bags" (defArgs s_are_bags) (defBody s_are_bags) (defScope s_are_bags) [] [] (He.ga K "are_bags") fd ∧ mg "are_bags" = some (.ref (He.ga K "are_bags")) ∧ Binds K fd p_are_bags [] := by
  obtain ⟨fd, h⟩ := C.says.def_ 18 (d := d_are_bags) rfl
  exact ⟨fd, h, C.glo 18, FunD.bindsN h fun _ _ _ _ _ _ us hl => match us, hl with | [_, _], _ => rfl⟩
theorem Ctx.h_is_tie (C : Ctx K mg) : ∃ fd, FunD K "is_tie" "is_tie" (defArgs s_is_tie) (defBody s_is_tie) (defScope s_is_tie) [] [] (He.ga K "is_tie") fd ∧ mg "is_tie" = some (.ref (He.ga K "is_tie")) ∧ Binds K fd p_is_tie [] := by
  obtain ⟨fd, h⟩ := C.says.def_ 19 (d := d_is_tie) rfl
  exact ⟨fd, h, C.glo 19, FunD.bindsN h fun _ _ _ _ _ _ us hl => match us, hl with | [_, _], _ => rfl⟩
theorem Ctx.h_near_of (C : Ctx K mg) : ∃ fd, FunD K "near_of" "near_of" (defArgs s_near_of) (defBody s_near_of) (defScope s_near_of) [] [] (He.ga K "near_of") fd ∧ mg "near_of" = some (.ref (He.ga K "near_of")) ∧ Binds K fd p_near_of [] := by
  obtain ⟨fd, h⟩ := C.says.def_ 20 (d := d_near_of) rfl
  exact ⟨fd, h, C.glo 20, FunD.bindsN h fun _ _ _ _ _ _ us hl => match us, hl with | [_, _], _ => rfl⟩
theorem Ctx.h_hanging (C : Ctx K mg) : ∃ fd, FunD K "hanging" "hanging" (defArgs s_hanging) (defBody s_hanging) (defScope s_hanging) [] [] (He.ga K "hanging") fd ∧ mg "hanging" = some (.ref (He.ga K "hanging")) ∧ Binds K fd p_hanging [] := by
  obtain ⟨fd, h⟩ := C.says.def_ 21 (d := d_hanging) rfl
  exact ⟨fd, h, C.glo 21, FunD.bindsN h fun _ _ _ _ _ _ us hl => match us, hl with | [_, _], _ => rfl⟩
theorem Ctx.h_is_tree (C : Ctx K mg) : ∃ fd, FunD K "is_tree" "is_tree" (defArgs s_is_tree) (defBody s_is_tree) (defScope s_is_tree) [] [] (He.ga K "is_tree") fd ∧ mg "is_tree" = some (.ref (He.ga K "is_tree")) ∧ Binds K fd p_is_tree [] := by
  obtain ⟨fd, h⟩ := C.says.def_ 22 (d := d_is_tree) rfl
  exact ⟨fd, h, C.glo 22, FunD.bindsN h fun _ _ _ _ _ _ us hl => match us, hl with | [_, _, _], _ => rfl⟩
theorem Ctx.h_is_bag_tree (C : Ctx K mg) : ∃ fd, FunD K "is_bag_tree" "is_bag_tree" (defArgs s_is_bag_tree) (defBody s_is_bag_tree) (defScope s_is_bag_tree) [] [] (He.ga K "is_bag_tree") fd ∧ mg "is_bag_tree" = some (.ref (He.ga K "is_bag_tree")) ∧ Binds K fd p_is_bag_tree [] := by
  obtain ⟨fd, h⟩ := C.says.def_ 23 (d := d_is_bag_tree) rfl
  exact ⟨fd, h, C.glo 23, FunD.bindsN h fun _ _ _ _ _ _ us hl => match us, hl with | [_, _], _ => rfl⟩
theorem Ctx.h_bag_of (C : Ctx K mg) : ∃ fd, FunD K "bag_of" "bag_of" (defArgs s_bag_of) (defBody s_bag_of) (defScope s_bag_of) [] [] (He.ga K "bag_of") fd ∧ mg "bag_of" = some (.ref (He.ga K "bag_of")) ∧ Binds K fd p_bag_of [] := by
  obtain ⟨fd, h⟩ := C.says.def_ 24 (d := d_bag_of) rfl
  exact ⟨fd, h, C.glo 24, FunD.bindsN h fun _ _ _ _ _ _ us hl => match us, hl with | [_, _], _ => rfl⟩
theorem Ctx.h_left_for (C : Ctx K mg) : ∃ fd, FunD K "left_for" "left_for" (defArgs s_left_for) (defBody s_left_for) (defScope s_left_for) [] [] (He.ga K "left_for") fd ∧ mg "left_for" = some (.ref (He.ga K "left_for")) ∧ Binds K fd p_left_for [] := by
  obtain ⟨fd, h⟩ := C.says.def_ 25 (d := d_left_for) rfl
  exact ⟨fd, h, C.glo 25, FunD.bindsN h fun _ _ _ _ _ _ us hl => match us, hl with | [_, _, _, _], _ => rfl⟩
theorem Ctx.h_is_number (C : Ctx K mg) : ∃ fd, FunD K "is_number" "is_number" (defArgs s_is_number) (defBody s_is_number) (defScope s_is_number) [] [] (He.ga K "is_number") fd ∧ mg "is_number" = some (.ref (He.ga K "is_number")) ∧ Binds K fd p_is_number [] := by
  obtain ⟨fd, h⟩ := C.says.def_ 26 (d := d_is_number) rfl
  exact ⟨fd, h, C.glo 26, FunD.bindsN h fun _ _ _ _ _ _ us hl => match us, hl with | [_, _], _ => rfl⟩
theorem Ctx.h_side_of (C : Ctx K mg) : ∃ fd, FunD K "side_of" "side_of" (defArgs s_side_of) (defBody s_side_of) (defScope s_side_of) [] [] (He.ga K "side_of") fd ∧ mg "side_of" = some (.ref (He.ga K "side_of")) ∧ Binds K fd p_side_of [] := by
  obtain ⟨fd, h⟩ := C.says.def_ 27 (d := d_side_of) rfl
  exact ⟨fd, h, C.glo 27, FunD.bindsN h fun _ _ _ _ _ _ us hl => match us, hl with | [_, _, _], _ => rfl⟩
theorem Ctx.h_k_init (C : Ctx K mg) : ∃ fd, FunD K "__init__" "Keeper.__init__" (defArgs s_k_init) (defBody s_k_init) (defScope s_k_init) [] [] (He.ma K (kC K) "__init__") fd ∧ Meth K (kC K) "__init__" (He.ma K (kC K) "__init__") ∧ Binds K fd p_k_init [] := by
  obtain ⟨fd, h⟩ := C.says.def_ 28 (d := d_k_init) rfl
  exact ⟨fd, h, He.meth_ok (C.says.fact 72), FunD.bindsN h fun _ _ _ _ _ _ us hl => match us, hl with | [_, _, _, _], _ => rfl⟩
theorem Ctx.h_k_own (C : Ctx K mg) : ∃ fd, FunD K "own" "Keeper.own" (defArgs s_k_own) (defBody s_k_own) (defScope s_k_own) [] [] (He.ma K (kC K) "own") fd ∧ Meth K (kC K) "own" (He.ma K (kC K) "own") ∧ Binds K fd p_k_own [] := by
  obtain ⟨fd, h⟩ := C.says.def_ 29 (d := d_k_own) rfl
  exact ⟨fd, h, He.meth_ok (C.says.fact 73), FunD.bindsN h fun _ _ _ _ _ _ us hl => match us, hl with | [_, _], _ => rfl⟩
theorem Ctx.h_k_rest_but (C : Ctx K mg) : ∃ fd, FunD K "rest_but" "Keeper.rest_but" (defArgs s_k_rest_but) (defBody s_k_rest_but) (defScope s_k_rest_but) [] [] (He.ma K (kC K) "rest_but") fd ∧ Meth K (kC K) "rest_but" (He.ma K (kC K) "rest_but") ∧ Binds K fd p_k_rest_but [] := by
  obtain ⟨fd, h⟩ := C.says.def_ 30 (d := d_k_rest_but) rfl
  exact ⟨fd, h, He.meth_ok (C.says.fact 74), FunD.bindsN h fun _ _ _ _ _ _ us hl => match us, hl with | [_, _, _], _ => rfl⟩
theorem Ctx.h_k_letter (C : Ctx K mg) : ∃ fd, FunD K "letter" "Keeper.letter" (defArgs s_k_letter) (defBody s_k_letter) (defScope s_k_letter) [] [] (He.ma K (kC K) "letter") fd ∧ Meth K (kC K) "letter" (He.ma K (kC K) "letter") ∧ Binds K fd p_k_letter [] := by
  obtain ⟨fd, h⟩ := C.says.def_ 31 (d := d_k_letter) rfl
  exact ⟨fd, h, He.meth_ok (C.says.fact 75), FunD.bindsN h fun _ _ _ _ _ _ us hl => match us, hl with | [_, _, _], _ => rfl⟩
theorem Ctx.h_k_reckoned (C : Ctx K mg) : ∃ fd, FunD K "reckoned" "Keeper.reckoned" (defArgs s_k_reckoned) (defBody s_k_reckoned) (defScope s_k_reckoned) [] [] (He.ma K (kC K) "reckoned") fd ∧ Meth K (kC K) "reckoned" (He.ma K (kC K) "reckoned") ∧ Binds K fd p_k_reckoned [] := by
  obtain ⟨fd, h⟩ := C.says.def_ 32 (d := d_k_reckoned) rfl
  exact ⟨fd, h, He.meth_ok (C.says.fact 76), FunD.bindsN h fun _ _ _ _ _ _ us hl => match us, hl with | [_], _ => rfl⟩
theorem Ctx.h_k_rest (C : Ctx K mg) : ∃ fd, FunD K "rest" "Keeper.rest" (defArgs s_k_rest) (defBody s_k_rest) (defScope s_k_rest) [] [] (He.ma K (kC K) "rest") fd ∧ Meth K (kC K) "rest" (He.ma K (kC K) "rest") ∧ Binds K fd p_k_rest [] := by
  obtain ⟨fd, h⟩ := C.says.def_ 33 (d := d_k_rest) rfl
  exact ⟨fd, h, He.meth_ok (C.says.fact 77), FunD.bindsN h fun _ _ _ _ _ _ us hl => match us, hl with | [_, _], _ => rfl⟩
theorem Ctx.h_k_whole (C : Ctx K mg) : ∃ fd, FunD K "whole" "Keeper.whole" (defArgs s_k_whole) (defBody s_k_whole) (defScope s_k_whole) [] [] (He.ma K (kC K) "whole") fd ∧ Meth K (kC K) "whole" (He.ma K (kC K) "whole") ∧ Binds K fd p_k_whole [] := by
  obtain ⟨fd, h⟩ := C.says.def_ 34 (d := d_k_whole) rfl
  exact ⟨fd, h, He.meth_ok (C.says.fact 78), FunD.bindsN h fun _ _ _ _ _ _ us hl => match us, hl with | [_], _ => rfl⟩
theorem Ctx.h_k_touch (C : Ctx K mg) : ∃ fd, FunD K "touch" "Keeper.touch" (defArgs s_k_touch) (defBody s_k_touch) (defScope s_k_touch) [] [] (He.ma K (kC K) "touch") fd ∧ Meth K (kC K) "touch" (He.ma K (kC K) "touch") ∧ Binds K fd p_k_touch [] := by
  obtain ⟨fd, h⟩ := C.says.def_ 35 (d := d_k_touch) rfl
  exact ⟨fd, h, He.meth_ok (C.says.fact 79), FunD.bindsN h fun _ _ _ _ _ _ us hl => match us, hl with | [_, _], _ => rfl⟩
theorem Ctx.h_k_lay (C : Ctx K mg) : ∃ fd, FunD K "lay" "Keeper.lay" (defArgs s_k_lay) (defBody s_k_lay) (defScope s_k_lay) [] [] (He.ma K (kC K) "lay") fd ∧ Meth K (kC K) "lay" (He.ma K (kC K) "lay") ∧ Binds K fd p_k_lay [] := by
  obtain ⟨fd, h⟩ := C.says.def_ 36 (d := d_k_lay) rfl
  exact ⟨fd, h, He.meth_ok (C.says.fact 80), FunD.bindsN h fun _ _ _ _ _ _ us hl => match us, hl with | [_, _, _], _ => rfl⟩
theorem Ctx.h_k_fix (C : Ctx K mg) : ∃ fd, FunD K "fix" "Keeper.fix" (defArgs s_k_fix) (defBody s_k_fix) (defScope s_k_fix) [] [] (He.ma K (kC K) "fix") fd ∧ Meth K (kC K) "fix" (He.ma K (kC K) "fix") ∧ Binds K fd p_k_fix [] := by
  obtain ⟨fd, h⟩ := C.says.def_ 37 (d := d_k_fix) rfl
  exact ⟨fd, h, He.meth_ok (C.says.fact 81), FunD.bindsN h fun _ _ _ _ _ _ us hl => match us, hl with | [_, _, _], _ => rfl⟩
theorem Ctx.h_k_put (C : Ctx K mg) : ∃ fd, FunD K "put" "Keeper.put" (defArgs s_k_put) (defBody s_k_put) (defScope s_k_put) [] [] (He.ma K (kC K) "put") fd ∧ Meth K (kC K) "put" (He.ma K (kC K) "put") ∧ Binds K fd p_k_put [] := by
  obtain ⟨fd, h⟩ := C.says.def_ 38 (d := d_k_put) rfl
  exact ⟨fd, h, He.meth_ok (C.says.fact 82), FunD.bindsN h fun _ _ _ _ _ _ us hl => match us, hl with | [_, _, _], _ => rfl⟩
theorem Ctx.h_k_settle (C : Ctx K mg) : ∃ fd, FunD K "settle" "Keeper.settle" (defArgs s_k_settle) (defBody s_k_settle) (defScope s_k_settle) [] [] (He.ma K (kC K) "settle") fd ∧ Meth K (kC K) "settle" (He.ma K (kC K) "settle") ∧ Binds K fd p_k_settle [] := by
  obtain ⟨fd, h⟩ := C.says.def_ 39 (d := d_k_settle) rfl
  exact ⟨fd, h, He.meth_ok (C.says.fact 83), FunD.bindsN h fun _ _ _ _ _ _ us hl => match us, hl with | [_, _, _], _ => rfl⟩
theorem Ctx.h_k_free (C : Ctx K mg) : ∃ fd, FunD K "free" "Keeper.free" (defArgs s_k_free) (defBody s_k_free) (defScope s_k_free) [] [] (He.ma K (kC K) "free") fd ∧ Meth K (kC K) "free" (He.ma K (kC K) "free") ∧ Binds K fd p_k_free [] := by
  obtain ⟨fd, h⟩ := C.says.def_ 40 (d := d_k_free) rfl
  exact ⟨fd, h, He.meth_ok (C.says.fact 84), FunD.bindsN h fun _ _ _ _ _ _ us hl => match us, hl with | [_, _], _ => rfl⟩
theorem Ctx.h_k_back (C : Ctx K mg) : ∃ fd, FunD K "back" "Keeper.back" (defArgs s_k_back) (defBody s_k_back) (defScope s_k_back) [] [] (He.ma K (kC K) "back") fd ∧ Meth K (kC K) "back" (He.ma K (kC K) "back") ∧ Binds K fd p_k_back [] := by
  obtain ⟨fd, h⟩ := C.says.def_ 41 (d := d_k_back) rfl
  exact ⟨fd, h, He.meth_ok (C.says.fact 85), FunD.bindsN h fun _ _ _ _ _ _ us hl => match us, hl with | [_], _ => rfl⟩
theorem Ctx.h_g_prime (C : Ctx K mg) : ∃ fd, FunD K "_law_gprime" "_law_gprime" (defArgs s_g_prime) (defBody s_g_prime) (defScope s_g_prime) [] [] (He.ga K "_law_gprime") fd ∧ mg "_law_gprime" = some (.ref (He.ga K "_law_gprime")) ∧ Binds K fd p_g_prime [] := by
  obtain ⟨fd, h⟩ := C.says.def_ 42 (d := d_g_prime) rfl
  exact ⟨fd, h, C.glo 28, FunD.bindsN h fun _ _ _ _ _ _ us hl => match us, hl with | [_], _ => rfl⟩
theorem Ctx.h_g_fresh (C : Ctx K mg) : ∃ fd, FunD K "_law_gfresh" "_law_gfresh" (defArgs s_g_fresh) (defBody s_g_fresh) (defScope s_g_fresh) [] [] (He.ga K "_law_gfresh") fd ∧ mg "_law_gfresh" = some (.ref (He.ga K "_law_gfresh")) ∧ Binds K fd p_g_fresh [] := by
  obtain ⟨fd, h⟩ := C.says.def_ 43 (d := d_g_fresh) rfl
  exact ⟨fd, h, C.glo 29, FunD.bindsN h fun _ _ _ _ _ _ us hl => match us, hl with | [_], _ => rfl⟩
theorem Ctx.h_g_draw (C : Ctx K mg) : ∃ fd, FunD K "_law_gdraw" "_law_gdraw" (defArgs s_g_draw) (defBody s_g_draw) (defScope s_g_draw) [] [] (He.ga K "_law_gdraw") fd ∧ mg "_law_gdraw" = some (.ref (He.ga K "_law_gdraw")) ∧ Binds K fd p_g_draw [] := by
  obtain ⟨fd, h⟩ := C.says.def_ 44 (d := d_g_draw) rfl
  exact ⟨fd, h, C.glo 30, FunD.bindsN h fun _ _ _ _ _ _ us hl => match us, hl with | [_, _], _ => rfl⟩
theorem Ctx.h_g_fillings (C : Ctx K mg) : ∃ fd, FunD K "_law_gfillings" "_law_gfillings" (defArgs s_g_fillings) (defBody s_g_fillings) (defScope s_g_fillings) [] [] (He.ga K "_law_gfillings") fd ∧ mg "_law_gfillings" = some (.ref (He.ga K "_law_gfillings")) ∧ Binds K fd p_g_fillings [] := by
  obtain ⟨fd, h⟩ := C.says.def_ 45 (d := d_g_fillings) rfl
  exact ⟨fd, h, C.glo 31, FunD.bindsN h fun _ _ _ _ _ _ us hl => match us, hl with | [_, _], _ => rfl⟩
theorem Ctx.h_g_word (C : Ctx K mg) : ∃ fd, FunD K "_law_gword" "_law_gword" (defArgs s_g_word) (defBody s_g_word) (defScope s_g_word) [] [] (He.ga K "_law_gword") fd ∧ mg "_law_gword" = some (.ref (He.ga K "_law_gword")) ∧ Binds K fd p_g_word [] := by
  obtain ⟨fd, h⟩ := C.says.def_ 46 (d := d_g_word) rfl
  exact ⟨fd, h, C.glo 32, FunD.bindsN h fun _ _ _ _ _ _ us hl => match us, hl with | [_], _ => rfl⟩
theorem Ctx.h_g_worths (C : Ctx K mg) : ∃ fd, FunD K "_law_gworths" "_law_gworths" (defArgs s_g_worths) (defBody s_g_worths) (defScope s_g_worths) [] [] (He.ga K "_law_gworths") fd ∧ mg "_law_gworths" = some (.ref (He.ga K "_law_gworths")) ∧ Binds K fd p_g_worths [] := by
  obtain ⟨fd, h⟩ := C.says.def_ 47 (d := d_g_worths) rfl
  exact ⟨fd, h, C.glo 33, FunD.bindsN h fun _ _ _ _ _ _ us hl => match us, hl with | [_, _, _], _ => rfl⟩
theorem Ctx.h_g_parts (C : Ctx K mg) : ∃ fd, FunD K "_law_gparts" "_law_gparts" (defArgs s_g_parts) (defBody s_g_parts) (defScope s_g_parts) [] [] (He.ga K "_law_gparts") fd ∧ mg "_law_gparts" = some (.ref (He.ga K "_law_gparts")) ∧ Binds K fd p_g_parts [] := by
  obtain ⟨fd, h⟩ := C.says.def_ 48 (d := d_g_parts) rfl
  exact ⟨fd, h, C.glo 34, FunD.bindsN h fun _ _ _ _ _ _ us hl => match us, hl with | [_, _, _, _], _ => rfl⟩
theorem Ctx.h_g_sheet (C : Ctx K mg) : ∃ fd, FunD K "_law_gsheet" "_law_gsheet" (defArgs s_g_sheet) (defBody s_g_sheet) (defScope s_g_sheet) [] [] (He.ga K "_law_gsheet") fd ∧ mg "_law_gsheet" = some (.ref (He.ga K "_law_gsheet")) ∧ Binds K fd p_g_sheet [] := by
  obtain ⟨fd, h⟩ := C.says.def_ 49 (d := d_g_sheet) rfl
  exact ⟨fd, h, C.glo 35, FunD.bindsN h fun _ _ _ _ _ _ us hl => match us, hl with | [_, _, _, _, _], _ => rfl⟩
theorem Ctx.h_g_order (C : Ctx K mg) : ∃ fd, FunD K "_law_gorder" "_law_gorder" (defArgs s_g_order) (defBody s_g_order) (defScope s_g_order) [] [] (He.ga K "_law_gorder") fd ∧ mg "_law_gorder" = some (.ref (He.ga K "_law_gorder")) ∧ Binds K fd p_g_order [] := by
  obtain ⟨fd, h⟩ := C.says.def_ 50 (d := d_g_order) rfl
  exact ⟨fd, h, C.glo 36, FunD.bindsN h fun _ _ _ _ _ _ us hl => match us, hl with | [_, _], _ => rfl⟩
theorem Ctx.h_g_bags (C : Ctx K mg) : ∃ fd, FunD K "_law_gbags" "_law_gbags" (defArgs s_g_bags) (defBody s_g_bags) (defScope s_g_bags) [] [] (He.ga K "_law_gbags") fd ∧ mg "_law_gbags" = some (.ref (He.ga K "_law_gbags")) ∧ Binds K fd p_g_bags [] := by
  obtain ⟨fd, h⟩ := C.says.def_ 51 (d := d_g_bags) rfl
  exact ⟨fd, h, C.glo 37, FunD.bindsN h fun _ _ _ _ _ _ us hl => match us, hl with | [_, _], _ => rfl⟩
theorem Ctx.h_g_tree (C : Ctx K mg) : ∃ fd, FunD K "_law_gtree" "_law_gtree" (defArgs s_g_tree) (defBody s_g_tree) (defScope s_g_tree) [] [] (He.ga K "_law_gtree") fd ∧ mg "_law_gtree" = some (.ref (He.ga K "_law_gtree")) ∧ Binds K fd p_g_tree [] := by
  obtain ⟨fd, h⟩ := C.says.def_ 52 (d := d_g_tree) rfl
  exact ⟨fd, h, C.glo 38, FunD.bindsN h fun _ _ _ _ _ _ us hl => match us, hl with | [_, _], _ => rfl⟩
theorem Ctx.h_g_near (C : Ctx K mg) : ∃ fd, FunD K "_law_gnear" "_law_gnear" (defArgs s_g_near) (defBody s_g_near) (defScope s_g_near) [] [] (He.ga K "_law_gnear") fd ∧ mg "_law_gnear" = some (.ref (He.ga K "_law_gnear")) ∧ Binds K fd p_g_near [] := by
  obtain ⟨fd, h⟩ := C.says.def_ 53 (d := d_g_near) rfl
  exact ⟨fd, h, C.glo 39, FunD.bindsN h fun _ _ _ _ _ _ us hl => match us, hl with | [_, _], _ => rfl⟩
theorem Ctx.h_g_side (C : Ctx K mg) : ∃ fd, FunD K "_law_gside" "_law_gside" (defArgs s_g_side) (defBody s_g_side) (defScope s_g_side) [] [] (He.ga K "_law_gside") fd ∧ mg "_law_gside" = some (.ref (He.ga K "_law_gside")) ∧ Binds K fd p_g_side [] := by
  obtain ⟨fd, h⟩ := C.says.def_ 54 (d := d_g_side) rfl
  exact ⟨fd, h, C.glo 40, FunD.bindsN h fun _ _ _ _ _ _ us hl => match us, hl with | [_, _, _], _ => rfl⟩
theorem Ctx.h_g_laid (C : Ctx K mg) : ∃ fd, FunD K "_law_glaid" "_law_glaid" (defArgs s_g_laid) (defBody s_g_laid) (defScope s_g_laid) [] [] (He.ga K "_law_glaid") fd ∧ mg "_law_glaid" = some (.ref (He.ga K "_law_glaid")) ∧ Binds K fd p_g_laid [] := by
  obtain ⟨fd, h⟩ := C.says.def_ 55 (d := d_g_laid) rfl
  exact ⟨fd, h, C.glo 41, FunD.bindsN h fun _ _ _ _ _ _ us hl => match us, hl with | [_, _], _ => rfl⟩
theorem Ctx.h_g_begun (C : Ctx K mg) : ∃ fd, FunD K "_law_gbegun" "_law_gbegun" (defArgs s_g_begun) (defBody s_g_begun) (defScope s_g_begun) [] [] (He.ga K "_law_gbegun") fd ∧ mg "_law_gbegun" = some (.ref (He.ga K "_law_gbegun")) ∧ Binds K fd p_g_begun [] := by
  obtain ⟨fd, h⟩ := C.says.def_ 56 (d := d_g_begun) rfl
  exact ⟨fd, h, C.glo 42, FunD.bindsN h fun _ _ _ _ _ _ us hl => match us, hl with | [_, _, _], _ => rfl⟩
theorem Ctx.h_g_set (C : Ctx K mg) : ∃ fd, FunD K "_law_gset" "_law_gset" (defArgs s_g_set) (defBody s_g_set) (defScope s_g_set) [] [] (He.ga K "_law_gset") fd ∧ mg "_law_gset" = some (.ref (He.ga K "_law_gset")) ∧ Binds K fd p_g_set [] := by
  obtain ⟨fd, h⟩ := C.says.def_ 57 (d := d_g_set) rfl
  exact ⟨fd, h, C.glo 43, FunD.bindsN h fun _ _ _ _ _ _ us hl => match us, hl with | [_, _, _, _], _ => rfl⟩
theorem Ctx.h_g_do (C : Ctx K mg) : ∃ fd, FunD K "_law_gdo" "_law_gdo" (defArgs s_g_do) (defBody s_g_do) (defScope s_g_do) [] [] (He.ga K "_law_gdo") fd ∧ mg "_law_gdo" = some (.ref (He.ga K "_law_gdo")) ∧ Binds K fd p_g_do [] := by
  obtain ⟨fd, h⟩ := C.says.def_ 58 (d := d_g_do) rfl
  exact ⟨fd, h, C.glo 44, FunD.bindsN h fun _ _ _ _ _ _ us hl => match us, hl with | [_, _], _ => rfl⟩
theorem Ctx.h_g_deed (C : Ctx K mg) : ∃ fd, FunD K "_law_gdeed" "_law_gdeed" (defArgs s_g_deed) (defBody s_g_deed) (defScope s_g_deed) [] [] (He.ga K "_law_gdeed") fd ∧ mg "_law_gdeed" = some (.ref (He.ga K "_law_gdeed")) ∧ Binds K fd p_g_deed [] := by
  obtain ⟨fd, h⟩ := C.says.def_ 59 (d := d_g_deed) rfl
  exact ⟨fd, h, C.glo 45, FunD.bindsN h fun _ _ _ _ _ _ us hl => match us, hl with | [_, _], _ => rfl⟩
theorem Ctx.h_g_say (C : Ctx K mg) : ∃ fd, FunD K "_law_gsay" "_law_gsay" (defArgs s_g_say) (defBody s_g_say) (defScope s_g_say) [] [] (He.ga K "_law_gsay") fd ∧ mg "_law_gsay" = some (.ref (He.ga K "_law_gsay")) ∧ Binds K fd p_g_say [] := by
  obtain ⟨fd, h⟩ := C.says.def_ 60 (d := d_g_say) rfl
  exact ⟨fd, h, C.glo 46, FunD.bindsN h fun _ _ _ _ _ _ us hl => match us, hl with | [_, _], _ => rfl⟩
theorem Ctx.h_g_far (C : Ctx K mg) : ∃ fd, FunD K "_law_gfar" "_law_gfar" (defArgs s_g_far) (defBody s_g_far) (defScope s_g_far) [] [] (He.ga K "_law_gfar") fd ∧ mg "_law_gfar" = some (.ref (He.ga K "_law_gfar")) ∧ Binds K fd p_g_far [] := by
  obtain ⟨fd, h⟩ := C.says.def_ 61 (d := d_g_far) rfl
  exact ⟨fd, h, C.glo 47, FunD.bindsN h fun _ _ _ _ _ _ us hl => match us, hl with | [_, _, _], _ => rfl⟩
theorem Ctx.h_g_all (C : Ctx K mg) : ∃ fd, FunD K "_law_gall" "_law_gall" (defArgs s_g_all) (defBody s_g_all) (defScope s_g_all) [] [] (He.ga K "_law_gall") fd ∧ mg "_law_gall" = some (.ref (He.ga K "_law_gall")) ∧ Binds K fd p_g_all [] := by
  obtain ⟨fd, h⟩ := C.says.def_ 62 (d := d_g_all) rfl
  exact ⟨fd, h, C.glo 48, FunD.bindsN h fun _ _ _ _ _ _ us hl => match us, hl with | [_, _], _ => rfl⟩
theorem Ctx.h_g_touched (C : Ctx K mg) : ∃ fd, FunD K "_law_gtouched" "_law_gtouched" (defArgs s_g_touched) (defBody s_g_touched) (defScope s_g_touched) [] [] (He.ga K "_law_gtouched") fd ∧ mg "_law_gtouched" = some (.ref (He.ga K "_law_gtouched")) ∧ Binds K fd p_g_touched [] := by
  obtain ⟨fd, h⟩ := C.says.def_ 63 (d := d_g_touched) rfl
  exact ⟨fd, h, C.glo 49, FunD.bindsN h fun _ _ _ _ _ _ us hl => match us, hl with | [_, _], _ => rfl⟩
theorem Ctx.h_g_forgotten (C : Ctx K mg) : ∃ fd, FunD K "_law_gforgotten" "_law_gforgotten" (defArgs s_g_forgotten) (defBody s_g_forgotten) (defScope s_g_forgotten) [] [] (He.ga K "_law_gforgotten") fd ∧ mg "_law_gforgotten" = some (.ref (He.ga K "_law_gforgotten")) ∧ Binds K fd p_g_forgotten [] := by
  obtain ⟨fd, h⟩ := C.says.def_ 64 (d := d_g_forgotten) rfl
  exact ⟨fd, h, C.glo 50, FunD.bindsN h fun _ _ _ _ _ _ us hl => match us, hl with | [_, _], _ => rfl⟩
theorem Ctx.h_g_fresh_told (C : Ctx K mg) : ∃ fd, FunD K "_law_gfresh_told" "_law_gfresh_told" (defArgs s_g_fresh_told) (defBody s_g_fresh_told) (defScope s_g_fresh_told) [] [] (He.ga K "_law_gfresh_told") fd ∧ mg "_law_gfresh_told" = some (.ref (He.ga K "_law_gfresh_told")) ∧ Binds K fd p_g_fresh_told [] := by
  obtain ⟨fd, h⟩ := C.says.def_ 65 (d := d_g_fresh_told) rfl
  exact ⟨fd, h, C.glo 51, FunD.bindsN h fun _ _ _ _ _ _ us hl => match us, hl with | [_, _], _ => rfl⟩
theorem Ctx.h_law (C : Ctx K mg) : ∃ fd, FunD K "law" "law" (defArgs s_law) (defBody s_law) (defScope s_law) [] [] (He.ga K "law") fd ∧ mg "law" = some (.ref (He.ga K "law")) ∧ Binds K fd p_law [] := by
  obtain ⟨fd, h⟩ := C.says.def_ 66 (d := d_law) rfl
  exact ⟨fd, h, C.glo 52, FunD.bindsN h fun _ _ _ _ _ _ us hl => match us, hl with | [_], _ => rfl⟩
end
section
variable {P : Program} {w : World} {K : PySem.W.Frag} {mg : Str → Option Value} {base : Heap}
/-- the context of a def's body -/
abbrev cx (P : Program) (w : World) (K : PySem.W.Frag) (mg : Str → Option Value) (base : Heap) (N : List Str) (qual : Str) (scope : Scope) (f : Addr) (cdv : Value) (A : Around) (outer : List Env) (s : Shared) (H : Hp) (E : XK) : Cx := (cxOf CX0 P w K mg base N qual scope f cdv A outer s H E).nox
theorem cal_of {x : Str} {ar : Arguments} {bd : List Stmt} {sc : Scope} {f : Addr} {N ps : List Str} {k : Nat} {sp : Sp} (h : ∃ fd, FunD K x x ar bd sc [] [] f fd ∧ mg x = some (.ref f) ∧ Binds K fd ps []) (S : FnScope N ps sc) (len : ∀ vs H Q E, sp vs H Q E → vs.length = ps.length)
    (body : ∀ (cdv : Value) (A : Around) (outer : List Env) (s : Shared) (H : Hp) (vs : List V) (Q : VK) (E : XK), Room k (A.deeper (envOfC x sc s.heap.objs.size f cdv)) → sp vs H Q E →
      BW (cx P w K mg base N x sc f cdv A outer s H E) bd { nx := fun _ H' => Q .non H', rt := Q } (start N vs) H) : C8.Cal P w K mg base (k + 1) x sp [] := by
  obtain ⟨fd, F, hm, b⟩ := h
  exact ⟨f, fd, ps, [], F.ok S len fun cdv A outer s H vs Q E hr hsp => ⟨_, pss_bw.nox, body cdv A outer s H vs Q E hr hsp⟩, hm, F.kp, b, .nil⟩
theorem met_of {x q : Str} {ar : Arguments} {bd : List Stmt} {sc : Scope} {C f : Addr} {N ps : List Str} {k : Nat} {sp : Sp} (c : Cls K C) (h : ∃ fd, FunD K x q ar bd sc [] [] f fd ∧ Meth K C x f ∧ Binds K fd ps []) (S : FnScope N ps sc) (len : ∀ vs H Q E, sp vs H Q E → vs.length = ps.length)
    (body : ∀ (cdv : Value) (A : Around) (outer : List Env) (s : Shared) (H : Hp) (vs : List V) (Q : VK) (E : XK), Room k (A.deeper (envOfC q sc s.heap.objs.size f cdv)) → sp vs H Q E →
      BW (cx P w K mg base N q sc f cdv A outer s H E) bd { nx := fun _ H' => Q .non H', rt := Q } (start N vs) H) : C8.Met P w K mg base (k + 1) C x sp [] := by
  obtain ⟨fd, F, hm, b⟩ := h
  exact ⟨f, fd, ps, [], c, hm, F.ok S len fun cdv A outer s H vs Q E hr hsp => ⟨_, pss_bw.nox, body cdv A outer s H vs Q E hr hsp⟩, b, .nil⟩
theorem dpa_len' {vs : List V} {H : Hp} {ds : List D0} {n : Nat} (h : DpAll K H vs ds) (e : ds.length = n := by rfl) : vs.length = n := (dpa_len h).trans e
end
end SO
set_option Elab.async false
set_option linter.all false
set_option maxRecDepth 100000
set_option maxHeartbeats 0
/-! SoHd: what the top leaves, by one run. Printed by gen_head.py. -/
namespace SO
open PySem PySem.Spec PyProof.Rows L2
def names1 : List PySem.Str := [("ROOF" : PySem.Str), ("unit" : PySem.Str), ("join" : PySem.Str), ("gather" : PySem.Str), ("is_whole" : PySem.Str), ("product" : PySem.Str), ("fillings_of" : PySem.Str), ("SumError" : PySem.Str), ("NoFilling" : PySem.Str), ("NoName" : PySem.Str), ("NoTree" : PySem.Str), ("NoBag" : PySem.Str), ("NoPart" : PySem.Str), ("NoWorths" : PySem.Str), ("NoBack" : PySem.Str), ("MOST_WORTH" : PySem.Str), ("are_names" : PySem.Str), ("need_names" : PySem.Str), ("are_worths" : PySem.Str), ("place_of" : PySem.Str), ("worth_by" : PySem.Str), ("joined" : PySem.Str), ("need_name" : PySem.Str), ("without" : PySem.Str), ("gathered" : PySem.Str)]
def names2 : List PySem.Str := [("settled" : PySem.Str), ("widened" : PySem.Str), ("all_joined" : PySem.Str), ("MOST_BAGS" : PySem.Str), ("are_bags" : PySem.Str), ("is_tie" : PySem.Str), ("near_of" : PySem.Str), ("hanging" : PySem.Str), ("is_tree" : PySem.Str), ("is_bag_tree" : PySem.Str), ("bag_of" : PySem.Str), ("left_for" : PySem.Str), ("is_number" : PySem.Str), ("side_of" : PySem.Str), ("Keeper" : PySem.Str), ("_law_gprime" : PySem.Str), ("_law_gfresh" : PySem.Str), ("_law_gdraw" : PySem.Str), ("_law_gunit" : PySem.Str), ("_law_gjoin" : PySem.Str), ("_law_ggather" : PySem.Str), ("_law_gfillings" : PySem.Str), ("_law_gat" : PySem.Str), ("_law_ggone" : PySem.Str), ("_law_grest" : PySem.Str)]
def names3 : List PySem.Str := [("_law_gword" : PySem.Str), ("_law_gworths" : PySem.Str), ("_law_gparts" : PySem.Str), ("_law_gsheet" : PySem.Str), ("_law_gorder" : PySem.Str), ("_law_gbags" : PySem.Str), ("_law_gtree" : PySem.Str), ("_law_gnear" : PySem.Str), ("_law_gside" : PySem.Str), ("_law_glaid" : PySem.Str), ("_law_gbegun" : PySem.Str), ("_law_gset" : PySem.Str), ("_law_gdo" : PySem.Str), ("_law_gdeed" : PySem.Str), ("_law_gdue" : PySem.Str), ("_law_gsay" : PySem.Str), ("_law_gfar" : PySem.Str), ("_law_gall" : PySem.Str), ("_law_gtouched" : PySem.Str), ("_law_gforgotten" : PySem.Str), ("_law_gfresh_told" : PySem.Str)]
def names : List PySem.Str := names1 ++ names2 ++ names3
abbrev R : PySem.W.OpenRow := PySem.W.OpenLaw.row PySem.Challenge.rw_sumorder_k76_whole_long_histories
abbrev hk : PySem.W.Hook := He.hookD 5 fa fn
def ob (s : PySem.W.SharedT) : He.AlD := He.obsDG 5 fa fn (HandSHeadRun.getT s)
theorem ob_eq (s : PySem.W.SharedT) : ob s = hk.obs s.abs := He.obsDG_eq (HandSHeadRun.getT_eq s)
theorem run (w : World) : HandSHeadRun.RunEq R (PySem.W.view R.prog [80]) hk ob 12000 names w := by
  intro os
  kernel_rfl
end SO
set_option Elab.async false
set_option linter.all false
set_option maxRecDepth 100000
set_option maxHeartbeats 4000000
/-! So10: statements over data in short; the deeds. -/
namespace SO
open PySem PySem.Spec PyProof.Rows L2
section
variable {X : Cx} {e c : Expr} {σ : L2.St} {H : Hp} {sts tb eb : List Stmt} {pos pos' : Pos} {d : D0} {ds : List D0} {D : Ends} {x : Str}
theorem b_ifv {b : Bool} (h : Tv X c σ H b) (h1 : b = true → ∀ H1, Same H H1 → BW X tb { D with nx := fun σ' H' => BW X sts D σ' H' } σ H1) (h2 : b = false → ∀ H1, Same H H1 → BW X eb { D with nx := fun σ' H' => BW X sts D σ' H' } σ H1) : BW X (.If c tb eb pos :: sts) D σ H :=
  b_if (h.go fun H1 k => by
    cases b with
    | true => exact iteT (h1 rfl H1 k)
    | false => exact iteF (h2 rfl H1 k))
theorem b_when {b : Bool} (h : Tv X c σ H b) (h1 : b = true → ∀ H1, Same H H1 → BW X tb { D with nx := fun σ' H' => BW X sts D σ' H' } σ H1) (h2 : b = false → ∀ H1, Same H H1 → BW X sts D σ H1) : BW X (.If c tb [] pos :: sts) D σ H :=
  b_ifv h h1 fun hb H1 k => bw_nil (h2 hb H1 k)
/-- a test that does not hold -/
theorem b_skip {b : Bool} (h : Tv X c σ H b) (hb : b = false) (h2 : ∀ H1, Same H H1 → BW X sts D σ H1) : BW X (.If c tb [] pos :: sts) D σ H := b_when h (fun z => by rw [hb] at z; cases z) fun _ => h2
theorem b_retv (h : Ev X e σ H d) (q : ∀ v H1, Same H H1 → Dp X.K H1 v d → D.rt v H1) : BW X (.Return (some e) pos :: sts) D σ H := b_ret (h.go q)
theorem b_setv (i : Nat) (hN : X.N.Nodup) (h : Ev X e σ H d) (q : ∀ v H1, Same H H1 → Dp X.K H1 v d → BW X sts D (σ.set i (some v)) H1) (hi : X.N[i]? = some x := by rfl) (hx : Loc X.env.scope x := by first | exact Or.inl rfl | exact Or.inr rfl)
    (hs : swapsWith e (some (.Name x pos')) pos.line X.env = pure false := by rfl) (hf : X.fn x = true ∨ X.env.scope.names.lookup x = some .local := by first | exact .inl rfl | exact .inr rfl) : BW X (.Assign [.Name x pos'] e pos :: sts) D σ H := b_set i hN (h.go q) hi hx hs hf
theorem b_setl (i : Nat) (hN : X.N.Nodup) (h : EvL X e σ H ds) (q : ∀ l H1, H l = none → Same H H1 → Ls X.K H1 l ds → BW X sts D (σ.set i (some (.ref l))) H1) (hi : X.N[i]? = some x := by rfl) (hx : Loc X.env.scope x := by first | exact Or.inl rfl | exact Or.inr rfl)
    (hs : swapsWith e (some (.Name x pos')) pos.line X.env = pure false := by rfl) (hf : X.fn x = true ∨ X.env.scope.names.lookup x = some .local := by first | exact .inl rfl | exact .inr rfl) : BW X (.Assign [.Name x pos'] e pos :: sts) D σ H := b_set i hN (h.go q) hi hx hs hf
/-- name = [comprehension] -/
theorem b_setlc (i : Nat) {py spos : Pos} {elt tg iter : Expr} {ifs : List Expr} {scope : Scope} (h : LcV X elt tg iter ifs scope σ H ds) (q : ∀ l H1, H l = none → Same H H1 → Ls X.K H1 l ds → BW X sts D (σ.set i (some (.ref l))) H1) (hy : X.N[i]? = some x := by rfl) (hyl : X.env.scope.names.lookup x = some .local := by rfl)
    (hsw : swapsWith (.ListComp elt [⟨tg, iter, ifs, 0⟩] scope pos) (some (.Name x py)) spos.line X.env = pure true := by exact sw_true rfl rfl rfl (by decide +kernel)) : BW X (.Assign [.Name x py] (.ListComp elt [⟨tg, iter, ifs, 0⟩] scope pos) spos :: sts) D σ H := by
  exact b_setLc i (h H (Same.refl H) _ fun l H1 k n r => q l H1 n k r) hy hyl hsw
end
end SO
set_option Elab.async false
set_option linter.all false
set_option maxRecDepth 100000
set_option maxHeartbeats 4000000
/-! So11: methods of lists and tuples, sums, kinds, tuples joined. -/
namespace SO
open PySem PySem.Spec PyProof.Rows L2
section
variable {X : Cx} {o e a b : Expr} {es : List Expr} {σ : L2.St} {H : Hp} {sts : List Stmt} {pos apos cpos p : Pos} {d d1 d2 : D0} {ds es' : List D0} {D : Ends} {x name : Str} {T id : String} {r : V → List V → Hp → VK → Prop} {ty : V → Hp → Prop} {Q : VK}
theorem ew_m0 (ht : TyOk X T ty) (pa : PlainAttrs T) (slot : Slot T name id) (hm : MtR X id r) (h : EW X o σ H fun x H1 => ty x H1 ∧ r x [] H1 Q) (hty : typeOf (.builtin id) = pure (.type "method_descriptor") := by first | decide +kernel | kernel_rfl)
    (hbase : attributeBase o name X.env (eval o X.env) = eval o X.env := by rfl) (hline : (apos.endLine == cpos.line) = true := by rfl) : EW X (.Call (.Attribute o name apos) [] [] cpos) σ H Q := ew_pe (pe_mG0 ht pa slot hty hm pe_ew hbase hline) h
theorem ew_m (ht : TyOk X T ty) (pa : PlainAttrs T) (slot : Slot T name id) (hm : MtR X id r) (h : EW X o σ H fun x H1 => ty x H1 ∧ AW X (e :: es) σ H1 fun xs H2 => r x xs H2 Q) (hty : typeOf (.builtin id) = pure (.type "method_descriptor") := by first | decide +kernel | kernel_rfl)
    (hbase : attributeBase o name X.env (eval o X.env) = eval o X.env := by rfl)
    (hfew : ((backTo cpos (starEach (e :: es) X.env)).all (fun x => !x.1) && (backToKw cpos (keywordEach [] X.env)).all (fun x => x.1.isSome)
      && decide ((e :: es).length + ([] : List Keyword).length + (if ([] : List Keyword).isEmpty then 0 else 1) < 30)) = true := by rfl)
    (hline : (apos.endLine == cpos.line) = true := by rfl) (hs : starEach (e :: es) X.env = (false, eval e X.env) :: starEach es X.env := by rfl) (hplain : (backTo cpos (starEach es X.env)).any (·.1) = false := by rfl) : EW X (.Call (.Attribute o name apos) (e :: es) [] cpos) σ H Q :=
  ew_pe (pe_mG ht pa slot hty hm pe_ew pa_aw hbase hfew hline hs hplain) h
end
end SO
namespace SO
open PySem PySem.Spec PyProof.Rows L2
section
variable {X : Cx} {o e a b : Expr} {es : List Expr} {σ : L2.St} {H : Hp} {sts : List Stmt} {pos apos cpos p spos px : Pos} {d d1 d2 : D0} {ds ls : List D0} {D : Ends} {x name : Str} {Q : VK} {q : Addr}
def tyL (x : V) (H : Hp) : Prop := ∃ p xs, x = .ref p ∧ H p = some (.lst xs)
def tySL (K : PySem.W.Frag) (x : V) (H : Hp) : Prop := ∃ p xs, x = .ref p ∧ SqL K H p xs
theorem tyL_ok : TyOk X "list" tyL := fun pins σ H s x v I r ⟨p, xs, e, h⟩ => by
  subst e
  exact tyV_is (T := "list") I r (.inl ⟨rfl, xs, .inl (.inl h)⟩)
theorem tySL_ok : TyOk X "list" (tySL X.K) := fun pins σ H s x v I r ⟨p, xs, e, h⟩ => by
  subst e
  exact tyV_is (T := "list") I r (.inl ⟨rfl, xs, h⟩)
/-- but for the list at q nothing known changed -/
def SameB (q : Addr) (H H' : Hp) : Prop := ∀ b o, b ≠ q → H b = some o → H' b = some o
theorem SameB.same {q : Addr} {H0 H H' : Hp} (k : SameB q H H') (s : Same H0 H) (n : H0 q = none) : Same H0 H' := fun b o hb => k b o (ne_of_none hb n) (s b o hb)
theorem SameB.tp {q : Addr} {H H' : Hp} (k : SameB q H H') {xs : List V} (h : H q = some (.lst xs)) : Tp H H' := fun b ys hb => by
  have ne : b ≠ q := fun z => by
    rw [z] at hb
    rcases hb with h' | ⟨o, h'⟩ <;> (rw [h] at h'; cases h')
  rcases hb with h | ⟨o, h⟩
  · exact .inl (k _ _ ne h)
  · exact .inr ⟨o, k _ _ ne h⟩
theorem SameB.of_same {q : Addr} {H H' : Hp} (s : Same H H') : SameB q H H' := fun b o _ h => s b o h
theorem SameB.trans {q : Addr} {H H1 H2 : Hp} (a : SameB q H H1) (b : SameB q H1 H2) : SameB q H H2 := fun c o n h => b c o n (a c o n h)
theorem sameB_upd {q : Addr} {H : Hp} {o : HO} : SameB q H (upd H q o) := fun b u n h => by rw [upd_ne n]; exact h
/-! ### tuples with no dict on them -/
def TupX (H : Hp) (a : Addr) (xs : List V) : Prop := ∃ o : Obj, H a = some (.frz o (.tup xs)) ∧ o.dict = none
theorem TupX.sq {K : PySem.W.Frag} {H : Hp} {a : Addr} {xs : List V} (h : TupX H a xs) : SqT K H a xs := by
  obtain ⟨o, h, _⟩ := h
  exact .inl (.inr ⟨o, h⟩)
theorem TupX.mono {H H' : Hp} {a : Addr} {xs : List V} (h : TupX H a xs) (k : Same H H') : TupX H' a xs := by
  obtain ⟨o, h, d⟩ := h
  exact ⟨o, k _ _ h, d⟩
def tyTX (x : V) (H : Hp) : Prop := ∃ p xs, x = .ref p ∧ TupX H p xs
theorem tyTX_ok : TyOk X "tuple" tyTX := fun pins σ H s x v I r ⟨p, xs, e, o, h, hd⟩ => by
  subst e
  cases r
  obtain ⟨h1, z, its, rv, o2, h2, h3, h4⟩ := (show ObjOk X.prog X.w H s.heap p (.frz o (.tup xs)) from I.hok p _ h)
  rw [h1] at h2
  cases h2
  exact ⟨⟨o, h1, h3⟩, fun a e => by cases e; exact ⟨o, h1, hd⟩⟩
theorem ew_tupX {kk : Nat} (h : AW X es σ H fun xs H1 => xs.length ≤ sizeLine ∧ ∀ p, H1 p = none → ∀ o : Obj, o.dict = none → Q (.ref p) (upd H1 p (.frz o (.tup xs)))) : EW X (.Tuple es kk pos) σ H Q := fun pins s I => by
  refine wpAny_Tuple_spliced (thn (h pos pins s I) fun us s1 ⟨xs, H1, I1, r, z, q⟩ => ⟨by rw [← r.length]; exact z, ?_⟩)
  have hf : H1 s1.heap.objs.size = none := I1.hok.fresh (Nat.le_refl _)
  refine ⟨.ref s1.heap.objs.size, upd H1 s1.heap.objs.size (.frz _ (.tup xs)), I1.laid (t' := s1.toks) (fun b u e => Heap.get?_push_of_some _ e) (Nat.le_refl _) ?_, rfl, q _ hf { cls := .type "tuple", data := .seq us.toArray } rfl⟩
  exact ⟨Heap.get?_push_size _ rfl, z, us, r, ⟨_, Heap.get?_push_size _ rfl, rfl, _, rfl⟩⟩
theorem call_tupleX : CallR X (.type "tuple") (fun xs H Q => ∃ p ys, xs = [.ref p] ∧ SqL X.K H p ys ∧ ∀ l, H l = none → ∀ o : Obj, o.dict = none → Q (.ref l) (upd H l (.frz o (.tup ys)))) := by
  intro pins s σ H xs us Q I r h
  obtain ⟨p, ys, rfl, hq, q⟩ := h
  obtain ⟨u, rfl, rx⟩ := vals1 r
  cases rx
  obtain ⟨its, r', pl, hz⟩ := I.list hq
  have hlen := r'.length
  refine call_tuple_list pl.isList (fun h' kp => ?_) (by simp only [List.size_toArray] <;> omega)
  have I1 : Inv X pins σ H { s with heap := h' } := I.kept (t' := s.toks) kp
  have I2 : Inv X pins σ (upd H h'.objs.size (.frz { cls := .type "tuple", data := .seq its.toArray } (.tup ys))) { s with heap := h'.push { cls := .type "tuple", data := .seq its.toArray } } :=
    I1.laid (t' := s.toks) (fun b o e => Heap.get?_push_of_some _ e) (Nat.le_refl _) (show ObjOk X.prog X.w _ _ _ (.frz _ (.tup ys)) from ⟨Heap.get?_push_size _ rfl, hz, its, r', IsTup.new _ _⟩)
  exact ⟨.ref h'.objs.size, _, I2, rfl, q _ (I1.hok.fresh (Nat.le_refl _)) _ rfl⟩
def rCatX (K : PySem.W.Frag) : R2 := fun x y H Q => ∃ a b xs ys, x = .ref a ∧ y = .ref b ∧ SqT K H a xs ∧ SqT K H b ys ∧ ys ≠ [] ∧ xs.length + ys.length ≤ sizeLine ∧
  (xs = [] → Q (.ref b) H) ∧ (xs ≠ [] → ∀ p, H p = none → ∀ o : Obj, o.dict = none → Q (.ref p) (upd H p (.frz o (.tup (xs ++ ys)))))
theorem op_catX : OpR X (binaryOp .Add) (rCatX X.K) := by
  intro pins s σ H x y v u Q I rx ry h
  obtain ⟨a, b, xs, ys, rfl, rfl, ha, hb, hy, hz, q0, q2⟩ := h
  by_cases hx : xs = []
  · exact op_catA pins s σ H _ _ v u Q I rx ry ⟨a, b, xs, ys, rfl, rfl, ha, hb, hz, q0, fun z => absurd hx z, fun z => absurd hx z⟩
  · cases rx
    cases ry
    obtain ⟨its, r1, p1, _⟩ := I.tuple ha
    obtain ⟨its2, r2, p2, _⟩ := I.tuple hb
    refine HT.cat_tup p1 p2 (fun z => hx (r1.nil_iff.mp z)) (fun z => absurd (r2.nil_iff.mp z) hy) (fun z => ?_) (by rw [← r1.length, ← r2.length]; exact hz)
    refine ⟨.ref s.heap.objs.size, _, I.laid (t' := s.toks) (o := .frz { cls := .type "tuple", data := .seq (its ++ its2).toArray } (.tup (xs ++ ys))) (fun b ob q => Heap.get?_push_of_some _ q) (Nat.le_refl _) ?_, rfl, q2 hx _ (I.hok.fresh (Nat.le_refl _)) _ rfl⟩
    exact ⟨Heap.get?_push_size _ rfl, by rw [List.length_append]; exact hz, its ++ its2, r1.append r2, IsTup.new _ _⟩
/-- a tuple of natural numbers with no dict on it -/
def Tx (H : Hp) (v : V) (ns : List Nat) : Prop := ∃ a, v = .ref a ∧ TupX H a ((zs ns).map V.int)
theorem Tx.dp {K : PySem.W.Frag} {H : Hp} {v : V} {ns : List Nat} (h : Tx H v ns) : Dp K H v (pns ns) := by
  obtain ⟨a, rfl, h⟩ := h
  unfold pns
  rw [map_pn]
  exact .tup h.sq dpa_of_ints
theorem Tx.mono {H H' : Hp} {v : V} {ns : List Nat} (h : Tx H v ns) (k : Same H H') : Tx H' v ns := by
  obtain ⟨a, e, h⟩ := h
  exact ⟨a, e, h.mono k⟩
def Ex (X : Cx) (e : Expr) (σ : L2.St) (H : Hp) (ns : List Nat) : Prop := ∀ H1, Same H H1 → EW X e σ H1 fun v H2 => Same H1 H2 ∧ Tx H2 v ns
theorem Ex.go {ns : List Nat} (h : Ex X e σ H ns) (k : ∀ v H1, Same H H1 → Tx H1 v ns → Q v H1) : EW X e σ H Q := (h H (Same.refl H)).mono fun v H1 ⟨s, r⟩ => k v H1 s r
theorem Ex.to {ns ms : List Nat} (h : Ex X e σ H ns) (k : ns = ms) : Ex X e σ H ms := k ▸ h
theorem ex_v (i : Nat) {v : V} {ns : List Nat} (hs : σ[i]? = some (some v)) (r : Tx H v ns) (hN : X.N[i]? = some x := by rfl) (hv : Vis X.env.scope x := by first | exact Or.inl rfl | exact Or.inr (Or.inl rfl) | exact Or.inr (Or.inr rfl)) (hd : (x == ("__debug__" : Str)) = false := by decide)
    (hcd : (x == ("__classdict__" : Str)) = false := by decide) : Ex X (.Name x pos) σ H ns := fun H1 k => ew_v i hs ⟨Same.refl _, r.mono k⟩ hN hv hd hcd
theorem same_frz {H : Hp} {p : Addr} {o : HO} (h : H p = none) : Same H (upd H p o) := same_new h
theorem ex_one {kk : Nat} {n : Nat} (h : Ev X e σ H (pn n)) (hs : starEach [e] X.env = (false, eval e X.env) :: starEach [] X.env := by rfl) : Ex X (.Tuple [e] kk pos) σ H [n] := fun H1 k =>
  ew_tupX ((eva1 h hs H1 k).mono fun xs H2 ⟨k2, r⟩ => by
    obtain ⟨v, rfl, r1⟩ := dpa1 r
    rw [dp_int r1]
    exact ⟨by show 1 ≤ sizeLine; decide, fun p hp o ho => ⟨k2.trans (same_new hp), p, rfl, o, upd_same, ho⟩⟩)
theorem dp_pns {K : PySem.W.Frag} {H : Hp} {v : V} {ns : List Nat} (h : Dp K H v (pns ns)) : ∃ a, v = .ref a ∧ SqT K H a ((zs ns).map V.int) := by
  unfold pns at h
  rw [map_pn] at h
  obtain ⟨a, xs, rfl, h1, h2⟩ := dp_tup h
  rw [dpa_ints h2] at h1
  exact ⟨a, rfl, h1⟩
theorem ex_cat {ns ms : List Nat} (ha : Ev X a σ H (pns ns)) (hb : Ex X b σ H ms) (hm : ms ≠ []) (hl : ns.length + ms.length ≤ 100000) : Ex X (.BinOp a .Add b pos) σ H (ns ++ ms) := fun H1 k =>
  ew_op op_catX ((ha H1 k).mono fun x H2 ⟨k2, r1⟩ => (hb H2 (k.trans k2)).mono fun y H3 ⟨k3, r2⟩ => by
    obtain ⟨p, rfl, h1⟩ := dp_pns (dp_mono k3 r1)
    obtain ⟨q, rfl, h2⟩ := r2
    refine ⟨p, q, _, _, rfl, rfl, h1, h2.sq, fun z => hm ?_, ?_, fun z => ?_, fun z p hp o ho => ⟨(k2.trans k3).trans (same_new hp), p, rfl, o, ?_, ho⟩⟩
    · have := congrArg List.length z
      simp [zs] at this
      exact this
    · simp only [zs, List.length_map]
      exact small hl
    · have e : ns = [] := by
        have := congrArg List.length z
        simp [zs] at this
        exact this
      subst e
      exact ⟨k2.trans k3, q, rfl, h2⟩
    · rw [upd_same]
      simp [zs])
theorem ex_tupleL {ns : List Nat} (hm : X.mg "tuple" = none) (h : Ev X e σ H (.list (ns.map pn))) (hg : Gl X "tuple" := by rfl) (he : starEach [e] X.env = (false, eval e X.env) :: starEach [] X.env := by rfl) (hpl : (backTo pos (starEach [] X.env)).any (·.1) = false := by rfl) : Ex X (.Call (.Name "tuple" p) [e] [] pos) σ H ns := fun H1 k =>
  ew_callTy call_tupleX hm (by decide +kernel) ((eva1 h he H1 k).mono fun vs H2 ⟨k2, r⟩ => by
    obtain ⟨v, rfl, r1⟩ := dpa1 r
    rw [map_pn] at r1
    obtain ⟨a, xs, rfl, h1, h2⟩ := dp_lst r1
    rw [dpa_ints h2] at h1
    exact ⟨a, _, rfl, h1, fun l hl o ho => ⟨k2.trans (same_new hl), l, rfl, o, upd_same, ho⟩⟩) hg (by decide) (by decide) he hpl
/-- t.index(n) -/
theorem ev_tupIx (i : Nat) {v : V} {ns : List Nat} {n : Nat} (hs : σ[i]? = some (some v)) (r : Tx H v ns) (hn : n ∈ ns) (h : Ev X e σ H (pn n)) (hN : X.N[i]? = some x := by rfl) (hv : Vis X.env.scope x := by first | exact Or.inl rfl | exact Or.inr (Or.inl rfl) | exact Or.inr (Or.inr rfl)) (hd : (x == ("__debug__" : Str)) = false := by decide)
    (hcd : (x == ("__classdict__" : Str)) = false := by decide) (hbase : attributeBase (.Name x px) "index" X.env (eval (.Name x px) X.env) = eval (.Name x px) X.env := by rfl)
    (hfew : ((backTo cpos (starEach [e] X.env)).all (fun x => !x.1) && (backToKw cpos (keywordEach [] X.env)).all (fun x => x.1.isSome)
      && decide ([e].length + ([] : List Keyword).length + (if ([] : List Keyword).isEmpty then 0 else 1) < 30)) = true := by rfl)
    (hline : (apos.endLine == cpos.line) = true := by rfl) (hs1 : starEach [e] X.env = (false, eval e X.env) :: starEach [] X.env := by rfl) (hplain : (backTo cpos (starEach [] X.env)).any (·.1) = false := by rfl) :
    Ev X (.Call (.Attribute (.Name x px) "index" apos) [e] [] cpos) σ H (pn (ns.idxOf n)) := fun H1 k => by
  refine ew_m tyTX_ok PySem.F.plainAttrs_tuple PySem.F.slot_tuple_index mt_tupIx ?_ (hbase := hbase) (hfew := hfew) (hline := hline) (hs := hs1) (hplain := hplain)
  refine ew_v i hs ?_ hN hv hd hcd
  obtain ⟨a, rfl, ht⟩ := r.mono k
  refine ⟨⟨a, _, rfl, ht⟩, (eva1 h hs1 H1 k).mono fun vs H2 ⟨k2, r2⟩ => ?_⟩
  obtain ⟨v2, rfl, r3⟩ := dpa1 r2
  rw [dp_int r3]
  have hlt : ns.idxOf n < ns.length := List.idxOf_lt_length_iff.mpr hn
  refine ⟨a, zs ns, n, ns.idxOf n, rfl, rfl, (ht.mono k2).sq, ?_, fun m hm => ?_, k2, .int _⟩
  · unfold zs
    rw [List.getElem?_map, List.getElem?_eq_getElem hlt, List.getElem_idxOf hlt]
    rfl
  · unfold zs
    rw [List.getElem?_map, List.getElem?_eq_getElem (Nat.lt_trans hm hlt)]
    intro z
    have z' : ns[m] = n := by
      have z2 : (ns[m] : Int) = (n : Int) := by simpa using z
      exact Int.ofNat.inj z2
    have := List.not_of_lt_findIdx (p := (· == n)) hm
    rw [z'] at this
    simp at this
end
end SO
set_option Elab.async false
set_option linter.all false
set_option maxRecDepth 100000
set_option maxHeartbeats 4000000
/-! So12: lists that grow, lists joined, sums, kinds. -/
namespace SO
open PySem PySem.Spec PyProof.Rows L2
section
variable {X : Cx} {o e a b : Expr} {es : List Expr} {σ : L2.St} {H : Hp} {sts : List Stmt} {pos apos cpos p spos px : Pos} {d d1 d2 : D0} {ds ls : List D0} {D : Ends} {x name : Str} {Q : VK} {q : Addr}
theorem ls_mono {K : PySem.W.Frag} {H H' : Hp} {q : Addr} (h : Ls K H q ds) (k : Same H H') : Ls K H' q ds := by
  obtain ⟨xs, h1, h2⟩ := h
  exact ⟨xs, k _ _ h1, dpa_mono k h2⟩
theorem ls_keep {K : PySem.W.Frag} {H H' : Hp} {q r : Addr} (h : Ls K H q ds) (hr : ∃ xs, H r = some (.lst xs)) (n : q ≠ r) (k : SameB r H H') (t : tupOnlyL ds = true) : Ls K H' q ds := by
  obtain ⟨xs, h1, h2⟩ := h
  obtain ⟨ys, h3⟩ := hr
  exact ⟨xs, k _ _ n h1, dpa_tp (k.tp h3) t h2⟩
theorem Ls.dp {K : PySem.W.Frag} (h : Ls K H q ds) : Dp K H (.ref q) (.list ds) := by
  obtain ⟨xs, h1, h2⟩ := h
  exact .lst (SqL.of h1) h2
theorem Ls.some {K : PySem.W.Frag} (h : Ls K H q ds) : ∃ xs, H q = some (.lst xs) := by
  obtain ⟨xs, h1, h2⟩ := h
  exact ⟨xs, h1⟩
/-- xs.append(e), xs a name -/
theorem b_append (i : Nat) (hs : σ[i]? = some (some (.ref q))) (hq : Ls X.K H q ds) (he : Ev X e σ H d) (ht : tupOnlyL ds = true) (hd : tupOnly d = true) (hl : ds.length < 100000) (k : ∀ H1, SameB q H H1 → Ls X.K H1 q (ds ++ [d]) → BW X sts D σ H1)
    (hN : X.N[i]? = some x := by rfl) (hv : Vis X.env.scope x := by first | exact Or.inl rfl | exact Or.inr (Or.inl rfl) | exact Or.inr (Or.inr rfl)) (hdb : (x == ("__debug__" : Str)) = false := by decide)
    (hcd : (x == ("__classdict__" : Str)) = false := by decide) (hbase : attributeBase (.Name x px) "append" X.env (eval (.Name x px) X.env) = eval (.Name x px) X.env := by rfl)
    (hfew : ((backTo cpos (starEach [e] X.env)).all (fun x => !x.1) && (backToKw cpos (keywordEach [] X.env)).all (fun x => x.1.isSome)
      && decide ([e].length + ([] : List Keyword).length + (if ([] : List Keyword).isEmpty then 0 else 1) < 30)) = true := by rfl)
    (hline : (apos.endLine == cpos.line) = true := by rfl) (hs1 : starEach [e] X.env = (false, eval e X.env) :: starEach [] X.env := by rfl) (hplain : (backTo cpos (starEach [] X.env)).any (·.1) = false := by rfl)
    (hsw : swapsWith (.Call (.Attribute (.Name x px) "append" apos) [e] [] cpos) none spos.line X.env = pure false := by rfl) :
    BW X (.Expr (.Call (.Attribute (.Name x px) "append" apos) [e] [] cpos) spos :: sts) D σ H := by
  refine b_expr ?_ hsw
  refine ew_m (id := "list.append") tyL_ok PySem.F.plainAttrs_list PySem.F.slot_list_append mt_append ?_ (hbase := hbase) (hfew := hfew) (hline := hline) (hs := hs1) (hplain := hplain)
  refine ew_v i hs ?_ hN hv hdb hcd
  obtain ⟨xs, h1, h2⟩ := hq
  refine ⟨⟨q, xs, rfl, h1⟩, (eva1 he hs1 H (Same.refl _)).mono fun vs H2 ⟨k2, r2⟩ => ?_⟩
  obtain ⟨v, rfl, r⟩ := dpa1 r2
  refine ⟨q, xs, v, rfl, rfl, k2 _ _ h1, by rw [dpa_len h2]; exact Nat.lt_of_lt_of_le hl (by decide), ?_⟩
  have kb : SameB q H2 (upd H2 q (.lst (xs ++ [v]))) := sameB_upd
  have tp := kb.tp (k2 _ _ h1)
  exact k _ ((SameB.of_same k2).trans kb) ⟨_, upd_same, dpa_app (dpa_tp tp ht (dpa_mono k2 h2)) (.cons (dp_tp tp hd r) .nil)⟩
/-- xs.extend([..]), xs a name -/
theorem b_extend (i : Nat) (hs : σ[i]? = some (some (.ref q))) (hq : Ls X.K H q ds) (he : EvL X e σ H ls) (ht : tupOnlyL ds = true) (hd : tupOnlyL ls = true) (hl : ds.length + ls.length ≤ 100000) (k : ∀ H1, SameB q H H1 → Ls X.K H1 q (ds ++ ls) → BW X sts D σ H1)
    (hN : X.N[i]? = some x := by rfl) (hv : Vis X.env.scope x := by first | exact Or.inl rfl | exact Or.inr (Or.inl rfl) | exact Or.inr (Or.inr rfl)) (hdb : (x == ("__debug__" : Str)) = false := by decide)
    (hcd : (x == ("__classdict__" : Str)) = false := by decide) (hbase : attributeBase (.Name x px) "extend" X.env (eval (.Name x px) X.env) = eval (.Name x px) X.env := by rfl)
    (hfew : ((backTo cpos (starEach [e] X.env)).all (fun x => !x.1) && (backToKw cpos (keywordEach [] X.env)).all (fun x => x.1.isSome)
      && decide ([e].length + ([] : List Keyword).length + (if ([] : List Keyword).isEmpty then 0 else 1) < 30)) = true := by rfl)
    (hline : (apos.endLine == cpos.line) = true := by rfl) (hs1 : starEach [e] X.env = (false, eval e X.env) :: starEach [] X.env := by rfl) (hplain : (backTo cpos (starEach [] X.env)).any (·.1) = false := by rfl)
    (hsw : swapsWith (.Call (.Attribute (.Name x px) "extend" apos) [e] [] cpos) none spos.line X.env = pure false := by rfl) :
    BW X (.Expr (.Call (.Attribute (.Name x px) "extend" apos) [e] [] cpos) spos :: sts) D σ H := by
  refine b_expr ?_ hsw
  refine ew_m (id := "list.extend") tyL_ok PySem.F.plainAttrs_list PySem.F.slot_list_extend mt_extend ?_ (hbase := hbase) (hfew := hfew) (hline := hline) (hs := hs1) (hplain := hplain)
  refine ew_v i hs ?_ hN hv hdb hcd
  obtain ⟨xs, h1, h2⟩ := hq
  refine ⟨⟨q, xs, rfl, h1⟩, aw_one ((he H (Same.refl _)).mono fun v H2 ⟨k2, p, ev, n, zs, h3, h4⟩ => ?_) hs1⟩
  subst ev
  refine ⟨q, p, xs, zs, rfl, rfl, k2 _ _ h1, h3, by rw [dpa_len h2, dpa_len h4]; exact small hl, ?_⟩
  have kb : SameB q H2 (upd H2 q (.lst (xs ++ zs))) := sameB_upd
  have tp := kb.tp (k2 _ _ h1)
  exact k _ ((SameB.of_same k2).trans kb) ⟨_, upd_same, dpa_app (dpa_tp tp ht (dpa_mono k2 h2)) (dpa_tp tp hd h4)⟩
/-- t + u -/
theorem ev_catT (ha : Ev X a σ H (.tuple ds)) (hb : Ev X b σ H (.tuple ls)) (hl : ds.length + ls.length ≤ 100000) : Ev X (.BinOp a .Add b pos) σ H (.tuple (ds ++ ls)) := ev_op op_catA ha hb fun x y H1 k rx ry Q q => by
  obtain ⟨p1, xs, rfl, h1, h2⟩ := dp_tup rx
  obtain ⟨p2, ys, rfl, h3, h4⟩ := dp_tup ry
  refine ⟨p1, p2, xs, ys, rfl, rfl, h1, h3, by rw [dpa_len h2, dpa_len h4]; exact small hl, fun z => ?_, fun _ z => ?_, fun _ _ p hp => q _ _ (same_new hp) (.tup (SqT.of upd_same) (dpa_mono (same_new hp) (dpa_app h2 h4)))⟩
  · subst z
    cases h2
    exact q _ H1 (Same.refl _) (.tup h3 h4)
  · subst z
    cases h4
    rw [List.append_nil] at q
    exact q _ H1 (Same.refl _) (.tup h1 h2)
/-- xs + ys, both new or known lists of the heap -/
theorem evl_cat (ha : EvL X a σ H ds) (hb : EvL X b σ H ls) (hl : ds.length + ls.length ≤ 100000) : EvL X (.BinOp a .Add b pos) σ H (ds ++ ls) := fun H1 k =>
  ew_op op_cat ((ha H1 k).mono fun x H2 ⟨k2, p, e1, n1, xs, h1, h2⟩ => (hb H2 (k.trans k2)).mono fun y H3 ⟨k3, r, e2, n2, ys, h3, h4⟩ => by
    subst e1; subst e2
    exact ⟨p, r, xs, ys, rfl, rfl, k3 _ _ h1, h3, by rw [dpa_len h2, dpa_len h4]; exact small hl, fun l hl' => ⟨(k2.trans k3).trans (same_new hl'), l, rfl, none_back (k2.trans k3) hl', _, upd_same, dpa_mono (same_new hl') (dpa_app (dpa_mono k3 h2) h4)⟩⟩)
theorem evl_catV (i : Nat) (hs : σ[i]? = some (some (.ref q))) (hq : Ls X.K H q ds) (hb : EvL X b σ H ls) (hl : ds.length + ls.length ≤ 100000) (hN : X.N[i]? = some x := by rfl) (hv : Vis X.env.scope x := by first | exact Or.inl rfl | exact Or.inr (Or.inl rfl) | exact Or.inr (Or.inr rfl)) (hdb : (x == ("__debug__" : Str)) = false := by decide)
    (hcd : (x == ("__classdict__" : Str)) = false := by decide) : EvL X (.BinOp (.Name x px) .Add b pos) σ H (ds ++ ls) := fun H1 k =>
  ew_op op_cat (ew_v i hs ((hb H1 k).mono fun y H3 ⟨k3, r, e2, n2, ys, h3, h4⟩ => by
    subst e2
    obtain ⟨xs, h1, h2⟩ := ls_mono hq k
    exact ⟨q, r, xs, ys, rfl, rfl, k3 _ _ h1, h3, by rw [dpa_len h2, dpa_len h4]; exact small hl, fun l hl' => ⟨k3.trans (same_new hl'), l, rfl, none_back k3 hl', _, upd_same, dpa_mono (same_new hl') (dpa_app (dpa_mono k3 h2) h4)⟩⟩) hN hv hdb hcd)
/-! ### sum, max, min -/
def mx (ns : List Int) : Int := ns.tail.foldl max (ns.headD 0)
def mn (ns : List Int) : Int := ns.tail.foldl min (ns.headD 0)
theorem foldl_max (ns : List Int) : ∀ a : Int, (a ≤ ns.foldl max a ∧ ∀ x ∈ ns, x ≤ ns.foldl max a) ∧ (ns.foldl max a = a ∨ ns.foldl max a ∈ ns) := by
  induction ns with
  | nil => intro a; simp
  | cons n ns ih =>
    intro a
    obtain ⟨⟨h1, h2⟩, h3⟩ := ih (max a n)
    refine ⟨⟨by simp only [List.foldl_cons]; omega, fun x hx => ?_⟩, ?_⟩
    · simp only [List.foldl_cons]
      rcases List.mem_cons.mp hx with rfl | hx
      · omega
      · exact h2 x hx
    · simp only [List.foldl_cons, List.mem_cons]
      rcases h3 with h3 | h3
      · rw [h3]
        by_cases h : a ≤ n
        · right; left; omega
        · left; omega
      · right; right; exact h3
theorem foldl_min (ns : List Int) : ∀ a : Int, (ns.foldl min a ≤ a ∧ ∀ x ∈ ns, ns.foldl min a ≤ x) ∧ (ns.foldl min a = a ∨ ns.foldl min a ∈ ns) := by
  induction ns with
  | nil => intro a; simp
  | cons n ns ih =>
    intro a
    obtain ⟨⟨h1, h2⟩, h3⟩ := ih (min a n)
    refine ⟨⟨by simp only [List.foldl_cons]; omega, fun x hx => ?_⟩, ?_⟩
    · simp only [List.foldl_cons]
      rcases List.mem_cons.mp hx with rfl | hx
      · omega
      · exact h2 x hx
    · simp only [List.foldl_cons, List.mem_cons]
      rcases h3 with h3 | h3
      · rw [h3]
        by_cases h : a ≤ n
        · left; omega
        · right; left; omega
      · right; right; exact h3
theorem mx_spec {ns : List Int} (h : ns ≠ []) : mx ns ∈ ns ∧ ∀ x ∈ ns, x ≤ mx ns := by
  cases ns with
  | nil => exact absurd rfl h
  | cons n ns =>
    obtain ⟨⟨h1, h2⟩, h3⟩ := foldl_max ns n
    refine ⟨?_, fun x hx => ?_⟩
    · rcases h3 with h3 | h3
      · exact List.mem_cons.mpr (.inl h3)
      · exact List.mem_cons.mpr (.inr h3)
    · rcases List.mem_cons.mp hx with rfl | hx
      · exact h1
      · exact h2 x hx
theorem mn_spec {ns : List Int} (h : ns ≠ []) : mn ns ∈ ns ∧ ∀ x ∈ ns, mn ns ≤ x := by
  cases ns with
  | nil => exact absurd rfl h
  | cons n ns =>
    obtain ⟨⟨h1, h2⟩, h3⟩ := foldl_min ns n
    refine ⟨?_, fun x hx => ?_⟩
    · rcases h3 with h3 | h3
      · exact List.mem_cons.mpr (.inl h3)
      · exact List.mem_cons.mpr (.inr h3)
    · rcases List.mem_cons.mp hx with rfl | hx
      · exact h1
      · exact h2 x hx
variable {ns : List Int}
theorem rc_ints {K : PySem.W.Frag} {H1 : Hp} {vs : List V} (r : DpAll K H1 vs [.list (ns.map PyData.int)]) : ∃ a, vs = [.ref a] ∧ SqL K H1 a (ns.map V.int) := by
  obtain ⟨v, rfl, r1⟩ := dpa1 r
  obtain ⟨a, xs, rfl, h1, h2⟩ := dp_lst r1
  rw [dpa_ints h2] at h1
  exact ⟨a, rfl, h1⟩
theorem ev_sum (hc : X.calm = true) (hm : X.mg "sum" = none) (h : Ev X e σ H (.list (ns.map PyData.int))) (hg : Gl X "sum" := by rfl) (he : starEach [e] X.env = (false, eval e X.env) :: starEach [] X.env := by rfl) (hpl : (backTo pos (starEach [] X.env)).any (·.1) = false := by rfl) :
    Ev X (.Call (.Name "sum" p) [e] [] pos) σ H (.int ns.sum) := ev_callB (cr_sum hc) hm (by decide +kernel) (eva1 h he) (fun vs H1 k r Q q => by
    obtain ⟨a, rfl, h1⟩ := rc_ints r
    exact ⟨a, ns, rfl, h1, q _ H1 (Same.refl _) (.int _)⟩) hg (by decide) (by decide) he hpl
theorem ev_max (hc : X.calm = true) (hm : X.mg "max" = none) (h : Ev X e σ H (.list (ns.map PyData.int))) (hn : ns ≠ []) (hg : Gl X "max" := by rfl) (he : starEach [e] X.env = (false, eval e X.env) :: starEach [] X.env := by rfl) (hpl : (backTo pos (starEach [] X.env)).any (·.1) = false := by rfl) :
    Ev X (.Call (.Name "max" p) [e] [] pos) σ H (.int (mx ns)) := ev_callB (cr_max hc) hm (by decide +kernel) (eva1 h he) (fun vs H1 k r Q q => by
    obtain ⟨a, rfl, h1⟩ := rc_ints r
    refine ⟨a, ns, rfl, h1, List.length_pos_iff.mpr hn, fun m hm hy => ?_⟩
    have e : m = mx ns := Int.le_antisymm ((mx_spec hn).2 m hm) (hy _ (mx_spec hn).1)
    subst e
    exact q _ H1 (Same.refl _) (.int _)) hg (by decide) (by decide) he hpl
theorem ev_min (hc : X.calm = true) (hm : X.mg "min" = none) (h : Ev X e σ H (.list (ns.map PyData.int))) (hn : ns ≠ []) (hg : Gl X "min" := by rfl) (he : starEach [e] X.env = (false, eval e X.env) :: starEach [] X.env := by rfl) (hpl : (backTo pos (starEach [] X.env)).any (·.1) = false := by rfl) :
    Ev X (.Call (.Name "min" p) [e] [] pos) σ H (.int (mn ns)) := ev_callB (cr_min hc) hm (by decide +kernel) (eva1 h he) (fun vs H1 k r Q q => by
    obtain ⟨a, rfl, h1⟩ := rc_ints r
    refine ⟨a, ns, rfl, h1, List.length_pos_iff.mpr hn, fun m hm hy => ?_⟩
    have e : m = mn ns := Int.le_antisymm (hy _ (mn_spec hn).1) ((mn_spec hn).2 m hm)
    subst e
    exact q _ H1 (Same.refl _) (.int _)) hg (by decide) (by decide) he hpl
theorem ev_min2 {i j : Int} (hc : X.calm = true) (hm : X.mg "min" = none) (ha : Ev X a σ H (.int i)) (hb : Ev X b σ H (.int j)) (hg : Gl X "min" := by rfl) (he : starEach [a, b] X.env = (false, eval a X.env) :: starEach [b] X.env := by rfl) (he2 : starEach [b] X.env = (false, eval b X.env) :: starEach [] X.env := by rfl) (hpl : (backTo pos (starEach [b] X.env)).any (·.1) = false := by rfl) :
    Ev X (.Call (.Name "min" p) [a, b] [] pos) σ H (.int (min i j)) := ev_callB (call_min2 hc) hm (by decide +kernel) (eva2 ha hb he2 he) (fun vs H1 k r Q q => by
    obtain ⟨v, w, rfl, r1, r2⟩ := dpa2 r
    rw [dp_int r1, dp_int r2]
    refine ⟨i, j, rfl, ?_⟩
    have e : (if j < i then j else i) = min i j := by
      by_cases h : j < i
      · rw [if_pos h]; omega
      · rw [if_neg h]; omega
    rw [e]
    exact q _ H1 (Same.refl _) (.int _)) hg (by decide) (by decide) he hpl
/-! ### isinstance -/
theorem ew_isi {T : String} {py : Pos} {u : Str} {v0 : Bool} (hm : X.mg "isinstance" = none) (hm2 : X.mg u = none) (hb : bootBuiltins u = some (.type T)) (h : EW X e σ H fun x H1 => ∃ t, TyX X.K H1 x (.type t) ∧ kitB t T = some v0 ∧ Q (.bl v0) H1) (hg : Gl X "isinstance" := by rfl) (hg2 : Gl X u := by rfl) (hn : u ≠ "__name__" := by decide) (hdb : (u == ("__debug__" : Str)) = false := by decide)
    (he : starEach [e, .Name u py] X.env = (false, eval e X.env) :: starEach [.Name u py] X.env := by rfl) (he2 : starEach [.Name u py] X.env = (false, eval (.Name u py) X.env) :: starEach [] X.env := by rfl) (hpl : (backTo pos (starEach [.Name u py] X.env)).any (·.1) = false := by rfl) :
    EW X (.Call (.Name "isinstance" p) [e, .Name u py] [] pos) σ H Q :=
  ew_callB call_isi hm (by decide +kernel) (aw_two (h.mono fun x H1 ⟨t, h1, h2, q⟩ => ew_pe (pe_bltn hg2 hm2 hb (v := .ty T) rfl hn hdb) ⟨x, .ty T, .type t, .type T, v0, rfl, .ty T, h1, kit_ty h2, q⟩) he he2) hg (by decide) (by decide) he hpl
theorem ev_isiI {T : String} {py : Pos} {u : Str} {v0 : Bool} {i : Int} (hm : X.mg "isinstance" = none) (hm2 : X.mg u = none) (hb : bootBuiltins u = some (.type T)) (hk : kitB "int" T = some v0) (h : Ev X e σ H (.int i)) (hg : Gl X "isinstance" := by rfl) (hg2 : Gl X u := by rfl) (hn : u ≠ "__name__" := by decide) (hdb : (u == ("__debug__" : Str)) = false := by decide)
    (he : starEach [e, .Name u py] X.env = (false, eval e X.env) :: starEach [.Name u py] X.env := by rfl) (he2 : starEach [.Name u py] X.env = (false, eval (.Name u py) X.env) :: starEach [] X.env := by rfl) (hpl : (backTo pos (starEach [.Name u py] X.env)).any (·.1) = false := by rfl) :
    Ev X (.Call (.Name "isinstance" p) [e, .Name u py] [] pos) σ H (.bool v0) := fun H1 k => ew_isi hm hm2 hb ((h H1 k).mono fun v H2 ⟨k2, r⟩ => ⟨"int", by rw [dp_int r]; exact .base (.int i), hk, k2, .bl _⟩) hg hg2 hn hdb he he2 hpl
theorem tyx_T {K : PySem.W.Frag} {H : Hp} {a : Addr} {xs : List V} (h : SqT K H a xs) : TyX K H (.ref a) (.type "tuple") := by
  rcases h with (h | ⟨o, h⟩) | h
  · exact .base (.tup h)
  · exact .fTuple h
  · obtain ⟨_, _, _, h, h', _⟩ := h
    exact .kTuple h h'
theorem ev_isiT {T : String} {py : Pos} {u : Str} {v0 : Bool} (hm : X.mg "isinstance" = none) (hm2 : X.mg u = none) (hb : bootBuiltins u = some (.type T)) (hk : kitB "tuple" T = some v0) (h : Ev X e σ H (.tuple ds)) (hg : Gl X "isinstance" := by rfl) (hg2 : Gl X u := by rfl) (hn : u ≠ "__name__" := by decide) (hdb : (u == ("__debug__" : Str)) = false := by decide)
    (he : starEach [e, .Name u py] X.env = (false, eval e X.env) :: starEach [.Name u py] X.env := by rfl) (he2 : starEach [.Name u py] X.env = (false, eval (.Name u py) X.env) :: starEach [] X.env := by rfl) (hpl : (backTo pos (starEach [.Name u py] X.env)).any (·.1) = false := by rfl) :
    Ev X (.Call (.Name "isinstance" p) [e, .Name u py] [] pos) σ H (.bool v0) := fun H1 k => ew_isi hm hm2 hb ((h H1 k).mono fun v H2 ⟨k2, r⟩ => ⟨"tuple", by
      obtain ⟨a, xs, rfl, h1, h2⟩ := dp_tup r
      exact tyx_T h1, hk, k2, .bl _⟩) hg hg2 hn hdb he he2 hpl
/-- [..].index(True) -/
theorem ev_ixTrue {bs : List Bool} (hi : Ev X o σ H (.list (bs.map PyData.bool))) (hb : true ∈ bs) (h : Ev X e σ H (.bool true)) (hbase : attributeBase o "index" X.env (eval o X.env) = eval o X.env := by rfl)
    (hfew : ((backTo cpos (starEach [e] X.env)).all (fun x => !x.1) && (backToKw cpos (keywordEach [] X.env)).all (fun x => x.1.isSome)
      && decide ([e].length + ([] : List Keyword).length + (if ([] : List Keyword).isEmpty then 0 else 1) < 30)) = true := by rfl)
    (hline : (apos.endLine == cpos.line) = true := by rfl) (hs1 : starEach [e] X.env = (false, eval e X.env) :: starEach [] X.env := by rfl) (hplain : (backTo cpos (starEach [] X.env)).any (·.1) = false := by rfl) :
    Ev X (.Call (.Attribute o "index" apos) [e] [] cpos) σ H (pn (bs.idxOf true)) := fun H1 k => by
  refine ew_m tySL_ok PySem.F.plainAttrs_list PySem.F.slot_list_index mt_index ?_ (hbase := hbase) (hfew := hfew) (hline := hline) (hs := hs1) (hplain := hplain)
  refine (hi H1 k).mono fun v H2 ⟨k2, r⟩ => ?_
  obtain ⟨a, xs, rfl, h1, h2⟩ := dp_lst r
  rw [dpa_bools h2] at h1
  refine ⟨⟨a, _, rfl, h1⟩, (eva1 h hs1 H2 (k.trans k2)).mono fun vs H3 ⟨k3, r2⟩ => ?_⟩
  obtain ⟨v2, rfl, r3⟩ := dpa1 r2
  rw [dp_bool r3]
  have hlt : bs.idxOf true < bs.length := List.idxOf_lt_length_iff.mpr hb
  refine ⟨a, _, .bl true, bs.idxOf true, .bl true, rfl, rfl, k3.seq h1, rfl, ?_, ?_, rfl, fun m z hm hz => ?_, k2.trans k3, .int _⟩
  · rw [List.all_map]
    exact List.all_eq_true.mpr fun _ _ => rfl
  · rw [List.getElem?_map, List.getElem?_eq_getElem hlt, List.getElem_idxOf hlt]
    rfl
  · rw [List.getElem?_map, List.getElem?_eq_getElem (Nat.lt_trans hm hlt)] at hz
    cases hz
    have h5 := List.not_of_lt_findIdx (p := (· == true)) hm
    cases h6 : bs[m]'(Nat.lt_trans hm hlt) with
    | true => rw [h6] at h5; cases h5
    | false => rfl
end
end SO
set_option Elab.async false
set_option linter.all false
set_option maxRecDepth 100000
set_option maxHeartbeats 4000000
/-! So13: words, fillings; deeds: unit, join, gather, is_whole, product, fillings_of. -/
namespace SO
open PySem PySem.Spec PyProof.Rows L2
inductive Wd | sum | most | least | wide | any
deriving DecidableEq
def Wd.str : Wd → Str
  | .sum => "sum"
  | .most => "most"
  | .least => "least"
  | .wide => "wide"
  | .any => "any"
def roof : Int := 1000000000000000000000000000000
def unitW : Wd → Int
  | .sum => 1
  | .any => 1
  | .wide => roof
  | _ => 0
def joinW : Wd → Int → Int → Int
  | .sum, a, b => a * b
  | .most, a, b => a + b
  | .least, a, b => a + b
  | _, a, b => min a b
def gatherW : Wd → List Int → Int
  | .sum, ns => ns.sum
  | .least, ns => mn ns
  | _, ns => mx ns
def fstep (sz : List Nat) (acc : List (List Nat)) (n : Nat) : List (List Nat) := acc.flatMap fun s => (List.range (sz.getD n 0)).map fun w => s ++ [w]
def fillings (sz ns : List Nat) : List (List Nat) := ns.foldl (fstep sz) [[]]
def prodN : List Nat → Nat
  | [] => 1
  | n :: ns => n * prodN ns
structure SzOk (sz : List Nat) : Prop where
  len : sz.length ≤ 12
  one : ∀ s ∈ sz, 1 ≤ s
  prod : prodN sz ≤ 4
structure Nm (many : Nat) (ns : List Nat) : Prop where
  nd : ns.Nodup
  lt : ∀ n ∈ ns, n < many
theorem prodN_app : ∀ (a b : List Nat), prodN (a ++ b) = prodN a * prodN b
  | [], b => by simp [prodN]
  | x :: a, b => by simp only [List.cons_append, prodN]; rw [prodN_app a b, Nat.mul_assoc]
theorem prodN_perm {a b : List Nat} (h : a.Perm b) : prodN a = prodN b := by
  induction h with
  | nil => rfl
  | cons x _ ih => simp only [prodN]; rw [ih]
  | swap x y l => simp only [prodN]; rw [← Nat.mul_assoc, ← Nat.mul_assoc, Nat.mul_comm y x]
  | trans _ _ h1 h2 => rw [h1, h2]
theorem prodN_pos {a : List Nat} (h : ∀ x ∈ a, 1 ≤ x) : 1 ≤ prodN a := by
  induction a with
  | nil => exact Nat.le_refl _
  | cons x a ih =>
    simp only [prodN]
    exact Nat.mul_pos (h x List.mem_cons_self) (ih fun y hy => h y (List.mem_cons_of_mem _ hy))
theorem prod_sub (f : Nat → Nat) : ∀ (n : Nat) (ns : List Nat), (∀ i, i < n → 1 ≤ f i) → ns.Nodup → (∀ x ∈ ns, x < n) → prodN (ns.map f) ≤ prodN ((List.range n).map f)
  | 0, ns, _, _, h => by
    cases ns with
    | nil => exact Nat.le_refl _
    | cons x ns => exact absurd (h x List.mem_cons_self) (Nat.not_lt_zero _)
  | n + 1, ns, hf, hd, h => by
    rw [List.range_succ, List.map_append, prodN_app]
    by_cases hm : n ∈ ns
    · have hp := (List.perm_cons_erase hm).map f
      rw [prodN_perm hp]
      have ih := prod_sub f n (ns.erase n) (fun i hi => hf i (Nat.lt_succ_of_lt hi)) (hd.erase n) fun x hx => by
        have h1 := h x (List.mem_of_mem_erase hx)
        have h2 : x ≠ n := fun z => by
          subst z
          exact (List.Nodup.mem_erase_iff hd).mp hx |>.1 rfl
        omega
      simp only [List.map_cons, prodN, List.map_nil, Nat.mul_one]
      rw [Nat.mul_comm]
      exact Nat.mul_le_mul_right _ ih
    · have ih := prod_sub f n ns (fun i hi => hf i (Nat.lt_succ_of_lt hi)) hd fun x hx => by
        have h1 := h x hx
        have h2 : x ≠ n := fun z => hm (z ▸ hx)
        omega
      have h3 : 1 ≤ f n := hf n (Nat.lt_succ_self n)
      simp only [List.map_cons, prodN, List.map_nil, Nat.mul_one]
      exact Nat.le_trans ih (Nat.le_mul_of_pos_right _ h3)
theorem range_getD (sz : List Nat) : (List.range sz.length).map (fun i => sz.getD i 0) = sz := by
  apply List.ext_getElem
  · simp
  · intro i h1 h2
    simp [List.getD_eq_getElem?_getD, List.getElem?_eq_getElem h2]
theorem Nm.prod {sz ns : List Nat} (h : Nm sz.length ns) (k : SzOk sz) : prodN (ns.map fun n => sz.getD n 0) ≤ 4 := by
  have h1 := prod_sub (fun n => sz.getD n 0) sz.length ns (fun i hi => by
    show 1 ≤ sz.getD i 0
    rw [List.getD_eq_getElem?_getD, List.getElem?_eq_getElem hi]
    exact k.one _ (List.getElem_mem hi)) h.nd h.lt
  rw [range_getD] at h1
  exact Nat.le_trans h1 k.prod
theorem fstep_len (sz : List Nat) (acc : List (List Nat)) (n : Nat) : (fstep sz acc n).length = acc.length * sz.getD n 0 := by
  unfold fstep
  induction acc with
  | nil => simp
  | cons a acc ih =>
    rw [List.flatMap_cons, List.length_append, ih, List.length_map, List.length_range, List.length_cons, Nat.succ_mul, Nat.add_comm]
theorem fold_len (sz : List Nat) : ∀ (ns : List Nat) (acc : List (List Nat)), (ns.foldl (fstep sz) acc).length = acc.length * prodN (ns.map fun n => sz.getD n 0)
  | [], acc => by simp [prodN]
  | n :: ns, acc => by
    simp only [List.foldl_cons, List.map_cons, prodN]
    rw [fold_len sz ns, fstep_len, Nat.mul_assoc]
theorem fillings_len (sz ns : List Nat) : (fillings sz ns).length = prodN (ns.map fun n => sz.getD n 0) := by
  unfold fillings
  rw [fold_len]
  simp
theorem Nm.fills {sz ns : List Nat} (h : Nm sz.length ns) (k : SzOk sz) : (fillings sz ns).length ≤ 4 := by rw [fillings_len]; exact h.prod k
theorem Nm.take {many : Nat} {ns : List Nat} (h : Nm many ns) (i : Nat) : Nm many (ns.take i) := ⟨h.nd.sublist (List.take_sublist _ _), fun n hn => h.lt n (List.mem_of_mem_take hn)⟩
theorem fillings_take (sz ns : List Nat) (i n : Nat) (h : ns[i]? = some n) : fillings sz (ns.take (i + 1)) = fstep sz (fillings sz (ns.take i)) n := by
  unfold fillings
  rw [List.take_succ, h, List.foldl_append]
  rfl
theorem prod_two : ∀ (ns : List Nat), prodN (ns.map fun _ => 2) = 2 ^ ns.length
  | [] => rfl
  | n :: ns => by
    simp only [List.map_cons, prodN, List.length_cons]
    rw [prod_two ns, Nat.pow_succ, Nat.mul_comm]
theorem Nm.few {many : Nat} {ns : List Nat} (h : Nm many ns) : ns.length ≤ many := by
  have h1 := prod_sub (fun _ => 2) many ns (fun _ _ => by decide) h.nd h.lt
  rw [prod_two, prod_two, List.length_range] at h1
  exact (Nat.pow_le_pow_iff_right (by decide)).mp h1
/-! ### deeds -/
section
variable {P : Program} {w : World} {K : PySem.W.Frag} {mg : Str → Option Value} {base : Heap}
def rUnit (ds : List D0) (d : D0) : Prop := ∃ wd : Wd, ds = [.str wd.str] ∧ d = .int (unitW wd)
theorem spP_len {R : List D0 → D0 → Prop} {n : Nat} (h : ∀ ds d, R ds d → ds.length = n) : ∀ vs H Q E, spP K R vs H Q E → vs.length = n := fun vs H Q E ⟨ds, d, r, hr, _⟩ => by rw [dpa_len r]; exact h ds d hr
theorem spL_len {R : List D0 → List D0 → Prop} {n : Nat} (h : ∀ ds d, R ds d → ds.length = n) : ∀ vs H Q E, spL K R vs H Q E → vs.length = n := fun vs H Q E ⟨ds, d, r, hr, _⟩ => by rw [dpa_len r]; exact h ds d hr
theorem cal_unit (C : Ctx K mg) : C8.Cal P w K mg base 1 "unit" (spP K rUnit) [] := by
  refine cal_of (k := 0) C.h_unit c_unit (spP_len fun ds d ⟨_, h, _⟩ => by rw [h]; rfl) fun cdv A outer s H vs Q E hr ⟨ds, d, r, ⟨wd, e1, e2⟩, q⟩ => ?_
  subst e1; subst e2
  obtain ⟨v, rfl, r1⟩ := dpa1 r
  obtain ⟨tk, hroof⟩ := C.m_ROOF
  refine b_when (b := decide (wd = .sum ∨ wd = .any)) ?_ (fun hb H1 k1 => ?_) fun hb H1 k1 => ?_
  · refine (tv_inS (ws := ["sum", "any"]) (ev_v 0 rfl r1) (ev_tup (eva2 ev_str ev_str))).to ?_
    cases wd <;> decide
  · refine b_retv ev_int fun v H2 k2 r2 => q v H2 (k1.trans k2) ?_
    rcases (decide_eq_true_eq.mp hb) with rfl | rfl <;> exact r2
  · refine b_retv (d := .int (unitW wd)) (ev_if (x := decide (wd = .wide)) ((tv_eqS (ev_v 0 rfl (dp_mono k1 r1)) ev_str).to (by cases wd <;> decide)) (fun hb2 => ?_) fun hb2 => ?_) fun v H2 k2 r2 => q v H2 (k1.trans k2) r2
    · have := of_decide_eq_true hb2
      subst this
      exact ev_glob hroof (v := .int roof) ⟨tk, rfl⟩ (.int _)
    · refine ev_int.to ?_
      cases wd <;> first | rfl | (exfalso; revert hb; decide) | (exfalso; revert hb2; decide)
end
end SO
set_option Elab.async false
set_option linter.all false
set_option maxRecDepth 100000
set_option maxHeartbeats 4000000
/-! So14: deeds: join, gather, is_whole, product, fillings_of. -/
namespace SO
open PySem PySem.Spec PyProof.Rows L2
section
variable {P : Program} {w : World} {K : PySem.W.Frag} {mg : Str → Option Value} {base : Heap}
def mulOk (wd : Wd) (i j : Int) : Prop := wd = .sum → CMulW i j
def rJoin (ds : List D0) (d : D0) : Prop := ∃ (wd : Wd) (i j : Int), ds = [.str wd.str, .int i, .int j] ∧ mulOk wd i j ∧ d = .int (joinW wd i j)
theorem cal_join (C : Ctx K mg) : C8.Cal P w K mg base 1 "join" (spP K rJoin) [] := by
  refine cal_of (k := 0) C.h_join c_join (spP_len fun ds d ⟨_, _, _, h, _⟩ => by rw [h]; rfl) fun cdv A outer s H vs Q E hr ⟨ds, d, r, ⟨wd, i, j, e1, hm, e2⟩, q⟩ => ?_
  subst e1; subst e2
  obtain ⟨v1, v2, v3, rfl, r1, r2, r3⟩ := dpa3 r
  refine b_when (b := decide (wd = .sum)) ((tv_eqS (ev_v 0 rfl r1) ev_str).to (by cases wd <;> decide)) (fun hb H1 k1 => ?_) fun hb H1 k1 => ?_
  · have := of_decide_eq_true hb
    subst this
    exact b_retv (ev_mul (ev_v 1 rfl (dp_mono k1 r2)) (ev_v 2 rfl (dp_mono k1 r3)) (hm rfl)) fun v H2 k2 r2 => q v H2 (k1.trans k2) r2
  · refine b_when (b := decide (wd = .most ∨ wd = .least)) ((tv_inS (ws := ["most", "least"]) (ev_v 0 rfl (dp_mono k1 r1)) (ev_tup (eva2 ev_str ev_str))).to (by cases wd <;> decide)) (fun hb2 H2 k2 => ?_) fun hb2 H2 k2 => ?_
    · refine b_retv (ev_add (ev_v 1 rfl (dp_mono (k1.trans k2) r2)) (ev_v 2 rfl (dp_mono (k1.trans k2) r3))) fun v H3 k3 r9 => q v H3 ((k1.trans k2).trans k3) ?_
      rcases (of_decide_eq_true hb2) with rfl | rfl <;> exact r9
    · refine b_retv (ev_min2 rfl C.m_min (ev_v 1 rfl (dp_mono (k1.trans k2) r2)) (ev_v 2 rfl (dp_mono (k1.trans k2) r3))) fun v H3 k3 r9 => q v H3 ((k1.trans k2).trans k3) ?_
      revert hb hb2 r9
      cases wd <;> simp [joinW] <;> exact fun r => r
def rGather (ds : List D0) (d : D0) : Prop := ∃ (wd : Wd) (ns : List Int), ds = [.str wd.str, .list (ns.map PyData.int)] ∧ ns ≠ [] ∧ d = .int (gatherW wd ns)
theorem cal_gather (C : Ctx K mg) : C8.Cal P w K mg base 1 "gather" (spP K rGather) [] := by
  refine cal_of (k := 0) C.h_gather c_gather (spP_len fun ds d ⟨_, _, h, _⟩ => by rw [h]; rfl) fun cdv A outer s H vs Q E hr ⟨ds, d, r, ⟨wd, ns, e1, hn, e2⟩, q⟩ => ?_
  subst e1; subst e2
  obtain ⟨v1, v2, rfl, r1, r2⟩ := dpa2 r
  refine b_when (b := decide (wd = .sum)) ((tv_eqS (ev_v 0 rfl r1) ev_str).to (by cases wd <;> decide)) (fun hb H1 k1 => ?_) fun hb H1 k1 => ?_
  · have := of_decide_eq_true hb
    subst this
    exact b_retv (ev_sum rfl C.m_sum (ev_v 1 rfl (dp_mono k1 r2))) fun v H2 k2 r2 => q v H2 (k1.trans k2) r2
  · refine b_retv (d := .int (gatherW wd ns)) (ev_if (x := decide (wd = .least)) ((tv_eqS (ev_v 0 rfl (dp_mono k1 r1)) ev_str).to (by cases wd <;> decide)) (fun hb2 => ?_) fun hb2 => ?_) fun v H2 k2 r2 => q v H2 (k1.trans k2) r2
    · have := of_decide_eq_true hb2
      subst this
      exact ev_min rfl C.m_min (ev_v 1 rfl (dp_mono k1 r2)) hn
    · refine (ev_max rfl C.m_max (ev_v 1 rfl (dp_mono k1 r2)) hn).to ?_
      revert hb hb2
      cases wd <;> simp <;> rfl
/-- True of a whole number -/
def rTrueI (ds : List D0) (d : D0) : Prop := ∃ i : Int, ds = [.int i] ∧ d = .bool true
theorem cal_is_whole (C : Ctx K mg) : C8.Cal P w K mg base 1 "is_whole" (spP K rTrueI) [] := by
  refine cal_of (k := 0) C.h_is_whole c_is_whole (spP_len fun ds d ⟨_, h, _⟩ => by rw [h]; rfl) fun cdv A outer s H vs Q E hr ⟨ds, d, r, ⟨i, e1, e2⟩, q⟩ => ?_
  subst e1; subst e2
  obtain ⟨v, rfl, r1⟩ := dpa1 r
  exact b_retv (ev_and (ev_isiI (T := "int") (v0 := true) C.m_isinstance C.m_int (by decide +kernel) (by decide +kernel) (ev_v 0 rfl r1)) fun _ => ev_and1 (ev_notB (ev_isiI (T := "bool") (v0 := false) C.m_isinstance C.m_bool (by decide +kernel) (by decide +kernel) (ev_v 0 rfl r1)))) q
def rProduct (ds : List D0) (d : D0) : Prop := ∃ ns : List Nat, ds = [.list (ns.map pn)] ∧ prodN ns ≤ 1000 ∧ (∀ n ∈ ns, 1 ≤ n) ∧ d = pn (prodN ns)
theorem prodN_take {ns : List Nat} (h : ∀ n ∈ ns, 1 ≤ n) (i : Nat) : prodN (ns.take i) ≤ prodN ns := by
  have h1 : prodN ns = prodN (ns.take i) * prodN (ns.drop i) := by rw [← prodN_app, List.take_append_drop]
  rw [h1]
  exact Nat.le_mul_of_pos_right _ (prodN_pos fun x hx => h x (List.mem_of_mem_drop hx))
theorem cmul_small {i j : Int} (hi : i.natAbs < 2 ^ 10000) (hj : j.natAbs < 2 ^ 10000) : CMulW i j := by
  have h : ∀ k : Int, k.natAbs < 2 ^ 10000 → k.natAbs.log2 < 10000 := fun k hk => by
    by_cases z : k.natAbs = 0
    · rw [z]; decide
    · exact (Nat.log2_lt z).mpr hk
  have h1 := h i hi
  have h2 := h j hj
  unfold CMulW
  omega
theorem cmul_k {i j : Int} (hi : i.natAbs < 100000000) (hj : j.natAbs < 100000000) : CMulW i j := cmul_small (Nat.lt_trans hi (by decide +kernel)) (Nat.lt_trans hj (by decide +kernel))
theorem cal_product (C : Ctx K mg) : C8.Cal P w K mg base 1 "product" (spP K rProduct) [] := by
  refine cal_of (k := 0) C.h_product c_product (spP_len fun ds d ⟨_, h, _⟩ => by rw [h]; rfl) fun cdv A outer s H vs Q E hr ⟨ds, d, r, ⟨ns, e1, hp, h1, e2⟩, q⟩ => ?_
  subst e1; subst e2
  obtain ⟨v, rfl, r1⟩ := dpa1 r
  refine b_setv 1 c_product.nd ev_int fun v1 H1 k1 r2 => ?_
  refine b_forL (g_name 2 c_product.nd) rfl (ev_v 0 rfl (dp_mono k1 r1)) fun a xs H2 k2 ha hx => ⟨fun i σ' H' => ∃ o, σ' = [some v, some (.int (prodN (ns.take i) : Nat)), o] ∧ Same H2 H', ⟨none, by rw [dp_int r2]; rfl, Same.refl _⟩, fun i σ' H' ⟨o, _, k⟩ => k.seq ha, ?_, ?_⟩
  · rintro i d v2 σ' H' hd hv r3 ⟨o, rfl, k3⟩
    rw [List.getElem?_map] at hd
    obtain ⟨n, hn, rfl⟩ := Option.map_eq_some_iff.mp hd
    have hmem := List.mem_of_getElem? hn
    have e : ns.take (i + 1) = ns.take i ++ [n] := by rw [List.take_succ, hn]; rfl
    have hle : prodN (ns.take i) ≤ 1000 := Nat.le_trans (prodN_take h1 i) hp
    have hle2 : n ≤ 1000 := by
      have h3 := Nat.le_trans (prodN_take h1 (i + 1)) hp
      rw [e, prodN_app] at h3
      simp only [prodN, Nat.mul_one] at h3
      exact Nat.le_trans (Nat.le_mul_of_pos_left _ (prodN_pos fun x hx => h1 x (List.mem_of_mem_take hx))) h3
    rw [dp_int r3]
    refine b_setv 1 c_product.nd (ev_mul (ev_v 1 rfl (.int _)) (ev_v 2 rfl (.int _)) (cmul_k (by omega) (by omega))) fun v4 H4 k4 r4 => bw_nil ?_
    refine ⟨some (.int n), ?_, k3.trans k4⟩
    rw [dp_int r4, e, prodN_app]
    simp only [prodN, Nat.mul_one]
    rw [Int.natCast_mul]
    rfl
  · rintro σ' H' ⟨o, rfl, k3⟩
    refine b_retv (ev_v 1 rfl (.int _)) fun v4 H4 k4 r4 => q v4 H4 (((k1.trans k2).trans k3).trans k4) ?_
    rw [List.length_map, List.take_length] at r4
    exact r4
end
end SO
set_option Elab.async false
set_option linter.all false
set_option maxRecDepth 100000
set_option maxHeartbeats 4000000
/-! So15: fillings_of, the law's fillings; are_names, need_names, are_worths, place_of, worth_by. -/
namespace SO
open PySem PySem.Spec PyProof.Rows L2
section
variable {X : Cx} {σ : L2.St} {H : Hp} {sts body : List Stmt} {pos px : Pos} {ds : List D0} {D : Ends} {x : Str} {q : Addr}
/-- for .. in xs, xs a name of a list -/
theorem b_forV {tg : Expr} {g : TG} (i : Nat) (hg : PG X tg g) (hc : X.calm = true) (hs : σ[i]? = some (some (.ref q))) (hq : Ls X.K H q ds)
    (k : ∀ xs, H q = some (.lst xs) → DpAll X.K H xs ds → ∃ Pv : Nat → L2.St → Hp → Prop, Pv 0 σ H ∧ (∀ i σ' H', Pv i σ' H' → H' q = some (.lst xs)) ∧
      (∀ i d v σ' H', ds[i]? = some d → xs[i]? = some v → Dp X.K H v d → Pv i σ' H' → g v σ' H' fun σ2 H2 => BW X body { D with nx := Pv (i + 1), ct := Pv (i + 1), bk := fun σ' H' => BW X sts D σ' H' } σ2 H2) ∧ ∀ σ' H', Pv ds.length σ' H' → BW X sts D σ' H')
    (hN : X.N[i]? = some x := by rfl) (hv : Vis X.env.scope x := by first | exact Or.inl rfl | exact Or.inr (Or.inl rfl) | exact Or.inr (Or.inr rfl)) (hd : (x == ("__debug__" : Str)) = false := by decide)
    (hcd : (x == ("__classdict__" : Str)) = false := by decide)
    (hp : PassesOwn (model X.prog X.w) X.A X.env X.xe := by exact PassesOwn.never) (hfs : ∀ y, foldedSetIterable (.Name x px) X.env y = pure y := by intro _; rfl) : BW X (.For tg (.Name x px) body [] pos :: sts) D σ H := by
  refine bw_cons (sw_ps (ps_for hp hc (pi_list pe_ew) hg pss_bw hfs) (show EW X (.Name x px) σ H _ from ew_v i hs ?_ hN hv hd hcd))
  obtain ⟨xs, h1, h2⟩ := hq
  obtain ⟨Pv, p0, pk, ps, pd⟩ := k xs h1 h2
  refine ⟨q, rfl, ⟨xs, SqL.of h1⟩, for_list (xs := xs) Pv p0 (fun i σ' H' _ p => SqL.of (pk i σ' H' p)) (fun i x σ' H' hx p => ?_) (fun σ' H' p => pd σ' H' (by rw [← dpa_len h2]; exact p))⟩
  obtain ⟨d, e1, r1⟩ := dpa_getv h2 hx
  exact ps i d x σ' H' e1 hx r1 p
end
theorem tup_maps {ls : List (List Nat)} : tupOnlyL (ls.map pns) = true := tupOnlyL_iff.mpr fun d hd => by
  obtain ⟨n, _, rfl⟩ := List.mem_map.mp hd
  exact tup_pns
theorem fstep_take (sz : List Nat) (acc : List (List Nat)) (n i : Nat) (s : List Nat) (h : acc[i]? = some s) : fstep sz (acc.take (i + 1)) n = fstep sz (acc.take i) n ++ (List.range (sz.getD n 0)).map fun w => s ++ [w] := by
  unfold fstep
  rw [List.take_succ, h, List.flatMap_append]
  simp
section
variable {P : Program} {w : World} {K : PySem.W.Frag} {mg : Str → Option Value} {base : Heap}
def rFill (ds : List D0) (es : List D0) : Prop := ∃ sz ns : List Nat, ds = [pns sz, pns ns] ∧ SzOk sz ∧ Nm sz.length ns ∧ es = (fillings sz ns).map pns
theorem at_pns {ns : List Nat} {i n : Nat} (h : ns[i]? = some n) : atI (ns.map pn) (i : Int) = some (pn n) := at_map h
theorem getD_at {sz : List Nat} {n : Nat} (h : n < sz.length) : sz[n]? = some (sz.getD n 0) := by
  rw [List.getD_eq_getElem?_getD, List.getElem?_eq_getElem h]; rfl
theorem SzOk.le {sz : List Nat} (h : SzOk sz) {n : Nat} (hn : n < sz.length) : sz.getD n 0 ≤ 4 := by
  have h1 := (show Nm sz.length [n] from ⟨by simp, by simpa using hn⟩).prod h
  simpa [prodN] using h1
theorem SzOk.ge {sz : List Nat} (h : SzOk sz) {n : Nat} (hn : n < sz.length) : 1 ≤ sz.getD n 0 := by
  rw [List.getD_eq_getElem?_getD, List.getElem?_eq_getElem hn]
  exact h.one _ (List.getElem_mem hn)
theorem pns_snoc {s : List Nat} {w : Nat} : pns (s ++ [w]) = .tuple (s.map pn ++ [pn w]) := by unfold pns; rw [List.map_append]; rfl
theorem fillings_row (sz : List Nat) : ∀ (ns : List Nat) (acc : List (List Nat)) (m : Nat), (∀ s ∈ acc, s.length = m) → ∀ s ∈ ns.foldl (fstep sz) acc, s.length = m + ns.length
  | [], acc, m, h, s, hs => by simpa using h s hs
  | n :: ns, acc, m, h, s, hs => by
    have := fillings_row sz ns (fstep sz acc n) (m + 1) (fun t ht => by
      unfold fstep at ht
      obtain ⟨u, hu, hw⟩ := List.mem_flatMap.mp ht
      obtain ⟨x, _, rfl⟩ := List.mem_map.mp hw
      rw [List.length_append, h u hu]
      rfl) s hs
    rw [this, List.length_cons]
    omega
theorem fillings_mem_len {sz ns : List Nat} {s : List Nat} (h : s ∈ fillings sz ns) : s.length = ns.length := by
  have := fillings_row sz ns [[]] 0 (fun s hs => by rw [List.mem_singleton.mp hs]; rfl) s h
  omega
theorem cal_fillings_of (C : Ctx K mg) : C8.Cal P w K mg base 1 "fillings_of" (spL K rFill) [] := by
  refine cal_of (k := 0) C.h_fillings_of c_fillings_of (spL_len fun ds d ⟨_, _, h, _⟩ => by rw [h]; rfl) fun cdv A outer s H vs Q E hr ⟨ds, d, r, ⟨sz, ns, e1, hz, hn, e2⟩, q⟩ => ?_
  subst e1; subst e2
  obtain ⟨v1, v2, rfl, r1, r2⟩ := dpa2 r
  have few := hn.few
  have zl := hz.len
  have nd := c_fillings_of.nd
  refine b_setl 2 c_fillings_of.nd (evl_lst (eva1 (ev_tup eva_nil))) fun q0 H1 n0 k1 l0 => ?_
  refine b_forT (g_name 3 c_fillings_of.nd) rfl (ev_v 1 rfl (dp_mono k1 r2)) fun a xs H2 k2 ha hx => ⟨fun i σ' H' => ∃ qf o3 o4 o5 o6, σ' = [some v1, some v2, some (.ref qf), o3, o4, o5, o6] ∧ Same H2 H' ∧ H qf = none ∧ Ls K H' qf ((fillings sz (ns.take i)).map pns),
    ⟨q0, none, none, none, none, rfl, Same.refl _, n0, ls_mono l0 k2⟩, fun i σ' H' ⟨_, _, _, _, _, _, k, _⟩ => by
      rcases ha with (z | ⟨o, z⟩) | z
      · exact .inl (.inl (k _ _ z))
      · exact .inl (.inr ⟨o, k _ _ z⟩)
      · exact .inr z, ?_, ?_⟩
  · rintro i d v σ' H' hd hv r3 ⟨qf, o3, o4, o5, o6, rfl, k3, nf, lf⟩
    rw [List.getElem?_map] at hd
    obtain ⟨n, hn2, rfl⟩ := Option.map_eq_some_iff.mp hd
    have hlt := hn.lt n (List.mem_of_getElem? hn2)
    rw [dp_int r3]
    refine b_setl 4 c_fillings_of.nd (evl_lst eva_nil) fun ql H4 nl k4 ll => ?_
    have kk : Same H H4 := ((k1.trans k2).trans k3).trans k4
    have nl0 : H ql = none := none_back ((k1.trans k2).trans k3) nl
    have hne : ql ≠ qf := fun z => by
      subst z
      obtain ⟨ys, h⟩ := lf.some
      rw [h] at nl
      cases nl
    refine b_forV 2 (g_name 5 c_fillings_of.nd) rfl rfl (ls_mono lf k4) fun ys hy hdy => ⟨fun j σ' H' => ∃ o5, σ' = [some v1, some v2, some (.ref qf), some (.int (n : Int)), some (.ref ql), o5, o6] ∧ SameB ql H4 H' ∧ Ls K H' ql ((fstep sz ((fillings sz (ns.take i)).take j) n).map pns),
      ⟨o5, rfl, SameB.of_same (Same.refl _), ll⟩, fun j σ' H' ⟨o5, _, k, _⟩ => k _ _ (Ne.symm hne) hy, ?_, ?_⟩
    · rintro j d2 v4 σ' H' hd2 hv4 r4 ⟨o5, rfl, kb, lb⟩
      rw [List.getElem?_map] at hd2
      obtain ⟨sm, hs2, rfl⟩ := Option.map_eq_some_iff.mp hd2
      have hsm : sm ∈ fillings sz (ns.take i) := List.mem_of_getElem? hs2
      have hsl := fillings_mem_len hsm
      have kH : Same H H' := kb.same kk nl0
      have tp : Tp H4 H' := kb.tp (ll.some.choose_spec)
      have r1' : Dp K H' v1 (pns sz) := dp_mono kH r1
      have r4' : Dp K H' v4 (pns sm) := dp_tp tp tup_pns r4
      refine b_extend 4 rfl lb (evl_lc (lcv_R (n := sz.getD n 0) (fn := fun w => pns (sm ++ [w])) [("worth", 6)] 6 rfl c_fillings_of.nd C.m_range (ev_ixT (ev_v 0 rfl r1') (ev_v 3 rfl (.int _)) (at_pns (getD_at hlt))) (blkOk_by (N := n_fillings_of) (sc := defScope s_fillings_of) (by decide +kernel)) ?_ (fun _ _ => tup_pns) fun a ha H5 k5 => ?_)) tup_maps ?_ ?_ fun H6 k6 l6 => bw_nil ⟨_, rfl, kb.trans k6, ?_⟩
      · have := hz.le hlt; omega
      · intro s' H0 C' cl fp
        rw [pns_snoc]
        refine ev_catT (ev_v 5 rfl (dp_mono k5 r4')) (ev_tup (eva1 (ev_v 6 rfl (.int _)))) ?_
        rw [List.length_map, List.length_singleton, hsl, List.length_take]
        omega
      · refine tupOnlyL_iff.mpr fun d hd => ?_
        obtain ⟨w, _, rfl⟩ := List.mem_map.mp hd
        exact tup_pns
      · rw [List.length_map, List.length_map, List.length_range, fstep_len]
        have h1 := (hn.take i).fills hz
        have h2 := hz.le hlt
        have h3 : (List.take j (fillings sz (List.take i ns))).length ≤ 4 := by rw [List.length_take]; omega
        have h4 : (List.take j (fillings sz (List.take i ns))).length * sz.getD n 0 ≤ 4 * 4 := Nat.mul_le_mul h3 h2
        omega
      · rw [fstep_take sz _ n j sm hs2, List.map_append, List.map_map]
        exact l6
    · rintro σ' H' ⟨o5, rfl, kb, lb⟩
      refine b_set 2 c_fillings_of.nd (ew_v 4 rfl ?_)
      refine bw_nil ⟨ql, _, _, _, _, rfl, kb.same (k3.trans k4) (none_back k3 nl), nl0, ?_⟩
      rw [List.length_map, List.take_length] at lb
      rw [fillings_take sz ns i n hn2]
      exact lb
  · rintro σ' H' ⟨qf, o3, o4, o5, o6, rfl, k3, nf, lf⟩
    refine b_ret (ew_v 2 rfl ?_)
    rw [List.length_map, List.take_length] at lf
    exact q qf H' nf ((k1.trans k2).trans k3) lf
end
end SO
set_option Elab.async false
set_option linter.all false
set_option maxRecDepth 100000
set_option maxHeartbeats 4000000
/-! So16: walks over a source; are_names, need_names, are_worths, place_of. -/
namespace SO
open PySem PySem.Spec PyProof.Rows L2
theorem sqT_mono {K : PySem.W.Frag} {H H' : Hp} {a : Addr} {xs : List V} (k : Same H H') (h : SqT K H a xs) : SqT K H' a xs := by
  rcases h with (z | ⟨o, z⟩) | z
  · exact .inl (.inl (k _ _ z))
  · exact .inl (.inr ⟨o, k _ _ z⟩)
  · exact .inr z
section
variable {X : Cx} {e e2 iter : Expr} {σ : L2.St} {H : Hp} {sts body : List Stmt} {pos px p : Pos} {ds es : List D0} {D : Ends} {x : Str} {q : Addr}
/-- for over what walks; the body changes nothing known -/
theorem b_forS {tg : Expr} {g : TG} {wi : TI} {n : Nat} {Y : Nat → V → Hp → Prop} (hg : PG X tg g) (hc : X.calm = true) (hi : PI X tg iter wi) (hs : Src wi σ H n Y)
    (k : ∀ H1, Same H H1 → ∃ Pv : Nat → L2.St → Hp → Prop, Pv 0 σ H1 ∧ (∀ i σ' H', Pv i σ' H' → Same H1 H') ∧
      (∀ i v σ' H' H'', i < n → Pv i σ' H' → Same H' H'' → Y i v H'' → g v σ' H'' fun σ2 H2 => BW X body { D with nx := Pv (i + 1), ct := Pv (i + 1), bk := fun σ' H' => BW X sts D σ' H' } σ2 H2) ∧ ∀ σ' H', Pv n σ' H' → BW X sts D σ' H')
    (hp : PassesOwn (model X.prog X.w) X.A X.env X.xe := by exact PassesOwn.never) (hfs : ∀ y, foldedSetIterable iter X.env y = pure y := by intro _; rfl) : BW X (.For tg iter body [] pos :: sts) D σ H := by
  refine bw_cons (sw_ps (ps_for hp hc hi hg pss_bw hfs) (hs H (Same.refl _) _ fun J H2 k2 hJ => ?_))
  obtain ⟨Pv, p0, pk, ps, pd⟩ := k H2 k2
  refine ⟨fun i m σ' H' => m = n - i ∧ i ≤ n ∧ Pv i σ' H', ⟨n, by simp, Nat.zero_le _, p0⟩, ?_⟩
  rintro i m σ' H' ⟨rfl, hi, pv⟩
  have kH := pk i σ' H' pv
  by_cases hlt : i < n
  · obtain ⟨go, yl⟩ := (hJ H' kH).2 i hlt
    refine .inr ⟨go, Pv (i + 1), fun σ2 H2 p' => ⟨n - (i + 1), by omega, rfl, hlt, p'⟩, fun x Hy hy => ?_⟩
    obtain ⟨ky, y⟩ := yl x Hy hy
    exact ps i x σ' H' Hy hlt pv ky y
  · have e : i = n := by omega
    subst e
    exact .inl ⟨(hJ H' kH).1, pd σ' H' pv⟩
/-- zip(tuple, list) -/
theorem src_zipM (hi : Ev X e σ H (.tuple ds)) (hi2 : Ev X e2 σ H (.list es)) (hl : ds.length = es.length) (hs : starEach [e, e2] X.env = (false, eval e X.env) :: starEach [e2] X.env := by rfl) (hs2 : starEach [e2] X.env = (false, eval e2 X.env) :: starEach [] X.env := by rfl) :
    Src (iZipM X.K (AW X [e, e2])) σ H ds.length fun i x H' => ∃ d, ((ds.zip es).map fun a => PyData.tuple [a.1, a.2])[i]? = some d ∧ Dp X.K H' x d := fun H1 k1 R h => by
  show AW X [e, e2] σ H1 _
  refine aw_two ((hi H1 k1).mono fun v H2 ⟨k2, r⟩ => (hi2 H2 (k1.trans k2)).mono fun v2 H3 ⟨k3, r2⟩ => ?_) hs hs2
  obtain ⟨a, xs, rfl, h1, h2⟩ := dp_tup (dp_mono k3 r)
  obtain ⟨b, ys, rfl, h3, h4⟩ := dp_lst r2
  refine ⟨a, b, xs, ys, rfl, h1, h3, h _ H3 (k2.trans k3) fun Hc kc => ?_⟩
  have h1c : SqT X.K Hc a xs := sqT_mono kc h1
  have h3c : SqL X.K Hc b ys := kc.seq h3
  have l1 := dpa_len h2
  have l2 := dpa_len h4
  refine ⟨⟨xs, ys, h1c, h3c, by omega, l1⟩, fun i hi' => ⟨⟨xs, ys, xs[i]'(by rw [l1]; exact hi'), ys[i]'(by rw [l2, ← hl]; exact hi'), h1c, h3c, by simp, by simp⟩, fun x H' y => ?_⟩⟩
  obtain ⟨T, z1, z2, rfl, hT, rfl, y1, y2⟩ := y
  obtain ⟨d, e1, r1⟩ := dpa_getv (dpa_mono kc h2) (y1 xs h1c)
  obtain ⟨d2, e3, r3⟩ := dpa_getv (dpa_mono kc h4) (y2 ys h3c)
  exact ⟨same_new hT, .tuple [d, d2], by rw [List.getElem?_map, (List.getElem?_zip_eq_some (l₁ := ds) (l₂ := es) (z := (d, d2)) (i := i)).mpr ⟨e1, e3⟩]; rfl, .tup (SqT.of upd_same) (.cons (dp_mono (same_new hT) r1) (.cons (dp_mono (same_new hT) r3) .nil))⟩
end
section
variable {P : Program} {w : World} {K : PySem.W.Frag} {mg : Str → Option Value} {base : Heap}
theorem bools_map {α : Type} {xs : List α} {f : α → Bool} : xs.map (fun a => PyData.bool (f a)) = (xs.map f).map PyData.bool := by rw [List.map_map]; rfl
theorem ev_allM {α : Type} {X : Cx} {e : Expr} {σ : L2.St} {H : Hp} {p pos : Pos} {xs : List α} {f : α → Bool} (hc : X.calm = true) (hm : X.mg "all" = none) (h : Ev X e σ H (.list (xs.map fun a => PyData.bool (f a)))) (hg : Gl X "all" := by rfl) (he : starEach [e] X.env = (false, eval e X.env) :: starEach [] X.env := by rfl) (hpl : (backTo pos (starEach [] X.env)).any (·.1) = false := by rfl) :
    Ev X (.Call (.Name "all" p) [e] [] pos) σ H (.bool (xs.all f)) := (ev_all hc hm (h.to (by rw [bools_map])) hg he hpl).to (by rw [List.all_map]; rfl)
theorem ev_anyM {α : Type} {X : Cx} {e : Expr} {σ : L2.St} {H : Hp} {p pos : Pos} {xs : List α} {f : α → Bool} (hc : X.calm = true) (hm : X.mg "any" = none) (h : Ev X e σ H (.list (xs.map fun a => PyData.bool (f a)))) (hg : Gl X "any" := by rfl) (he : starEach [e] X.env = (false, eval e X.env) :: starEach [] X.env := by rfl) (hpl : (backTo pos (starEach [] X.env)).any (·.1) = false := by rfl) :
    Ev X (.Call (.Name "any" p) [e] [] pos) σ H (.bool (xs.any f)) := (ev_any hc hm (h.to (by rw [bools_map])) hg he hpl).to (by rw [List.any_map]; rfl)
structure Rise (many : Nat) (ns : List Nat) : Prop where
  up : ns.Pairwise (· < ·)
  lt : ∀ n ∈ ns, n < many
theorem Rise.nm {many : Nat} {ns : List Nat} (h : Rise many ns) : Nm many ns := ⟨h.up.imp fun h => Nat.ne_of_lt h, h.lt⟩
def rAreNames (ds : List D0) (d : D0) : Prop := ∃ (many : Nat) (ns : List Nat), ds = [pn many, pns ns] ∧ Rise many ns ∧ many ≤ 1000 ∧ d = .bool true
theorem cal_are_names (C : Ctx K mg) : C8.Cal P w K mg base 2 "are_names" (spP K rAreNames) [] := by
  refine cal_of (k := 1) C.h_are_names c_are_names (spP_len fun ds d ⟨_, _, h, _⟩ => by rw [h]; rfl) fun cdv A outer s H vs Q E hr ⟨ds, d, r, ⟨many, ns, e1, hn, hl, e2⟩, q⟩ => ?_
  subst e1; subst e2
  obtain ⟨v1, v2, rfl, r1, r2⟩ := dpa2 r
  have few := hn.nm.few
  have nd := c_are_names.nd
  refine b_skip (b := false || !(ns.all fun _ => true)) (tv_wv (wv_or (tv_not (tv_ev (ev_isiT (T := "tuple") (v0 := true) C.m_isinstance C.m_tuple (by decide +kernel) (by decide +kernel) (ev_v 1 rfl r2)))) fun _ => wv_or1 (tv_not (tv_ev (ev_allM rfl C.m_all (EvL.ev (evl_lc (lcv_T (xs := ns) (enc := pn) (f := fun _ => .bool true) [("one", 3)] 3 rfl nd (ev_v 1 rfl r2) (blkOk_by (N := n_are_names) (sc := defScope s_are_names) (by decide +kernel)) (by omega) (fun _ _ => rfl) fun a ha v H5 k5 r5 => ?_)))))))) (by simp) fun H1 k1 => ?_
  · intro s' H0 C' cl fp
    refine Ev.to (ev_and (x := true) (y := true) (ev_call (cal_is_whole C) hr (by decide) (eva1 (ev_v 3 rfl r5)) ⟨a, rfl, rfl⟩) fun _ => ev_and1 ?_) rfl
    refine Ev.to (ev_chain op_le op_lt ev_int (ev_v 3 rfl r5) (ev_v 0 rfl (dp_mono k5 r1))) ?_
    have := hn.lt a ha
    simp
    omega
  · refine b_retv (d := .bool true) ((ev_allM rfl C.m_all (EvL.ev (evl_lc (lcv_R2 (n := 1) (m := ns.length) (fn := fun k => .bool (decide ((ns.getD (k - 1) 0 : Int) < (ns.getD k 0 : Int)))) [("k", 2)] 2 rfl nd C.m_range ev_int ((ev_lenT C.m_len (ev_v 1 rfl (dp_mono k1 r2))).to (by rw [List.length_map])) (blkOk_by (N := n_are_names) (sc := defScope s_are_names) (by decide +kernel)) (by decide) (by omega) (fun _ _ _ => rfl) fun a h1 h2 H5 k5 => ?_)))).to ?_) fun v H2 k2 r3 => q v H2 (k1.trans k2) r3
    · intro s' H0 C' cl fp
      refine ev_lt (ev_ixT (ev_v 1 rfl (dp_mono (k1.trans k5) r2)) (ev_sub (ev_v 2 rfl (.int _)) ev_int) ?_) (ev_ixT (ev_v 1 rfl (dp_mono (k1.trans k5) r2)) (ev_v 2 rfl (.int _)) ?_)
      · have e : (a : Int) - 1 = ((a - 1 : Nat) : Int) := by omega
        rw [e]
        exact at_pns (getD_at (by omega))
      · exact at_pns (getD_at (by omega))
    · rw [List.all_eq_true.mpr]
      intro k hk
      have := List.mem_range'_1.mp hk
      have h3 := List.pairwise_iff_getElem.mp hn.up (k - 1) k (by omega) (by omega) (by omega)
      have e1 : ns.getD (k - 1) 0 = ns[k - 1] := by rw [List.getD_eq_getElem?_getD, List.getElem?_eq_getElem (by omega)]; rfl
      have e2 : ns.getD k 0 = ns[k] := by rw [List.getD_eq_getElem?_getD, List.getElem?_eq_getElem (by omega)]; rfl
      rw [e1, e2]
      simpa using h3
end
end SO
set_option Elab.async false
set_option linter.all false
set_option maxRecDepth 100000
set_option maxHeartbeats 4000000
/-! So17: need_names, are_worths, place_of, worth_by. -/
namespace SO
open PySem PySem.Spec PyProof.Rows L2
/-- the place of worths -/
def placeN (sz : List Nat) (ps : List (Nat × Nat)) : Nat := ps.foldl (fun f p => f * sz.getD p.1 0 + p.2) 0
theorem place_lt (sz : List Nat) : ∀ (ps : List (Nat × Nat)), (∀ p ∈ ps, p.2 < sz.getD p.1 0) → placeN sz ps < prodN (ps.map fun p => sz.getD p.1 0) := by
  suffices h : ∀ (ps : List (Nat × Nat)) (f m : Nat), (∀ p ∈ ps, p.2 < sz.getD p.1 0) → f < m → ps.foldl (fun f p => f * sz.getD p.1 0 + p.2) f < m * prodN (ps.map fun p => sz.getD p.1 0) from
    fun ps hp => by
      have := h ps 0 1 hp (by decide)
      rw [Nat.one_mul] at this
      exact this
  intro ps
  induction ps with
  | nil => intro f m _ h; simpa [prodN] using h
  | cons p ps ih =>
    intro f m hp h
    have h1 := hp p List.mem_cons_self
    have h2 : f * sz.getD p.1 0 + p.2 < m * sz.getD p.1 0 := by
      have : (f + 1) * sz.getD p.1 0 ≤ m * sz.getD p.1 0 := Nat.mul_le_mul_right _ h
      rw [Nat.succ_mul] at this
      omega
    have := ih _ _ (fun x hx => hp x (List.mem_cons_of_mem _ hx)) h2
    simp only [List.foldl_cons, List.map_cons, prodN]
    rw [← Nat.mul_assoc]
    exact this
theorem place_take (sz : List Nat) (ps : List (Nat × Nat)) (i : Nat) (p : Nat × Nat) (h : ps[i]? = some p) : placeN sz (ps.take (i + 1)) = placeN sz (ps.take i) * sz.getD p.1 0 + p.2 := by
  unfold placeN
  rw [List.take_succ, h, List.foldl_append]
  rfl
structure PartOk (sz : List Nat) (p : Part) : Prop where
  rise : Rise sz.length p.1
  full : p.2.length = prodN (p.1.map fun n => sz.getD n 0)
/-- the part's worth at a filling of some names -/
def worthBy (sz : List Nat) (p : Part) (names s : List Nat) : Int := p.2.getD (placeN sz (p.1.zip (p.1.map fun n => s.getD (names.idxOf n) 0))) 0
theorem fillings_lt {sz : List Nat} : ∀ (ns : List Nat) (acc : List (List Nat)) (pre : List Nat), (∀ s ∈ acc, s.length = pre.length ∧ ∀ (i n : Nat), pre[i]? = some n → s.getD i 0 < sz.getD n 0) → ∀ s ∈ ns.foldl (fstep sz) acc, s.length = (pre ++ ns).length ∧ ∀ (i n : Nat), (pre ++ ns)[i]? = some n → s.getD i 0 < sz.getD n 0
  | [], acc, pre, h, s, hs => by simpa using h s hs
  | n :: ns, acc, pre, h, s, hs => by
    have := fillings_lt ns (fstep sz acc n) (pre ++ [n]) (fun t ht => by
      unfold fstep at ht
      obtain ⟨u, hu, hw⟩ := List.mem_flatMap.mp ht
      obtain ⟨x, hx, rfl⟩ := List.mem_map.mp hw
      obtain ⟨h1, h2⟩ := h u hu
      refine ⟨by simp [h1], fun i m hi => ?_⟩
      rw [List.getD_eq_getElem?_getD]
      by_cases hlt : i < pre.length
      · rw [List.getElem?_append_left (by omega)]
        rw [List.getElem?_append_left hlt] at hi
        have := h2 i m hi
        rwa [List.getD_eq_getElem?_getD] at this
      · rw [List.getElem?_append_right (by omega)]
        rw [List.getElem?_append_right (by omega)] at hi
        have e : i - pre.length = 0 := by
          have := (List.getElem?_eq_some_iff.mp hi).1
          simp at this
          omega
        rw [e] at hi
        rw [h1, e]
        simp at hi
        subst hi
        simpa using List.mem_range.mp hx) s hs
    simpa using this
theorem fill_len {sz ns s : List Nat} (h : s ∈ fillings sz ns) : s.length = ns.length := fillings_mem_len h
theorem fill_lt {sz ns s : List Nat} (h : s ∈ fillings sz ns) {i n : Nat} (hi : ns[i]? = some n) : s.getD i 0 < sz.getD n 0 := by
  have := fillings_lt ns [[]] [] (fun s hs => by rw [List.mem_singleton.mp hs]; exact ⟨rfl, fun i n h => by simp at h⟩) s h
  exact this.2 i n (by simpa using hi)
section
variable {P : Program} {w : World} {K : PySem.W.Frag} {mg : Str → Option Value} {base : Heap}
def rNeedNames (ds : List D0) (d : D0) : Prop := ∃ (many : Nat) (ns : List Nat), ds = [pn many, pns ns] ∧ Rise many ns ∧ many ≤ 1000 ∧ d = .none
theorem cal_need_names (C : Ctx K mg) : C8.Cal P w K mg base 3 "need_names" (spP K rNeedNames) [] := by
  refine cal_of (k := 2) C.h_need_names c_need_names (spP_len fun ds d ⟨_, _, h, _⟩ => by rw [h]; rfl) fun cdv A outer s H vs Q E hr ⟨ds, d, r, ⟨many, ns, e1, hn, hl, e2⟩, q⟩ => ?_
  subst e1; subst e2
  obtain ⟨v1, v2, rfl, r1, r2⟩ := dpa2 r
  exact b_skip (b := !true) (tv_not (tv_ev (ev_call (cal_are_names C) hr (by decide) (eva2 (ev_v 0 rfl r1) (ev_v 1 rfl r2)) ⟨many, ns, rfl, hn, hl, rfl⟩))) rfl fun H1 k1 => bw_nil (q _ H1 k1 .non)
def small12 (ws : List Int) : Prop := ∀ w ∈ ws, -1000000000000 ≤ w ∧ w ≤ 1000000000000
def rAreWorths (ds : List D0) (d : D0) : Prop := ∃ (sz ns : List Nat) (ws : List Int), ds = [pns sz, pns ns, pis ws] ∧ SzOk sz ∧ PartOk sz (ns, ws) ∧ small12 ws ∧ d = .bool true
theorem cal_are_worths (C : Ctx K mg) : C8.Cal P w K mg base 2 "are_worths" (spP K rAreWorths) [] := by
  refine cal_of (k := 1) C.h_are_worths c_are_worths (spP_len fun ds d ⟨_, _, _, h, _⟩ => by rw [h]; rfl) fun cdv A outer s H vs Q E hr ⟨ds, d, r, ⟨sz, ns, ws, e1, hz, hp, hw, e2⟩, q⟩ => ?_
  subst e1; subst e2
  obtain ⟨v1, v2, v3, rfl, r1, r2, r3⟩ := dpa3 r
  obtain ⟨tk, hmw⟩ := C.m_MOST_WORTH
  have nd := c_are_worths.nd
  have few : ns.length ≤ sz.length := hp.rise.nm.few
  have zl := hz.len
  have pr : prodN (ns.map fun n => sz.getD n 0) ≤ 4 := hp.rise.nm.prod hz
  have full : ws.length = prodN (ns.map fun n => sz.getD n 0) := hp.full
  refine b_skip (b := false || !decide (((ws.length : Nat) : Int) = (prodN (ns.map fun n => sz.getD n 0) : Nat))) (tv_wv (wv_or (tv_not (tv_ev (ev_isiT (T := "tuple") (v0 := true) C.m_isinstance C.m_tuple (by decide +kernel) (by decide +kernel) (ev_v 2 rfl r3)))) fun _ => wv_or1 (tv_neI ((ev_lenT C.m_len (ev_v 2 rfl r3)).to (by rw [List.length_map])) (ev_call (cal_product C) hr (by decide) (eva1 (EvL.ev (evl_lc (lcv_T (xs := ns) (enc := pn) (f := fun n => pn (sz.getD n 0)) [("name", 4)] 4 rfl nd (ev_v 1 rfl r2) (blkOk_by (N := n_are_worths) (sc := defScope s_are_worths) (by decide +kernel)) (by omega) (fun _ _ => rfl) fun a ha v H5 k5 r5 => ?_)))) ⟨ns.map fun n => sz.getD n 0, by rw [List.map_map]; rfl, by omega, ?_, rfl⟩)))) ?_ fun H1 k1 => ?_
  · intro s' H0 C' cl fp
    exact ev_ixT (ev_v 0 rfl (dp_mono k5 r1)) (ev_v 4 rfl r5) (at_pns (getD_at (hp.rise.lt a ha)))
  · intro x hx
    obtain ⟨n, hn, rfl⟩ := List.mem_map.mp hx
    exact hz.ge (hp.rise.lt n hn)
  · rw [full]; simp
  · refine b_retv (d := .bool true) ((ev_allM rfl C.m_all (EvL.ev (evl_lc (lcv_T (xs := ws) (enc := PyData.int) (f := fun _ => .bool true) [("one", 3)] 3 rfl nd (ev_v 2 rfl (dp_mono k1 r3)) (blkOk_by (N := n_are_worths) (sc := defScope s_are_worths) (by decide +kernel)) (by omega) (fun _ _ => rfl) fun a ha v H5 k5 r5 => ?_)))).to (by simp)) fun v H2 k2 r3 => q v H2 (k1.trans k2) r3
    intro s' H0 C' cl fp
    refine Ev.to (ev_and (x := true) (y := true) (ev_call (cal_is_whole C) hr (by decide) (eva1 (ev_v 3 rfl r5)) ⟨a, rfl, rfl⟩) fun _ => ev_and1 ?_) rfl
    refine Ev.to (ev_chain op_le op_le (ev_sub ev_int (ev_glob hmw (v := .int 1000000000000) ⟨tk, rfl⟩ (.int _))) (ev_v 3 rfl r5) (ev_glob hmw (v := .int 1000000000000) ⟨tk, rfl⟩ (.int _))) ?_
    have := hw a ha
    simp
    omega
def rPlaceOf (ds : List D0) (d : D0) : Prop := ∃ (sz ns ws : List Nat), ds = [pns sz, pns ns, .list (ws.map pn)] ∧ SzOk sz ∧ Nm sz.length ns ∧ ns.length = ws.length ∧ (∀ p ∈ ns.zip ws, p.2 < sz.getD p.1 0) ∧ d = pn (placeN sz (ns.zip ws))
theorem zip_fst {ns ws : List Nat} (h : ns.length = ws.length) : (ns.zip ws).map (·.1) = ns := by
  rw [List.map_fst_zip]
  omega
theorem cal_place_of (C : Ctx K mg) : C8.Cal P w K mg base 1 "place_of" (spP K rPlaceOf) [] := by
  refine cal_of (k := 0) C.h_place_of c_place_of (spP_len fun ds d ⟨_, _, _, h, _⟩ => by rw [h]; rfl) fun cdv A outer s H vs Q E hr ⟨ds, d, r, ⟨sz, ns, ws, e1, hz, hn, hl, hb, e2⟩, q⟩ => ?_
  subst e1; subst e2
  obtain ⟨v1, v2, v3, rfl, r1, r2, r3⟩ := dpa3 r
  have nd := c_place_of.nd
  refine b_setv 3 nd ev_int fun v4 H1 k1 r4 => ?_
  refine b_forS (g_two 4 5 rfl nd) rfl (pi_zipM C.m_zip pa_aw) (src_zipM (ev_v 1 rfl (dp_mono k1 r2)) (ev_v 2 rfl (dp_mono k1 r3)) (by rw [List.length_map, List.length_map]; exact hl)) fun H2 k2 => ⟨fun i σ' H' => ∃ o4 o5, σ' = [some v1, some v2, some v3, some (.int (placeN sz ((ns.zip ws).take i) : Nat)), o4, o5] ∧ Same H2 H', ⟨none, none, by rw [dp_int r4]; rfl, Same.refl _⟩, fun i σ' H' ⟨_, _, _, k⟩ => k, ?_, ?_⟩
  · rintro i v σ' H' H'' hi ⟨o4, o5, rfl, k3⟩ k4 ⟨d, hd, rd⟩
    have hz' : (ns.map pn).zip (ws.map pn) = (ns.zip ws).map fun p => (pn p.1, pn p.2) := by rw [List.zip_map]; rfl
    rw [hz', List.map_map, List.getElem?_map] at hd
    obtain ⟨p, hp, rfl⟩ := Option.map_eq_some_iff.mp hd
    have hm := List.mem_of_getElem? hp
    have hlt : p.1 < sz.length := hn.lt _ (List.of_mem_zip hm).1
    have kk : Same H H'' := ((k1.trans k2).trans k3).trans k4
    refine g2_go rd fun w1 w2 q1 q2 => ?_
    rw [dp_int q1, dp_int q2]
    have pl : placeN sz ((ns.zip ws).take i) ≤ 4 := by
      have h1 := place_lt sz ((ns.zip ws).take i) fun x hx => hb x (List.mem_of_mem_take hx)
      have h2 : prodN (((ns.zip ws).take i).map fun p => sz.getD p.1 0) ≤ 4 := by
        have h3 : ((ns.zip ws).take i).map (fun p => sz.getD p.1 0) = (ns.take i).map fun n => sz.getD n 0 := by
          rw [List.map_take, show ((ns.zip ws).map fun p => sz.getD p.1 0) = ((ns.zip ws).map (·.1)).map fun n => sz.getD n 0 by rw [List.map_map]; rfl, zip_fst hl, List.map_take]
        rw [h3]
        exact (hn.take i).prod hz
      omega
    have sl := hz.le hlt
    refine b_setv 3 nd (ev_add (ev_mul (ev_v 3 rfl (.int _)) (ev_ixT (ev_v 0 rfl (dp_mono kk r1)) (ev_v 4 rfl (.int _)) (at_pns (getD_at hlt))) (cmul_k (by omega) (by omega))) (ev_v 5 rfl (.int _))) fun v6 H6 k6 r6 => bw_nil ⟨some (.int p.1), some (.int p.2), ?_, (k3.trans k4).trans k6⟩
    rw [dp_int r6, place_take sz _ i p hp]
    rfl
  · rintro σ' H' ⟨o4, o5, rfl, k3⟩
    refine b_retv (ev_v 3 rfl (.int _)) fun v4 H4 k4 r4 => q v4 H4 (((k1.trans k2).trans k3).trans k4) ?_
    rw [List.take_of_length_le (by rw [List.length_zip, List.length_map]; omega)] at r4
    exact r4
end
end SO
set_option Elab.async false
set_option linter.all false
set_option maxRecDepth 100000
set_option maxHeartbeats 4000000
/-! So18: worth_by, joined, without, need_name. -/
namespace SO
open PySem PySem.Spec PyProof.Rows L2
section
variable {X : Cx} {iter : Expr} {σ : L2.St} {H : Hp} {sts body : List Stmt} {pos px p : Pos} {ds es : List D0} {D : Ends} {x : Str} {q : Addr}
/-- for over a new list -/
theorem b_forN {tg : Expr} {g : TG} (hg : PG X tg g) (hc : X.calm = true) (hi : EvL X iter σ H ds)
    (k : ∀ q xs H1, H q = none → Same H H1 → H1 q = some (.lst xs) → DpAll X.K H1 xs ds → ∃ Pv : Nat → L2.St → Hp → Prop, Pv 0 σ H1 ∧ (∀ i σ' H', Pv i σ' H' → H' q = some (.lst xs)) ∧
      (∀ i d v σ' H', ds[i]? = some d → xs[i]? = some v → Dp X.K H1 v d → Pv i σ' H' → g v σ' H' fun σ2 H2 => BW X body { D with nx := Pv (i + 1), ct := Pv (i + 1), bk := fun σ' H' => BW X sts D σ' H' } σ2 H2) ∧ ∀ σ' H', Pv ds.length σ' H' → BW X sts D σ' H')
    (hp : PassesOwn (model X.prog X.w) X.A X.env X.xe := by exact PassesOwn.never) (hfs : ∀ y, foldedSetIterable iter X.env y = pure y := by intro _; rfl) : BW X (.For tg iter body [] pos :: sts) D σ H := by
  refine bw_cons (sw_ps (ps_for hp hc (pi_list pe_ew) hg pss_bw hfs) (show EW X iter σ H _ from hi.go fun q H1 n k1 ⟨xs, h1, h2⟩ => ?_))
  obtain ⟨Pv, p0, pk, ps, pd⟩ := k q xs H1 n k1 h1 h2
  refine ⟨q, rfl, ⟨xs, SqL.of h1⟩, for_list (xs := xs) Pv p0 (fun i σ' H' _ p => SqL.of (pk i σ' H' p)) (fun i x σ' H' hx p => ?_) (fun σ' H' p => pd σ' H' (by rw [← dpa_len h2]; exact p))⟩
  obtain ⟨d, e1, r1⟩ := dpa_getv h2 hx
  exact ps i d x σ' H' e1 hx r1 p
end
section
variable {P : Program} {w : World} {K : PySem.W.Frag} {mg : Str → Option Value} {base : Heap}
/-- the arguments of worth_by stand so -/
structure WbOk (sz : List Nat) (p : Part) (names s : List Nat) : Prop where
  szok : SzOk sz
  part : PartOk sz p
  nm : Nm sz.length names
  sub : ∀ n ∈ p.1, n ∈ names
  fill : s ∈ fillings sz names
def spWB (K : PySem.W.Frag) : Sp := fun vs H Q _ => ∃ v1 v2 v3 v4 sz p names s, vs = [v1, v2, v3, v4] ∧ Dp K H v1 (pns sz) ∧ Dp K H v2 (pp p) ∧ Tx H v3 names ∧ Dp K H v4 (pns s) ∧ WbOk sz p names s ∧ ∀ v H', Same H H' → Dp K H' v (.int (worthBy sz p names s)) → Q v H'
theorem zip_map_snd {f : Nat → Nat} : ∀ {xs : List Nat} {x : Nat × Nat}, x ∈ xs.zip (xs.map f) → x.2 = f x.1
  | y :: ys, x, h => by
    simp only [List.map_cons, List.zip_cons_cons, List.mem_cons] at h
    rcases h with rfl | h
    · rfl
    · exact zip_map_snd h
theorem WbOk.place {sz : List Nat} {p : Part} {names s : List Nat} (h : WbOk sz p names s) : (∀ x ∈ p.1.zip (p.1.map fun n => s.getD (names.idxOf n) 0), x.2 < sz.getD x.1 0) ∧ placeN sz (p.1.zip (p.1.map fun n => s.getD (names.idxOf n) 0)) < p.2.length := by
  have h1 : ∀ x ∈ p.1.zip (p.1.map fun n => s.getD (names.idxOf n) 0), x.2 < sz.getD x.1 0 := by
    intro x hx
    obtain ⟨a, b⟩ := x
    have e : b = s.getD (names.idxOf a) 0 := zip_map_snd hx
    subst e
    have hm := h.sub a (List.of_mem_zip hx).1
    have hlt := List.idxOf_lt_length_iff.mpr hm
    exact fill_lt h.fill (by rw [List.getElem?_eq_getElem hlt, List.getElem_idxOf hlt])
  refine ⟨h1, ?_⟩
  have h2 := place_lt sz _ h1
  rw [show ((p.1.zip (p.1.map fun n => s.getD (names.idxOf n) 0)).map fun p => sz.getD p.1 0) = ((p.1.zip (p.1.map fun n => s.getD (names.idxOf n) 0)).map (·.1)).map fun n => sz.getD n 0 by rw [List.map_map]; rfl, zip_fst (by rw [List.length_map]), ← h.part.full] at h2
  exact h2
theorem cal_worth_by (C : Ctx K mg) : C8.Cal P w K mg base 2 "worth_by" (spWB K) [] := by
  refine cal_of (k := 1) C.h_worth_by c_worth_by (fun vs H Q E ⟨_, _, _, _, _, _, _, _, h, _⟩ => by rw [h]; rfl) fun cdv A outer s H vs Q E hr ⟨v1, v2, v3, v4, sz, p, names, sm, e, r1, r2, r3, r4, ok, q⟩ => ?_
  subst e
  have nd := c_worth_by.nd
  have few : p.1.length ≤ sz.length := ok.part.rise.nm.few
  have zl := ok.szok.len
  refine b_asg (g_two 4 5 rfl nd) ((ev_v 1 rfl r2).go fun v H1 k1 rp => g2_go rp fun w1 w2 q1 q2 => ?_)
  refine b_retv (ev_ixT (ev_v 5 rfl q2) (ev_call (cal_place_of C) hr (by decide) (eva3 (ev_v 0 rfl (dp_mono k1 r1)) (ev_v 4 rfl q1) (EvL.ev (evl_lc (lcv_T (xs := p.1) (enc := pn) (f := fun n => pn (sm.getD (names.idxOf n) 0)) [("name", 6)] 6 rfl nd (ev_v 4 rfl q1) (blkOk_by (N := n_worth_by) (sc := defScope s_worth_by) (by decide +kernel)) (by omega) (fun _ _ => rfl) fun a ha v H5 k5 r5 => ?_)))) ⟨sz, p.1, p.1.map fun n => sm.getD (names.idxOf n) 0, ?_, ok.szok, ok.part.rise.nm, by rw [List.length_map], ok.place.1, rfl⟩) (at_map (g := PyData.int) (x := worthBy sz p names sm) ?_)) fun v2 H2 k2 r => q v2 H2 (k1.trans k2) r
  · intro s' H0 C' cl fp
    have hlt := List.idxOf_lt_length_iff.mpr (ok.sub a ha)
    exact ev_ixT (ev_v 3 rfl (dp_mono (k1.trans k5) r4)) (ev_tupIx 2 rfl (r3.mono (k1.trans k5)) (ok.sub a ha) (ev_v 6 rfl r5)) (at_pns (getD_at (by rw [fill_len ok.fill]; exact hlt)))
  · rw [List.map_map]; rfl
  · unfold worthBy
    rw [List.getD_eq_getElem?_getD, List.getElem?_eq_getElem ok.place.2]
    rfl
end
end SO
set_option Elab.async false
set_option linter.all false
set_option maxRecDepth 100000
set_option maxHeartbeats 4000000
/-! So19: joined, need_name, without, gathered. -/
namespace SO
open PySem PySem.Spec PyProof.Rows L2
section
variable {X : Cx} {a b c e : Expr} {σ : L2.St} {H : Hp} {pos p : Pos}
theorem ev_wb {k j : Nat} {sz names s : List Nat} {pt : Part} (cl : C8.Cal X.prog X.w X.K X.mg X.base k "worth_by" (spWB X.K) []) (hr : Room j X.A) (hk : k ≤ j) (h1 : Ev X a σ H (pns sz)) (h2 : Ev X b σ H (pp pt)) (h3 : Ex X c σ H names) (h4 : Ev X e σ H (pns s)) (ok : WbOk sz pt names s)
    (hg : Gl X "worth_by" := by rfl) (he1 : starEach [a, b, c, e] X.env = (false, eval a X.env) :: starEach [b, c, e] X.env := by rfl) (he2 : starEach [b, c, e] X.env = (false, eval b X.env) :: starEach [c, e] X.env := by rfl) (he3 : starEach [c, e] X.env = (false, eval c X.env) :: starEach [e] X.env := by rfl) (he4 : starEach [e] X.env = (false, eval e X.env) :: starEach [] X.env := by rfl)
    (hpl : (backTo pos (starEach [b, c, e] X.env)).any (·.1) = false := by rfl) : Ev X (.Call (.Name "worth_by" p) [a, b, c, e] [] pos) σ H (.int (worthBy sz pt names s)) := fun H1 k1 =>
  ew_call cl hr hk (aw_cons ((h1 H1 k1).mono fun v1 H2 ⟨k2, r1⟩ => aw_cons ((h2 H2 (k1.trans k2)).mono fun v2 H3 ⟨k3, r2⟩ => aw_cons ((h3 H3 ((k1.trans k2).trans k3)).mono fun v3 H4 ⟨k4, r3⟩ => aw_one ((h4 H4 (((k1.trans k2).trans k3).trans k4)).mono fun v4 H5 ⟨k5, r4⟩ =>
    ⟨v1, v2, v3, v4, sz, pt, names, s, rfl, dp_mono ((k3.trans k4).trans k5) r1, dp_mono (k4.trans k5) r2, r3.mono k5, r4, ok, fun v H' k r => ⟨(((k2.trans k3).trans k4).trans k5).trans k, r⟩⟩) he4) he3) he2) he1) hg (by decide) he1 hpl
end
def Bits (a : Nat) (p : Part) : Prop := ∀ w ∈ p.2, w.natAbs < 2 ^ a
def joinedP (wd : Wd) (sz : List Nat) (p q : Part) : Part := (sd (p.1 ++ q.1), (fillings sz (sd (p.1 ++ q.1))).map fun s => joinW wd (worthBy sz p (sd (p.1 ++ q.1)) s) (worthBy sz q (sd (p.1 ++ q.1)) s))
theorem sd_rise {many : Nat} {ns : List Nat} (h : ∀ n ∈ ns, n < many) : Rise many (sd ns) := ⟨sd_lt ns, fun n hn => h n (sd_mem.mp hn)⟩
theorem cmul_bits {i j : Int} {a b : Nat} (hi : i.natAbs < 2 ^ a) (hj : j.natAbs < 2 ^ b) (ha : a + b < 1000000) : CMulW i j := by
  have h : ∀ (k : Int) (c : Nat), k.natAbs < 2 ^ c → k.natAbs.log2 ≤ c := fun k c hk => by
    by_cases z : k.natAbs = 0
    · rw [z]; exact Nat.zero_le _
    · exact Nat.le_of_lt ((Nat.log2_lt z).mpr hk)
  have h1 := h i a hi
  have h2 := h j b hj
  unfold CMulW
  omega
theorem worthBy_mem {sz : List Nat} {p : Part} {names s : List Nat} (h : WbOk sz p names s) : worthBy sz p names s ∈ p.2 := by
  unfold worthBy
  rw [List.getD_eq_getElem?_getD, List.getElem?_eq_getElem h.place.2]
  exact List.getElem_mem _
theorem joined_part (wd : Wd) {sz : List Nat} {p q : Part} (hp : PartOk sz p) (hq : PartOk sz q) : PartOk sz (joinedP wd sz p q) := ⟨sd_rise fun n hn => by
    rcases List.mem_append.mp hn with h | h
    · exact hp.rise.lt n h
    · exact hq.rise.lt n h, by
  show (List.map _ (fillings sz (sd (p.1 ++ q.1)))).length = _
  rw [List.length_map, fillings_len]
  rfl⟩
section
variable {P : Program} {w : World} {K : PySem.W.Frag} {mg : Str → Option Value} {base : Heap}
def rJoined (ds : List D0) (d : D0) : Prop := ∃ (wd : Wd) (sz : List Nat) (p q : Part) (a : Nat), ds = [.str wd.str, pns sz, pp p, pp q] ∧ SzOk sz ∧ PartOk sz p ∧ PartOk sz q ∧ Bits a p ∧ Bits a q ∧ a < 100000 ∧ d = pp (joinedP wd sz p q)
theorem cal_joined (C : Ctx K mg) : C8.Cal P w K mg base 3 "joined" (spP K rJoined) [] := by
  refine cal_of (k := 2) C.h_joined c_joined (spP_len fun ds d ⟨_, _, _, _, _, h, _⟩ => by rw [h]; rfl) fun cdv A outer s H vs Q E hr ⟨ds, d, r, ⟨wd, sz, p1, p2, bt, e1, hz, hp1, hp2, hb1, hb2, hbt, e2⟩, q⟩ => ?_
  subst e1; subst e2
  obtain ⟨v1, v2, v3, v4, rfl, r1, r2, r3, r4⟩ := dpa4 r
  have nd := c_joined.nd
  have zl := hz.len
  have jp := joined_part wd hp1 hp2
  have rise : Rise sz.length (sd (p1.1 ++ p2.1)) := jp.rise
  have f1 := hp1.rise.nm.few
  have f2 := hp2.rise.nm.few
  have few := rise.nm.few
  have fl := rise.nm.fills hz
  generalize hnm : sd (p1.1 ++ p2.1) = names at rise few fl
  refine b_set 4 nd (Ex.go (ns := names) (ex_tupleL C.m_tuple (EvL.ev (EvL.to (evl_sortedSet (ns := p1.1 ++ p2.1) rfl C.m_sorted C.m_set (.inr (Ev.to (ev_catT (ev_ixT (ev_v 2 rfl r3) ev_int (at_nat (n := 0) rfl)) (ev_ixT (ev_v 3 rfl r4) ev_int (at_nat (n := 0) rfl)) (by rw [List.length_map, List.length_map]; omega)) (by unfold pns; rw [List.map_append]))) (by rw [List.length_append]; omega)) (by rw [hnm])))) fun vn H1 k1 rn => ?_)
  refine b_setl 5 nd (evl_lst eva_nil) fun ql H2 nl k2 ll => ?_
  have nl0 := none_back k1 nl
  refine b_forN (g_name 6 nd) rfl (evl_call (cal_fillings_of C) hr (by decide) (eva2 (ev_v 1 rfl (dp_mono (k1.trans k2) r2)) (ev_v 4 rfl ((rn.mono k2).dp))) ⟨sz, names, rfl, hz, rise.nm, rfl⟩) fun qf xs H3 nf k3 hx hd => ⟨fun i σ' H' => ∃ o, σ' = [some v1, some v2, some v3, some v4, some vn, some (.ref ql), o] ∧ SameB ql H3 H' ∧ Ls K H' ql (((fillings sz names).take i).map fun s => .int (joinW wd (worthBy sz p1 names s) (worthBy sz p2 names s))),
    ⟨none, rfl, SameB.of_same (Same.refl _), ls_mono ll k3⟩, fun i σ' H' ⟨o, _, k, _⟩ => k _ _ (fun z => ?_) hx, ?_, ?_⟩
  · subst z
    obtain ⟨ys, h⟩ := ll.some
    rw [h] at nf
    cases nf
  · rintro i d v σ' H' hd2 hv rv ⟨o, rfl, kb, lb⟩
    rw [List.getElem?_map] at hd2
    obtain ⟨sm, hs2, rfl⟩ := Option.map_eq_some_iff.mp hd2
    have hsm : sm ∈ fillings sz names := List.mem_of_getElem? hs2
    have kH : Same H1 H' := kb.same (k2.trans k3) nl
    have tp : Tp H3 H' := kb.tp (ls_mono ll k3).some.choose_spec
    have ok1 : WbOk sz p1 names sm := ⟨hz, hp1, rise.nm, fun n hn => by rw [← hnm]; exact sd_mem.mpr (List.mem_append_left _ hn), hsm⟩
    have ok2 : WbOk sz p2 names sm := ⟨hz, hp2, rise.nm, fun n hn => by rw [← hnm]; exact sd_mem.mpr (List.mem_append_right _ hn), hsm⟩
    refine b_append 5 rfl lb (ev_call (cal_join C) hr (by decide) (eva3 (ev_v 0 rfl (dp_mono (k1.trans kH) r1)) (ev_wb (cal_worth_by C) hr (by decide) (ev_v 1 rfl (dp_mono (k1.trans kH) r2)) (ev_v 2 rfl (dp_mono (k1.trans kH) r3)) (ex_v 4 rfl (rn.mono kH)) (ev_v 6 rfl (dp_tp tp tup_pns rv)) ok1) (ev_wb (cal_worth_by C) hr (by decide) (ev_v 1 rfl (dp_mono (k1.trans kH) r2)) (ev_v 3 rfl (dp_mono (k1.trans kH) r4)) (ex_v 4 rfl (rn.mono kH)) (ev_v 6 rfl (dp_tp tp tup_pns rv)) ok2)) ⟨wd, _, _, rfl, fun _ => cmul_bits (hb1 _ (worthBy_mem ok1)) (hb2 _ (worthBy_mem ok2)) (by omega), rfl⟩) ?_ rfl ?_ fun H5 k5 l5 => bw_nil ⟨_, rfl, kb.trans k5, ?_⟩
    · refine tupOnlyL_iff.mpr fun d hd => ?_
      obtain ⟨w, _, rfl⟩ := List.mem_map.mp hd
      rfl
    · rw [List.length_map, List.length_take]; omega
    · rw [List.take_succ, hs2, List.map_append]
      exact l5
  · rintro σ' H' ⟨o, rfl, kb, lb⟩
    rw [List.length_map, List.take_length] at lb
    have kH : Same H1 H' := kb.same (k2.trans k3) nl
    refine b_retv (d := pp (joinedP wd sz p1 p2)) (Ev.to (ev_tup (eva2 (ev_v 4 rfl (rn.mono kH).dp) (ev_tupleL C.m_tuple (ev_v 5 rfl lb.dp)))) ?_) fun v H5 k5 r5 => q v H5 ((k1.trans kH).trans k5) r5
    unfold pp joinedP pis
    rw [hnm, List.map_map]
    rfl
end
end SO
set_option Elab.async false
set_option linter.all false
set_option maxRecDepth 100000
set_option maxHeartbeats 4000000
/-! So20: need_name, without, gathered, settled, widened. -/
namespace SO
open PySem PySem.Spec PyProof.Rows L2
def wout (ns : List Nat) (n : Nat) : List Nat := ns.filter fun m => !decide ((m : Int) = (n : Int))
theorem wout_mem {ns : List Nat} {n m : Nat} : m ∈ wout ns n ↔ m ∈ ns ∧ m ≠ n := by
  unfold wout
  rw [List.mem_filter]
  simp
  intro _
  omega
theorem wout_rise {many : Nat} {ns : List Nat} {n : Nat} (h : Rise many ns) : Rise many (wout ns n) := ⟨h.up.filter _, fun m hm => h.lt m (wout_mem.mp hm).1⟩
theorem snoc_nm {many : Nat} {ns : List Nat} {n : Nat} (h : Nm many ns) (hn : n < many) (hm : n ∉ ns) : Nm many (ns ++ [n]) := ⟨by
    rw [List.nodup_append]
    exact ⟨h.nd, by simp, fun a ha b hb => by rw [List.mem_singleton.mp hb]; exact fun z => hm (z ▸ ha)⟩, fun m h' => by
    rcases List.mem_append.mp h' with h' | h'
    · exact h.lt m h'
    · rw [List.mem_singleton.mp h']; exact hn⟩
theorem fillings_snoc (sz ns : List Nat) (n : Nat) : fillings sz (ns ++ [n]) = fstep sz (fillings sz ns) n := by
  unfold fillings
  rw [List.foldl_append]
  rfl
theorem fill_snoc {sz ns s : List Nat} {n w : Nat} (h : s ∈ fillings sz ns) (hw : w < sz.getD n 0) : s ++ [w] ∈ fillings sz (ns ++ [n]) := by
  rw [fillings_snoc]
  unfold fstep
  exact List.mem_flatMap.mpr ⟨s, h, List.mem_map.mpr ⟨w, List.mem_range.mpr hw, rfl⟩⟩
def gatheredP (wd : Wd) (sz : List Nat) (p : Part) (n : Nat) : Part :=
  (wout p.1 n, (fillings sz (wout p.1 n)).map fun s => gatherW wd ((List.range (sz.getD n 0)).map fun w => worthBy sz p (wout p.1 n ++ [n]) (s ++ [w])))
def settledP (sz : List Nat) (p : Part) (n w : Nat) : Part :=
  (wout p.1 n, (fillings sz (wout p.1 n)).map fun s => worthBy sz p (wout p.1 n ++ [n]) (s ++ [w]))
def widenedP (sz : List Nat) (p : Part) (ns : List Nat) : Part :=
  (sd (p.1 ++ ns), (fillings sz (sd (p.1 ++ ns))).map fun s => worthBy sz p (sd (p.1 ++ ns)) s)
theorem wb_snoc {sz : List Nat} {p : Part} {n w : Nat} {s : List Nat} (hz : SzOk sz) (hp : PartOk sz p) (hn : n ∈ p.1) (hs : s ∈ fillings sz (wout p.1 n)) (hw : w < sz.getD n 0) : WbOk sz p (wout p.1 n ++ [n]) (s ++ [w]) :=
  ⟨hz, hp, snoc_nm (wout_rise hp.rise).nm (hp.rise.lt n hn) (fun z => (wout_mem.mp z).2 rfl), fun m hm => by
    by_cases e : m = n
    · subst e; simp
    · exact List.mem_append_left _ (wout_mem.mpr ⟨hm, e⟩), fill_snoc hs hw⟩
theorem part_of_fill {sz ns : List Nat} {f : List Nat → Int} (h : Rise sz.length ns) : PartOk sz (ns, (fillings sz ns).map f) := ⟨h, by
  show (List.map f (fillings sz ns)).length = _
  rw [List.length_map, fillings_len]⟩
theorem ints_tup {ns : List Int} : tupOnlyL (ns.map PyData.int) = true := tup_ints
theorem map_ints {α : Type} {xs : List α} {f : α → Int} : xs.map (fun a => PyData.int (f a)) = (xs.map f).map PyData.int := by rw [List.map_map]; rfl
section
variable {P : Program} {w : World} {K : PySem.W.Frag} {mg : Str → Option Value} {base : Heap}
def rNeedName (ds : List D0) (d : D0) : Prop := ∃ (p : Part) (n : Nat), ds = [pp p, pn n] ∧ n ∈ p.1 ∧ d = .none
theorem cal_need_name (C : Ctx K mg) : C8.Cal P w K mg base 2 "need_name" (spP K rNeedName) [] := by
  refine cal_of (k := 1) C.h_need_name c_need_name (spP_len fun ds d ⟨_, _, h, _⟩ => by rw [h]; rfl) fun cdv A outer s H vs Q E hr ⟨ds, d, r, ⟨p, n, e1, hn, e2⟩, q⟩ => ?_
  subst e1; subst e2
  obtain ⟨v1, v2, rfl, r1, r2⟩ := dpa2 r
  exact b_skip (b := !true || !decide (n ∈ p.1)) (tv_wv (wv_or (tv_not (tv_ev (ev_call (cal_is_whole C) hr (by decide) (eva1 (ev_v 1 rfl r2)) ⟨n, rfl, rfl⟩))) fun _ => wv_or1 (tv_notInT (ev_v 1 rfl r2) (ev_ixT (ev_v 0 rfl r1) ev_int (at_nat (n := 0) rfl))))) (by simp [hn]) fun H1 k1 => bw_nil (q _ H1 k1 .non)
def rWithout (ds : List D0) (d : D0) : Prop := ∃ (ns : List Nat) (n : Nat), ds = [pns ns, pn n] ∧ ns.length ≤ 1000 ∧ d = pns (wout ns n)
theorem cal_without (C : Ctx K mg) : C8.Cal P w K mg base 1 "without" (spP K rWithout) [] := by
  refine cal_of (k := 0) C.h_without c_without (spP_len fun ds d ⟨_, _, h, _⟩ => by rw [h]; rfl) fun cdv A outer s H vs Q E hr ⟨ds, d, r, ⟨ns, n, e1, hn, e2⟩, q⟩ => ?_
  subst e1; subst e2
  obtain ⟨v1, v2, rfl, r1, r2⟩ := dpa2 r
  have nd := c_without.nd
  refine b_retv (ev_tupleL C.m_tuple (EvL.ev (evl_lc (lcv_Tif (xs := ns) (enc := pn) (f := pn) (c := fun m => !decide ((m : Int) = (n : Int))) [("one", 2)] 2 rfl nd (ev_v 0 rfl r1) (blkOk_by (N := n_without) (sc := defScope s_without) (by decide +kernel)) (by omega) (fun _ _ => rfl) (fun a ha v H5 k5 r5 => ?_) fun a ha v H5 k5 r5 _ => ?_)))) q
  · intro s' H0 C' cl fp
    exact tv_neI (ev_v 2 rfl r5) (ev_v 1 rfl (dp_mono k5 r2))
  · intro s' H0 C' cl fp
    exact ev_v 2 rfl r5
def rGathered (ds : List D0) (d : D0) : Prop := ∃ (wd : Wd) (sz : List Nat) (p : Part) (n : Nat), ds = [.str wd.str, pns sz, pp p, pn n] ∧ SzOk sz ∧ PartOk sz p ∧ n ∈ p.1 ∧ d = pp (gatheredP wd sz p n)
theorem cal_gathered (C : Ctx K mg) : C8.Cal P w K mg base 3 "gathered" (spP K rGathered) [] := by
  refine cal_of (k := 2) C.h_gathered c_gathered (spP_len fun ds d ⟨_, _, _, _, h, _⟩ => by rw [h]; rfl) fun cdv A outer s H vs Q E hr ⟨ds, d, r, ⟨wd, sz, p1, n, e1, hz, hp1, hn, e2⟩, q⟩ => ?_
  subst e1; subst e2
  obtain ⟨v1, v2, v3, v4, rfl, r1, r2, r3, r4⟩ := dpa4 r
  have nd := c_gathered.nd
  have zl := hz.len
  have rise : Rise sz.length (wout p1.1 n) := wout_rise hp1.rise
  have f1 := hp1.rise.nm.few
  have few := rise.nm.few
  have fl := rise.nm.fills hz
  have hlt := hp1.rise.lt n hn
  have hle := hz.le hlt
  have hge := hz.ge hlt
  rw [dp_int r4] at *
  refine b_expr (Ev.go (ev_call (cal_need_name C) hr (by decide) (eva2 (ev_v 2 rfl r3) (ev_v 3 rfl (.int _))) ⟨p1, n, rfl, hn, rfl⟩) fun _ H0 k0 _ => ?_)
  refine b_setv 4 nd (ev_call (cal_without C) hr (by decide) (eva2 (ev_ixT (ev_v 2 rfl (dp_mono k0 r3)) ev_int (at_nat (n := 0) rfl)) (ev_v 3 rfl (.int _))) ⟨p1.1, n, rfl, by omega, rfl⟩) fun vn H1 k1' rn => ?_
  have k1 := k0.trans k1'
  generalize hnm : wout p1.1 n = names at rise few fl rn
  refine b_setl 5 nd (evl_lst eva_nil) fun ql H2 nl k2 ll => ?_
  have nl0 := none_back k1 nl
  refine b_forN (g_name 6 nd) rfl (evl_call (cal_fillings_of C) hr (by decide) (eva2 (ev_v 1 rfl (dp_mono (k1.trans k2) r2)) (ev_v 4 rfl (dp_mono k2 rn))) ⟨sz, names, rfl, hz, rise.nm, rfl⟩) fun qf xs H3 nf k3 hx hd => ⟨fun i σ' H' => ∃ o o7 o8, σ' = [some v1, some v2, some v3, some (.int n), some vn, some (.ref ql), o, o7, o8] ∧ SameB ql H3 H' ∧ Ls K H' ql (((fillings sz names).take i).map fun s => .int (gatherW wd ((List.range (sz.getD n 0)).map fun w => worthBy sz p1 (names ++ [n]) (s ++ [w])))),
    ⟨none, none, none, rfl, SameB.of_same (Same.refl _), ls_mono ll k3⟩, fun i σ' H' ⟨_, _, _, _, k, _⟩ => k _ _ (fun z => ?_) hx, ?_, ?_⟩
  · subst z
    obtain ⟨ys, h⟩ := ll.some
    rw [h] at nf
    cases nf
  · rintro i d v σ' H' hd2 hv rv ⟨o, o7, o8, rfl, kb, lb⟩
    rw [List.getElem?_map] at hd2
    obtain ⟨sm, hs2, rfl⟩ := Option.map_eq_some_iff.mp hd2
    have hsm : sm ∈ fillings sz names := List.mem_of_getElem? hs2
    have kH : Same H1 H' := kb.same (k2.trans k3) nl
    have tp : Tp H3 H' := kb.tp (ls_mono ll k3).some.choose_spec
    have rs := dp_tp tp tup_pns rv
    have hsl := fill_len hsm
    refine b_setlc 7 (lcv_R (n := sz.getD n 0) (fn := fun w => .int (worthBy sz p1 (names ++ [n]) (sm ++ [w]))) [("worth", 8)] 8 rfl nd C.m_range (ev_ixT (ev_v 1 rfl (dp_mono (k1.trans kH) r2)) (ev_v 3 rfl (.int _)) (at_pns (getD_at hlt))) (blkOk_by (N := n_gathered) (sc := defScope s_gathered) (by decide +kernel)) (by omega) (fun _ _ => rfl) fun a ha H5 k5 => ?_) fun qn H5 nn k5 l5 => ?_
    · intro s' H0 C' cl fp
      refine ev_wb (cal_worth_by C) hr (by decide) (ev_v 1 rfl (dp_mono ((k1.trans kH).trans k5) r2)) (ev_v 2 rfl (dp_mono ((k1.trans kH).trans k5) r3)) (ex_cat (ev_v 4 rfl (dp_mono (kH.trans k5) rn)) (ex_one (ev_v 3 rfl (.int _))) (by simp) (by simp; omega)) (Ev.to (ev_catT (ev_v 6 rfl (dp_mono k5 rs)) (ev_tup (eva1 (ev_v 8 rfl (.int _)))) (by rw [List.length_map, List.length_singleton]; omega)) pns_snoc.symm) (hnm ▸ wb_snoc hz hp1 hn (hnm ▸ hsm) ha)
    · refine b_append 5 rfl (ls_mono lb k5) (ev_call (cal_gather C) hr (by decide) (eva2 (ev_v 0 rfl (dp_mono ((k1.trans kH).trans k5) r1)) (ev_v 7 rfl l5.dp)) ⟨wd, (List.range (sz.getD n 0)).map fun w => worthBy sz p1 (names ++ [n]) (sm ++ [w]), by rw [map_ints], ?_, rfl⟩) ?_ rfl ?_ fun H6 k6 l6 => bw_nil ⟨_, _, _, rfl, (kb.trans (SameB.of_same k5)).trans k6, ?_⟩
      · intro z
        have := congrArg List.length z
        rw [List.length_map, List.length_range] at this
        simp at this
        simp [List.getD_eq_getElem?_getD] at hge
        omega
      · rw [map_ints]; exact tup_ints
      · rw [List.length_map, List.length_take]; omega
      · rw [List.take_succ, hs2, List.map_append]
        exact l6
  · rintro σ' H' ⟨o, o7, o8, rfl, kb, lb⟩
    rw [List.length_map, List.take_length] at lb
    have kH : Same H1 H' := kb.same (k2.trans k3) nl
    refine b_retv (d := pp (gatheredP wd sz p1 n)) (Ev.to (ev_tup (eva2 (ev_v 4 rfl (dp_mono kH rn)) (ev_tupleL C.m_tuple (ev_v 5 rfl lb.dp)))) ?_) fun v H5 k5 r5 => q v H5 ((k1.trans kH).trans k5) r5
    unfold pp gatheredP pis
    rw [hnm, List.map_map]
    rfl
end
end SO
set_option Elab.async false
set_option linter.all false
set_option maxRecDepth 100000
set_option maxHeartbeats 4000000
/-! So21: settled, widened, all_joined, left_for; bits. -/
namespace SO
open PySem PySem.Spec PyProof.Rows L2
section
variable {X : Cx} {a b c : Expr} {σ : L2.St} {H : Hp} {pos : Pos}
/-- a < b < c as a test -/
theorem tv_chain {i j k : Int} {op op' : CmpOp} {g g' : Int → Int → Bool} (ho : OpR X (compareOp op) (rI0 fun i j => .bl (g i j))) (ho' : OpR X (compareOp op') (rI0 fun i j => .bl (g' i j))) (ha : Ev X a σ H (.int i)) (hb : Ev X b σ H (.int j)) (hc : Ev X c σ H (.int k)) (hm : lastMarks [op, op'] [b, c] = false := by rfl) :
    Tv X (.Compare a [op, op'] [b, c] pos) σ H (g i j && g' j k) := fun H1 k1 =>
  tw_pt (pt_chain ho ho' pe_ew pe_ew pe_ew hm) (show EW X a σ H1 _ from (ha H1 k1).mono fun x H2 ⟨k2, r2⟩ => (hb H2 (k1.trans k2)).mono fun y H3 ⟨k3, r3⟩ => ⟨i, j, dp_int r2, dp_int r3, g i j, rfl, by
    cases e : g i j with
    | true => exact iteT ((hc H3 ((k1.trans k2).trans k3)).mono fun z H4 ⟨k4, r4⟩ => ⟨j, k, dp_int r3, dp_int r4, _, rfl, (k2.trans k3).trans k4, rfl⟩)
    | false => exact iteF ⟨_, rfl, k2.trans k3, rfl⟩⟩)
end
section
variable {P : Program} {w : World} {K : PySem.W.Frag} {mg : Str → Option Value} {base : Heap}
def rSettled (ds : List D0) (d : D0) : Prop := ∃ (sz : List Nat) (p : Part) (n u : Nat), ds = [pns sz, pp p, pn n, pn u] ∧ SzOk sz ∧ PartOk sz p ∧ n ∈ p.1 ∧ u < sz.getD n 0 ∧ d = pp (settledP sz p n u)
theorem cal_settled (C : Ctx K mg) : C8.Cal P w K mg base 3 "settled" (spP K rSettled) [] := by
  refine cal_of (k := 2) C.h_settled c_settled (spP_len fun ds d ⟨_, _, _, _, h, _⟩ => by rw [h]; rfl) fun cdv A outer s H vs Q E hr ⟨ds, d, r, ⟨sz, p1, n, u, e1, hz, hp1, hn, hu, e2⟩, q⟩ => ?_
  subst e1; subst e2
  obtain ⟨v1, v2, v3, v4, rfl, r1, r2, r3, r4⟩ := dpa4 r
  have nd := c_settled.nd
  have zl := hz.len
  have rise : Rise sz.length (wout p1.1 n) := wout_rise hp1.rise
  have f1 := hp1.rise.nm.few
  have few := rise.nm.few
  have fl := rise.nm.fills hz
  have hlt := hp1.rise.lt n hn
  rw [dp_int r3, dp_int r4] at *
  refine b_expr (Ev.go (ev_call (cal_need_name C) hr (by decide) (eva2 (ev_v 1 rfl r2) (ev_v 2 rfl (.int _))) ⟨p1, n, rfl, hn, rfl⟩) fun _ H0 k0 _ => ?_)
  refine b_skip (b := !true || !(decide ((0 : Int) ≤ (u : Int)) && decide ((u : Int) < (sz.getD n 0 : Nat)))) (tv_wv (wv_or (tv_not (tv_ev (ev_call (cal_is_whole C) hr (by decide) (eva1 (ev_v 3 rfl (.int _))) ⟨u, rfl, rfl⟩))) fun _ => wv_or1 (tv_not (tv_chain op_le op_lt ev_int (ev_v 3 rfl (.int _)) (ev_ixT (ev_v 0 rfl (dp_mono k0 r1)) (ev_v 2 rfl (.int _)) (at_pns (getD_at hlt))))))) (by simp at hu ⊢; omega) fun H0' k0' => ?_
  have k00 := k0.trans k0'
  refine b_setv 4 nd (ev_call (cal_without C) hr (by decide) (eva2 (ev_ixT (ev_v 1 rfl (dp_mono k00 r2)) ev_int (at_nat (n := 0) rfl)) (ev_v 2 rfl (.int _))) ⟨p1.1, n, rfl, by omega, rfl⟩) fun vn H1 k1' rn => ?_
  have k1 := k00.trans k1'
  generalize hnm : wout p1.1 n = names at rise few fl rn
  refine b_setl 5 nd (evl_call (cal_fillings_of C) hr (by decide) (eva2 (ev_v 0 rfl (dp_mono k1 r1)) (ev_v 4 rfl rn)) ⟨sz, names, rfl, hz, rise.nm, rfl⟩) fun ql H2 nl k2 ll => ?_
  refine b_retv (d := pp (settledP sz p1 n u)) (Ev.to (ev_tup (eva2 (ev_v 4 rfl (dp_mono k2 rn)) (ev_tupleL C.m_tuple (EvL.ev (evl_lc (lcv_L (xs := fillings sz names) (enc := pns) (f := fun sm => .int (worthBy sz p1 (names ++ [n]) (sm ++ [u]))) [("some", 6)] 6 rfl nd (ev_v 5 rfl ll.dp) (blkOk_by (N := n_settled) (sc := defScope s_settled) (by decide +kernel)) (by omega) (fun _ _ => rfl) fun a ha v H5 k5 r5 => ?_)))))) ?_) fun v H5 k5 r5 => q v H5 ((k1.trans k2).trans k5) r5
  · intro s' H0 C' cl fp
    have hsl := fill_len ha
    have kk := (k1.trans k2).trans k5
    refine ev_wb (cal_worth_by C) hr (by decide) (ev_v 0 rfl (dp_mono kk r1)) (ev_v 1 rfl (dp_mono kk r2)) (ex_cat (ev_v 4 rfl (dp_mono (k2.trans k5) rn)) (ex_one (ev_v 2 rfl (.int _))) (by simp) (by simp; omega)) (Ev.to (ev_catT (ev_v 6 rfl r5) (ev_tup (eva1 (ev_v 3 rfl (.int _)))) (by rw [List.length_map, List.length_singleton]; omega)) pns_snoc.symm) (hnm ▸ wb_snoc hz hp1 hn (hnm ▸ ha) hu)
  · unfold pp settledP pis
    rw [hnm, List.map_map]
    rfl
def rWidened (ds : List D0) (d : D0) : Prop := ∃ (sz : List Nat) (p : Part) (ns : List Nat), ds = [pns sz, pp p, pns ns] ∧ SzOk sz ∧ PartOk sz p ∧ Rise sz.length ns ∧ d = pp (widenedP sz p ns)
theorem cal_widened (C : Ctx K mg) : C8.Cal P w K mg base 4 "widened" (spP K rWidened) [] := by
  refine cal_of (k := 3) C.h_widened c_widened (spP_len fun ds d ⟨_, _, _, h, _⟩ => by rw [h]; rfl) fun cdv A outer s H vs Q E hr ⟨ds, d, r, ⟨sz, p1, ns, e1, hz, hp1, hn, e2⟩, q⟩ => ?_
  subst e1; subst e2
  obtain ⟨v1, v2, v3, rfl, r1, r2, r3⟩ := dpa3 r
  have nd := c_widened.nd
  have zl := hz.len
  have rise : Rise sz.length (sd (p1.1 ++ ns)) := sd_rise fun m hm => by
    rcases List.mem_append.mp hm with h | h
    · exact hp1.rise.lt m h
    · exact hn.lt m h
  have f1 := hp1.rise.nm.few
  have f2 := hn.nm.few
  have few := rise.nm.few
  have fl := rise.nm.fills hz
  generalize hnm : sd (p1.1 ++ ns) = names at rise few fl
  refine b_expr (Ev.go (ev_call (cal_need_names C) hr (by decide) (eva2 ((ev_lenT C.m_len (ev_v 0 rfl r1)).to (by rw [List.length_map])) (ev_v 2 rfl r3)) ⟨sz.length, ns, rfl, hn, by omega, rfl⟩) fun _ H0 k0 _ => ?_)
  refine b_set 3 nd (Ex.go (ns := names) (ex_tupleL C.m_tuple (EvL.ev (EvL.to (evl_sortedSet (ns := p1.1 ++ ns) rfl C.m_sorted C.m_set (.inr (Ev.to (ev_catT (ev_ixT (ev_v 1 rfl (dp_mono k0 r2)) ev_int (at_nat (n := 0) rfl)) (ev_v 2 rfl (dp_mono k0 r3)) (by rw [List.length_map, List.length_map]; omega)) (by unfold pns; rw [List.map_append]))) (by rw [List.length_append]; omega)) (by rw [hnm])))) fun vn H1 k1' rn => ?_)
  have k1 := k0.trans k1'
  refine b_retv (d := pp (widenedP sz p1 ns)) (Ev.to (ev_tup (eva2 (ev_v 3 rfl rn.dp) (ev_tupleL C.m_tuple (EvL.ev (evl_lc (lcv_L (xs := fillings sz names) (enc := pns) (f := fun sm => .int (worthBy sz p1 names sm)) [("some", 4)] 4 rfl nd (EvL.ev (evl_call (cal_fillings_of C) hr (by decide) (eva2 (ev_v 0 rfl (dp_mono k1 r1)) (ev_v 3 rfl rn.dp)) ⟨sz, names, rfl, hz, rise.nm, rfl⟩)) (blkOk_by (N := n_widened) (sc := defScope s_widened) (by decide +kernel)) (by omega) (fun _ _ => rfl) fun a ha v H5 k5 r5 => ?_)))))) ?_) fun v H5 k5 r5 => q v H5 (k1.trans k5) r5
  · intro s' H0 C' cl fp
    exact ev_wb (cal_worth_by C) hr (by decide) (ev_v 0 rfl (dp_mono (k1.trans k5) r1)) (ev_v 1 rfl (dp_mono (k1.trans k5) r2)) (ex_v 3 rfl (rn.mono k5)) (ev_v 4 rfl r5) ⟨hz, hp1, rise.nm, fun m hm => by rw [← hnm]; exact sd_mem.mpr (List.mem_append_left _ hm), ha⟩
  · unfold pp widenedP pis
    rw [hnm, List.map_map]
    rfl
end
/-! ### bits -/
theorem pow_le2 {a b : Nat} (h : a ≤ b) : 2 ^ a ≤ 2 ^ b := Nat.pow_le_pow_right (by decide) h
theorem Bits.mono {a b : Nat} {p : Part} (h : Bits a p) (k : a ≤ b) : Bits b p := fun w hw => Nat.lt_of_lt_of_le (h w hw) (pow_le2 k)
theorem natAbs_max {i j : Int} {m : Nat} (h1 : i.natAbs < m) (h2 : j.natAbs < m) : (min i j).natAbs < m ∧ (max i j).natAbs < m := by omega
theorem joinW_bits {wd : Wd} {i j : Int} {a b : Nat} (h1 : i.natAbs < 2 ^ a) (h2 : j.natAbs < 2 ^ b) : (joinW wd i j).natAbs < 2 ^ (a + b + 1) := by
  have ha : 2 ^ a ≤ 2 ^ (a + b) := pow_le2 (Nat.le_add_right _ _)
  have hb : 2 ^ b ≤ 2 ^ (a + b) := pow_le2 (Nat.le_add_left _ _)
  have hs : 2 ^ (a + b + 1) = 2 ^ (a + b) * 2 := Nat.pow_succ _ _
  have hm : (i * j).natAbs < 2 ^ (a + b) := by
    rw [Int.natAbs_mul, Nat.pow_add]
    exact Nat.mul_lt_mul'' h1 h2
  rw [hs]
  generalize 2 ^ (a + b) = m at *
  cases wd
  · show (i * j).natAbs < _; omega
  all_goals (simp only [joinW]; omega)
theorem joined_bits {wd : Wd} {sz : List Nat} {p q : Part} {a b : Nat} (hz : SzOk sz) (hp : PartOk sz p) (hq : PartOk sz q) (h1 : Bits a p) (h2 : Bits b q) : Bits (a + b + 1) (joinedP wd sz p q) := by
  intro x hx
  obtain ⟨s, hs, rfl⟩ := List.mem_map.mp hx
  have rise := (joined_part wd hp hq).rise
  exact joinW_bits (h1 _ (worthBy_mem ⟨hz, hp, rise.nm, fun n hn => sd_mem.mpr (List.mem_append_left _ hn), hs⟩)) (h2 _ (worthBy_mem ⟨hz, hq, rise.nm, fun n hn => sd_mem.mpr (List.mem_append_right _ hn), hs⟩))
theorem gathered_part (wd : Wd) {sz : List Nat} {p : Part} {n : Nat} (hp : PartOk sz p) : PartOk sz (gatheredP wd sz p n) := part_of_fill (wout_rise hp.rise)
theorem settled_part {sz : List Nat} {p : Part} {n u : Nat} (hp : PartOk sz p) : PartOk sz (settledP sz p n u) := part_of_fill (wout_rise hp.rise)
theorem widened_part {sz : List Nat} {p : Part} {ns : List Nat} (hp : PartOk sz p) (hn : Rise sz.length ns) : PartOk sz (widenedP sz p ns) := part_of_fill (sd_rise fun m hm => by
    rcases List.mem_append.mp hm with h | h
    · exact hp.rise.lt m h
    · exact hn.lt m h)
theorem sum_bits {m : Nat} : ∀ {ns : List Int}, (∀ x ∈ ns, x.natAbs < m) → ns.sum.natAbs ≤ ns.length * m
  | [], _ => by simp
  | x :: ns, h => by
    have h1 := h x List.mem_cons_self
    have h2 := sum_bits fun y hy => h y (List.mem_cons_of_mem _ hy)
    rw [List.sum_cons, List.length_cons, Nat.succ_mul]
    omega
theorem gatherW_bits {wd : Wd} {ns : List Int} {a : Nat} (hn : ns ≠ []) (hl : ns.length ≤ 4) (h : ∀ x ∈ ns, x.natAbs < 2 ^ a) : (gatherW wd ns).natAbs < 2 ^ (a + 3) := by
  have hs : 2 ^ (a + 3) = 2 ^ a * 8 := by rw [Nat.pow_add]
  have hp : 0 < 2 ^ a := Nat.two_pow_pos a
  have h1 := sum_bits h
  have h2 := h _ (mx_spec hn).1
  have h3 := h _ (mn_spec hn).1
  have h4 : ns.length * 2 ^ a ≤ 4 * 2 ^ a := Nat.mul_le_mul_right _ hl
  rw [hs]
  generalize 2 ^ a = m at *
  cases wd <;> simp only [gatherW] <;> omega
theorem gathered_bits {wd : Wd} {sz : List Nat} {p : Part} {n a : Nat} (hz : SzOk sz) (hp : PartOk sz p) (hn : n ∈ p.1) (h : Bits a p) : Bits (a + 3) (gatheredP wd sz p n) := by
  intro x hx
  obtain ⟨s, hs, rfl⟩ := List.mem_map.mp hx
  have hlt := hp.rise.lt n hn
  have hle := hz.le hlt
  have hge := hz.ge hlt
  refine gatherW_bits (fun z => ?_) (by rw [List.length_map, List.length_range]; exact hle) fun y hy => ?_
  · have := congrArg List.length z
    rw [List.length_map, List.length_range] at this
    rw [this] at hge
    exact absurd hge (by decide)
  · obtain ⟨u, hu, rfl⟩ := List.mem_map.mp hy
    exact h _ (worthBy_mem (wb_snoc hz hp hn hs (List.mem_range.mp hu)))
theorem settled_bits {sz : List Nat} {p : Part} {n u a : Nat} (hz : SzOk sz) (hp : PartOk sz p) (hn : n ∈ p.1) (hu : u < sz.getD n 0) (h : Bits a p) : Bits a (settledP sz p n u) := by
  intro x hx
  obtain ⟨s, hs, rfl⟩ := List.mem_map.mp hx
  exact h _ (worthBy_mem (wb_snoc hz hp hn hs hu))
theorem widened_bits {sz : List Nat} {p : Part} {ns : List Nat} {a : Nat} (hz : SzOk sz) (hp : PartOk sz p) (hn : Rise sz.length ns) (h : Bits a p) : Bits a (widenedP sz p ns) := by
  intro x hx
  obtain ⟨s, hs, rfl⟩ := List.mem_map.mp hx
  exact h _ (worthBy_mem ⟨hz, hp, (widened_part hp hn).rise.nm, fun m hm => sd_mem.mpr (List.mem_append_left _ hm), hs⟩)
end SO
set_option Elab.async false
set_option linter.all false
set_option maxRecDepth 100000
set_option maxHeartbeats 4000000
/-! So22: all_joined, left_for, is_number, near_of, bag_of. -/
namespace SO
open PySem PySem.Spec PyProof.Rows L2
def unitP (wd : Wd) : Part := ([], [unitW wd])
def allJ (wd : Wd) (sz : List Nat) (ps : List Part) : Part := ps.foldl (joinedP wd sz) (unitP wd)
theorem unit_part (wd : Wd) {sz : List Nat} : PartOk sz (unitP wd) := ⟨⟨.nil, fun n h => by cases h⟩, rfl⟩
theorem unit_bits (wd : Wd) : Bits 100 (unitP wd) := fun x hx => by
  rw [List.mem_singleton.mp hx]
  cases wd <;> decide +kernel
def bsum (xs : List (Part × Nat)) : Nat := (xs.map fun x => x.2 + 1).sum
structure JOk (sz : List Nat) (xs : List (Part × Nat)) : Prop where
  part : ∀ x ∈ xs, PartOk sz x.1
  bits : ∀ x ∈ xs, Bits x.2 x.1
theorem JOk.take {sz : List Nat} {xs : List (Part × Nat)} (h : JOk sz xs) (i : Nat) : JOk sz (xs.take i) := ⟨fun x hx => h.part x (List.mem_of_mem_take hx), fun x hx => h.bits x (List.mem_of_mem_take hx)⟩
theorem allJ_fold {wd : Wd} {sz : List Nat} (hz : SzOk sz) : ∀ (xs : List (Part × Nat)) (p : Part) (a : Nat), JOk sz xs → PartOk sz p → Bits a p → PartOk sz ((xs.map (·.1)).foldl (joinedP wd sz) p) ∧ Bits (a + bsum xs) ((xs.map (·.1)).foldl (joinedP wd sz) p)
  | [], p, a, h, hp, hb => ⟨hp, hb⟩
  | x :: xs, p, a, h, hp, hb => by
    have h1 := h.part x List.mem_cons_self
    have h2 := h.bits x List.mem_cons_self
    have ih := allJ_fold hz (wd := wd) xs (joinedP wd sz p x.1) (a + x.2 + 1) ⟨fun y hy => h.part y (List.mem_cons_of_mem _ hy), fun y hy => h.bits y (List.mem_cons_of_mem _ hy)⟩ (joined_part wd hp h1) (joined_bits hz hp h1 hb h2)
    refine ⟨ih.1, ih.2.mono ?_⟩
    unfold bsum
    simp only [List.map_cons, List.sum_cons]
    omega
theorem allJ_ok (wd : Wd) {sz : List Nat} (hz : SzOk sz) {xs : List (Part × Nat)} (h : JOk sz xs) : PartOk sz (allJ wd sz (xs.map (·.1))) ∧ Bits (100 + bsum xs) (allJ wd sz (xs.map (·.1))) := allJ_fold hz xs _ _ h (unit_part wd) (unit_bits wd)
theorem bsum_take (xs : List (Part × Nat)) (i : Nat) : bsum (xs.take i) ≤ bsum xs := by
  have : bsum xs = bsum (xs.take i) + bsum (xs.drop i) := by
    unfold bsum
    rw [← List.sum_append, ← List.map_append, List.take_append_drop]
  omega
theorem bsum_mem {xs : List (Part × Nat)} {x : Part × Nat} (h : x ∈ xs) : x.2 ≤ bsum xs := by
  induction xs with
  | nil => cases h
  | cons y ys ih =>
    unfold bsum at *
    simp only [List.map_cons, List.sum_cons]
    rcases List.mem_cons.mp h with rfl | h
    · omega
    · have := ih h; omega
section
variable {P : Program} {w : World} {K : PySem.W.Frag} {mg : Str → Option Value} {base : Heap}
def rAllJ (ds : List D0) (d : D0) : Prop := ∃ (wd : Wd) (sz : List Nat) (xs : List (Part × Nat)), ds = [.str wd.str, pns sz, .list (xs.map fun x => pp x.1)] ∧ SzOk sz ∧ JOk sz xs ∧ bsum xs < 90000 ∧ d = pp (allJ wd sz (xs.map (·.1)))
theorem cal_all_joined (C : Ctx K mg) : C8.Cal P w K mg base 4 "all_joined" (spP K rAllJ) [] := by
  refine cal_of (k := 3) C.h_all_joined c_all_joined (spP_len fun ds d ⟨_, _, _, h, _⟩ => by rw [h]; rfl) fun cdv A outer s H vs Q E hr ⟨ds, d, r, ⟨wd, sz, xs, e1, hz, hj, hb, e2⟩, q⟩ => ?_
  subst e1; subst e2
  obtain ⟨v1, v2, v3, rfl, r1, r2, r3⟩ := dpa3 r
  have nd := c_all_joined.nd
  refine b_setv (d := pp (unitP wd)) 3 nd (Ev.to (ev_tup (eva2 (ev_tup eva_nil) (ev_tup (eva1 (ev_call (cal_unit C) hr (by decide) (eva1 (ev_v 0 rfl r1)) ⟨wd, rfl, rfl⟩))))) rfl) fun v4 H1 k1 r4 => ?_
  refine b_forL (g_name 4 nd) rfl (ev_v 2 rfl (dp_mono k1 r3)) fun a zs H2 k2 ha hx => ⟨fun i σ' H' => ∃ v o, σ' = [some v1, some v2, some v3, some v, o] ∧ Same H2 H' ∧ Dp K H' v (pp (allJ wd sz ((xs.take i).map (·.1)))), ⟨v4, none, rfl, Same.refl _, dp_mono k2 r4⟩, fun i σ' H' ⟨_, _, _, k, _⟩ => k.seq ha, ?_, ?_⟩
  · rintro i d v σ' H' hd hv rv ⟨vf, o, rfl, k3, rf⟩
    rw [List.getElem?_map] at hd
    obtain ⟨x, hx2, rfl⟩ := Option.map_eq_some_iff.mp hd
    have hm := List.mem_of_getElem? hx2
    have kk := (k1.trans k2).trans k3
    have h0 := allJ_ok wd hz (hj.take i)
    have b1 := bsum_take xs i
    have b2 := bsum_mem hm
    refine b_setv (d := pp (allJ wd sz ((xs.take (i + 1)).map fun x : Part × Nat => x.1))) 3 nd (Ev.to (ev_call (cal_joined C) hr (by decide) (eva4 (ev_v 0 rfl (dp_mono kk r1)) (ev_v 1 rfl (dp_mono kk r2)) (ev_v 3 rfl rf) (ev_v 4 rfl (dp_mono k3 rv))) ⟨wd, sz, _, x.1, 99999, rfl, hz, h0.1, hj.part x hm, h0.2.mono (by omega), (hj.bits x hm).mono (by omega), by decide, rfl⟩) ?_) fun v6 H6 k6 r6 => bw_nil ⟨v6, some v, rfl, k3.trans k6, r6⟩
    unfold allJ
    rw [List.take_succ, hx2, List.map_append, List.foldl_append]
    rfl
  · rintro σ' H' ⟨vf, o, rfl, k3, rf⟩
    refine b_retv (ev_v 3 rfl rf) fun v4 H4 k4 r4 => q v4 H4 (((k1.trans k2).trans k3).trans k4) ?_
    rw [List.length_map, List.take_length] at r4
    exact r4
end
/-! ### left_for -/
def lstep (wd : Wd) (sz bag : List Nat) (q : Part) (n : Nat) : Part := if n ∈ bag then q else gatheredP wd sz q n
def leftP (wd : Wd) (sz : List Nat) (p : Part) (bag : List Nat) : Part := p.1.foldl (lstep wd sz bag) p
structure LOk (sz : List Nat) (a : Nat) (p : Part) (bag done : List Nat) (q : Part) : Prop where
  part : PartOk sz q
  bits : Bits (a + 3 * done.length) q
  names : ∀ n, n ∈ q.1 ↔ n ∈ p.1 ∧ (n ∈ bag ∨ n ∉ done)
theorem lstep_ok {wd : Wd} {sz bag done : List Nat} {a : Nat} {p q : Part} {n : Nat} (hz : SzOk sz) (h : LOk sz a p bag done q) (hn : n ∈ p.1) (hd : n ∉ done) : LOk sz a p bag (done ++ [n]) (lstep wd sz bag q n) := by
  unfold lstep
  by_cases hb : n ∈ bag
  · rw [if_pos hb]
    refine ⟨h.part, h.bits.mono (by rw [List.length_append]; omega), fun m => ?_⟩
    rw [h.names]
    simp only [List.mem_append, List.mem_singleton]
    constructor
    · rintro ⟨h1, h2 | h2⟩
      · exact ⟨h1, .inl h2⟩
      · by_cases e : m = n
        · subst e; exact ⟨h1, .inl hb⟩
        · exact ⟨h1, .inr fun z => z.elim h2 e⟩
    · rintro ⟨h1, h2 | h2⟩
      · exact ⟨h1, .inl h2⟩
      · exact ⟨h1, .inr fun z => h2 (.inl z)⟩
  · rw [if_neg hb]
    have hq : n ∈ q.1 := (h.names n).mpr ⟨hn, .inr hd⟩
    refine ⟨gathered_part wd h.part, (gathered_bits hz h.part hq h.bits).mono (by rw [List.length_append, List.length_singleton]; omega), fun m => ?_⟩
    show m ∈ wout q.1 n ↔ _
    rw [wout_mem, h.names]
    simp only [List.mem_append, List.mem_singleton]
    constructor
    · rintro ⟨⟨h1, h2 | h2⟩, h3⟩
      · exact ⟨h1, .inl h2⟩
      · exact ⟨h1, .inr fun z => z.elim h2 h3⟩
    · rintro ⟨h1, h2 | h2⟩
      · exact ⟨⟨h1, .inl h2⟩, fun z => hb (z ▸ h2)⟩
      · exact ⟨⟨h1, .inr fun z => h2 (.inl z)⟩, fun z => h2 (.inr z)⟩
theorem left_take {wd : Wd} {sz bag : List Nat} {a : Nat} {p : Part} (hz : SzOk sz) (hp : PartOk sz p) (hb : Bits a p) : ∀ i, LOk sz a p bag (p.1.take i) ((p.1.take i).foldl (lstep wd sz bag) p)
  | 0 => ⟨hp, hb, fun n => by simp⟩
  | i + 1 => by
    have ih := left_take (wd := wd) (bag := bag) hz hp hb i
    cases e : p.1[i]? with
    | none => rw [List.take_succ, e]; simpa using ih
    | some n =>
      rw [List.take_succ, e, List.foldl_append]
      refine lstep_ok hz ih (List.mem_of_getElem? e) fun z => ?_
      obtain ⟨j, hj, ej⟩ := List.mem_take_iff_getElem.mp z
      obtain ⟨hi, e2⟩ := List.getElem?_eq_some_iff.mp e
      have h1 := List.pairwise_iff_getElem.mp hp.rise.up j i (by omega) hi (by omega)
      omega
theorem left_ok {wd : Wd} {sz bag : List Nat} {a : Nat} {p : Part} (hz : SzOk sz) (hp : PartOk sz p) (hb : Bits a p) : LOk sz a p bag p.1 (leftP wd sz p bag) := by
  have := left_take (wd := wd) (bag := bag) hz hp hb p.1.length
  rw [List.take_length] at this
  exact this
section
variable {P : Program} {w : World} {K : PySem.W.Frag} {mg : Str → Option Value} {base : Heap}
def rLeft (ds : List D0) (d : D0) : Prop := ∃ (wd : Wd) (sz bag : List Nat) (p : Part) (a : Nat), ds = [.str wd.str, pns sz, pp p, pns bag] ∧ SzOk sz ∧ PartOk sz p ∧ Bits a p ∧ d = pp (leftP wd sz p bag)
theorem cal_left_for (C : Ctx K mg) : C8.Cal P w K mg base 4 "left_for" (spP K rLeft) [] := by
  refine cal_of (k := 3) C.h_left_for c_left_for (spP_len fun ds d ⟨_, _, _, _, _, h, _⟩ => by rw [h]; rfl) fun cdv A outer s H vs Q E hr ⟨ds, d, r, ⟨wd, sz, bag, p1, bt, e1, hz, hp, hb, e2⟩, q⟩ => ?_
  subst e1; subst e2
  obtain ⟨v1, v2, v3, v4, rfl, r1, r2, r3, r4⟩ := dpa4 r
  have nd := c_left_for.nd
  refine b_forT (g_name 4 nd) rfl (ev_ixT (ev_v 2 rfl r3) ev_int (at_nat (n := 0) rfl)) fun a zs H2 k2 ha hx => ⟨fun i σ' H' => ∃ v o, σ' = [some v1, some v2, some v, some v4, o] ∧ Same H2 H' ∧ Dp K H' v (pp ((p1.1.take i).foldl (lstep wd sz bag) p1)), ⟨v3, none, rfl, Same.refl _, dp_mono k2 r3⟩, fun i σ' H' ⟨_, _, _, k, _⟩ => sqT_mono k ha, ?_, ?_⟩
  · rintro i d v σ' H' hd hv rv ⟨vf, o, rfl, k3, rf⟩
    rw [List.getElem?_map] at hd
    obtain ⟨n, hn, rfl⟩ := Option.map_eq_some_iff.mp hd
    have kk := k2.trans k3
    have h0 := left_take (wd := wd) (bag := bag) hz hp hb i
    have h1 := left_take (wd := wd) (bag := bag) hz hp hb (i + 1)
    have e1 : (p1.1.take (i + 1)).foldl (lstep wd sz bag) p1 = lstep wd sz bag ((p1.1.take i).foldl (lstep wd sz bag) p1) n := by
      rw [List.take_succ, hn, List.foldl_append]; rfl
    rw [dp_int rv]
    refine b_when (b := !decide (n ∈ bag)) (tv_notInT (ev_v 4 rfl (.int _)) (ev_v 3 rfl (dp_mono kk r4))) (fun hb1 H3 k4 => ?_) fun hb1 H3 k4 => bw_nil ⟨vf, _, rfl, k3.trans k4, ?_⟩
    · have hnb : n ∉ bag := by simpa using hb1
      have hmem : n ∈ ((p1.1.take i).foldl (lstep wd sz bag) p1).1 := (h0.names n).mpr ⟨List.mem_of_getElem? hn, .inr fun z => by
        obtain ⟨j, hj, ej⟩ := List.mem_take_iff_getElem.mp z
        obtain ⟨hi, e2⟩ := List.getElem?_eq_some_iff.mp hn
        have h1 := List.pairwise_iff_getElem.mp hp.rise.up j i (by omega) hi (by omega)
        omega⟩
      refine b_setv 2 nd (ev_call (cal_gathered C) hr (by decide) (eva4 (ev_v 0 rfl (dp_mono (kk.trans k4) r1)) (ev_v 1 rfl (dp_mono (kk.trans k4) r2)) (ev_v 2 rfl (dp_mono k4 rf)) (ev_v 4 rfl (.int _))) ⟨wd, sz, _, n, rfl, hz, h0.part, hmem, rfl⟩) fun v6 H6 k6 r6 => bw_nil (bw_nil ⟨v6, _, rfl, (k3.trans k4).trans k6, ?_⟩)
      rw [e1]
      unfold lstep
      rw [if_neg hnb]
      exact r6
    · have hnb : n ∈ bag := by simpa using hb1
      rw [e1]
      unfold lstep
      rw [if_pos hnb]
      exact dp_mono k4 rf
  · rintro σ' H' ⟨vf, o, rfl, k3, rf⟩
    refine b_retv (ev_v 2 rfl rf) fun v4 H4 k4 r4 => q v4 H4 ((k2.trans k3).trans k4) ?_
    rw [List.length_map, List.take_length] at r4
    exact r4
def rIsNumber (ds : List D0) (d : D0) : Prop := ∃ (i m : Int), ds = [.int i, .int m] ∧ d = .bool (decide (0 ≤ i) && decide (i < m))
theorem cal_is_number (C : Ctx K mg) : C8.Cal P w K mg base 2 "is_number" (spP K rIsNumber) [] := by
  refine cal_of (k := 1) C.h_is_number c_is_number (spP_len fun ds d ⟨_, _, h, _⟩ => by rw [h]; rfl) fun cdv A outer s H vs Q E hr ⟨ds, d, r, ⟨i, m, e1, e2⟩, q⟩ => ?_
  subst e1; subst e2
  obtain ⟨v1, v2, rfl, r1, r2⟩ := dpa2 r
  exact b_retv (Ev.to (ev_and (x := true) (ev_call (cal_is_whole C) hr (by decide) (eva1 (ev_v 0 rfl r1)) ⟨i, rfl, rfl⟩) fun _ => ev_and1 (ev_chain op_le op_lt ev_int (ev_v 0 rfl r1) (ev_v 1 rfl r2))) (by rw [Bool.true_and])) q
end
end SO
set_option Elab.async false
set_option linter.all false
set_option maxRecDepth 100000
set_option maxHeartbeats 4000000
/-! So23: near_of, bag_of, side_of. -/
namespace SO
open PySem PySem.Spec PyProof.Rows L2
abbrev Tie := Nat × Nat
def tieD (t : Tie) : D0 := .tuple [pn t.1, pn t.2]
def tiesD (ts : List Tie) : D0 := .tuple (ts.map tieD)
def near (ts : List Tie) (i : Nat) : List Nat := sortN ((ts.filter fun t => decide (i ∈ [t.1, t.2])).map fun t => t.1 + t.2 - i)
theorem near_len (ts : List Tie) (i : Nat) : (near ts i).length ≤ ts.length := by
  unfold near
  rw [sortN_len, List.length_map]
  exact List.length_filter_le _ _
theorem near_mem {ts : List Tie} {i j : Nat} : j ∈ near ts i ↔ (i, j) ∈ ts ∨ (j, i) ∈ ts := by
  unfold near
  rw [sortN_mem, List.mem_map]
  constructor
  · rintro ⟨⟨a, b⟩, h, rfl⟩
    obtain ⟨h1, h2⟩ := List.mem_filter.mp h
    simp only [List.mem_cons, List.not_mem_nil, or_false, decide_eq_true_eq] at h2
    rcases h2 with rfl | rfl
    · left
      rw [show i + b - i = b by omega]
      exact h1
    · right
      rw [show a + i - i = a by omega]
      exact h1
  · rintro (h | h)
    · exact ⟨(i, j), List.mem_filter.mpr ⟨h, by simp⟩, by show i + j - i = j; omega⟩
    · exact ⟨(j, i), List.mem_filter.mpr ⟨h, by simp⟩, by show j + i - i = j; omega⟩
section
variable {X : Cx} {σ : L2.St} {H : Hp} {iter : Expr} {α : Type} {xs : List α} {enc : α → D0}
theorem src_Tm (hi : Ev X iter σ H (.tuple (xs.map enc))) : Src (iTup X.K (EW X iter)) σ H xs.length fun i x H' => ∃ d, (xs.map enc)[i]? = some d ∧ Dp X.K H' x d := by
  have := src_T hi
  rw [List.length_map] at this
  exact this
theorem src_Lm (hi : Ev X iter σ H (.list (xs.map enc))) : Src (iList X.K (EW X iter)) σ H xs.length fun i x H' => ∃ d, (xs.map enc)[i]? = some d ∧ Dp X.K H' x d := by
  have := src_L hi
  rw [List.length_map] at this
  exact this
end
section
variable {P : Program} {w : World} {K : PySem.W.Frag} {mg : Str → Option Value} {base : Heap}
def rNear (ds : List D0) (es : List D0) : Prop := ∃ (ts : List Tie) (i : Nat), ds = [tiesD ts, pn i] ∧ ts.length < 64 ∧ es = (near ts i).map pn
theorem cal_near_of (C : Ctx K mg) : C8.Cal P w K mg base 1 "near_of" (spL K rNear) [] := by
  refine cal_of (k := 0) C.h_near_of c_near_of (spL_len fun ds d ⟨_, _, h, _⟩ => by rw [h]; rfl) fun cdv A outer s H vs Q E hr ⟨ds, d, r, ⟨ts, i, e1, hl, e2⟩, q⟩ => ?_
  subst e1; subst e2
  obtain ⟨v1, v2, rfl, r1, r2⟩ := dpa2 r
  have nd := c_near_of.nd
  rw [dp_int r2] at *
  refine b_ret (EvL.go (ds := (near ts i).map pn) (evl_sortedL C.m_sorted (EvL.ev (EvL.to (evl_lc (lcv_two (xs := ts) (enc := fun t => pn t.1) (enc2 := fun t => pn t.2) (f := fun t => pn (t.1 + t.2 - i)) (c := fun t => decide (i ∈ [t.1, t.2])) (β := Nat) [("one", 2), ("other", 3)] 2 3 rfl nd (pi_tup pe_ew) (src_Tm (ev_v 0 rfl r1)) (blkOk_by (N := n_near_of) (sc := defScope s_near_of) (by decide +kernel)) (fun _ _ _ _ _ => g_two 2 3 rfl nd) pts_blk (by omega) (fun _ _ _ => rfl) (fun a ha v u H5 k5 q1 q2 Q q s' H0 C' cl fp => ?_) (fun a ha v u H5 k5 q1 q2 hc => ?_))) (by rw [List.map_map]; rfl))) ?_) fun q' H' n k l => q q' H' n k l)
  · exact Tv.go (tv_inT (ns := [a.1, a.2]) (ev_v 1 rfl (.int _)) (ev_tup (eva2 (ev_v 2 rfl q1) (ev_v 3 rfl q2)))) q
  · intro s' H0 C' cl fp
    refine Ev.to (ev_sub (ev_add (ev_v 2 rfl q1) (ev_v 3 rfl q2)) (ev_v 1 rfl (.int _))) ?_
    have : i ∈ [a.1, a.2] := of_decide_eq_true hc
    simp only [List.mem_cons, List.not_mem_nil, or_false] at this
    congr 1
    omega
  · rw [List.length_map]
    exact Nat.lt_of_le_of_lt (List.length_filter_le _ _) hl
/-! ### bag_of -/
def bagOf (bags : List (List Nat)) (names : List Nat) : Nat := (bags.map fun b => names.all fun n => decide (n ∈ b)).idxOf true
def bagsD (bags : List (List Nat)) : D0 := .tuple (bags.map pns)
abbrev TreeD := List (List Nat) × List Tie
def treeD (t : TreeD) : D0 := .tuple [bagsD t.1, tiesD t.2]
def rBagOf (ds : List D0) (d : D0) : Prop := ∃ (t : TreeD) (ns : List Nat), ds = [treeD t, pns ns] ∧ t.1.length ≤ 1000 ∧ ns.length ≤ 1000 ∧ (∃ b ∈ t.1, ∀ n ∈ ns, n ∈ b) ∧ d = pn (bagOf t.1 ns)
theorem cal_bag_of (C : Ctx K mg) : C8.Cal P w K mg base 1 "bag_of" (spP K rBagOf) [] := by
  refine cal_of (k := 0) C.h_bag_of c_bag_of (spP_len fun ds d ⟨_, _, h, _⟩ => by rw [h]; rfl) fun cdv A outer s H vs Q E hr ⟨ds, d, r, ⟨t, ns, e1, hl, hl2, hb, e2⟩, q⟩ => ?_
  subst e1; subst e2
  obtain ⟨v1, v2, rfl, r1, r2⟩ := dpa2 r
  have nd := c_bag_of.nd
  refine b_retv (ev_ixTrue (bs := t.1.map fun b => ns.all fun n => decide (n ∈ b)) (Ev.to (EvL.ev (evl_lc (lcv_T (xs := t.1) (enc := pns) (f := fun b => .bool (ns.all fun n => decide (n ∈ b))) [("bag", 2)] 2 rfl nd (ev_ixT (ev_v 0 rfl r1) ev_int (at_nat (n := 0) rfl)) (blkOk_by (N := n_bag_of) (sc := defScope s_bag_of) (by decide +kernel)) (by omega) (fun _ _ => rfl) fun a ha v H5 k5 r5 => ?_))) (by rw [bools_map])) ?_ ev_bl) q
  · intro s' H0 C' cl fp
    refine ev_allM rfl C.m_all (EvL.ev (evl_lc (lcv_T (xs := ns) (enc := pn) (f := fun n => .bool (decide (n ∈ a))) [("name", 3)] 3 rfl nd (ev_v 1 rfl (dp_mono k5 r2)) (by
      show BlkOk n_bag_of { kind := .function, names := [(".0", .local), ("bag", .cell), ("all", .globalImplicit), ("names", .cell)], isGenerator := false, isCoroutine := false } _ _
      exact blkOk_by (by decide +kernel)) (by omega) (fun _ _ => rfl) fun b hb v2 H6 k6 r6 => ?_)))
    intro s'2 H02 C'2 cl2 fp2
    exact ev_inT (ev_v 3 rfl r6) (ev_v 2 rfl (dp_mono k6 r5))
  · obtain ⟨b, hb1, hb2⟩ := hb
    exact List.mem_map.mpr ⟨b, hb1, List.all_eq_true.mpr fun n hn => decide_eq_true (hb2 n hn)⟩
end
end SO
set_option Elab.async false
set_option linter.all false
set_option maxRecDepth 100000
set_option maxHeartbeats 4000000
/-! So24: side_of, hanging. -/
namespace SO
open PySem PySem.Spec PyProof.Rows L2
def nearsD (nr : List (List Nat)) : D0 := .list (nr.map fun l => .list (l.map pn))
def bnew (nr : List (List Nat)) (i j : Nat) (found : List Nat) (a : Nat) : List Nat := (nr.getD (found.getD a 0) []).filter fun b => !decide (b ∈ found) && !(decide (found.getD a 0 = i) && decide (b = j))
def sideF (nr : List (List Nat)) (i j : Nat) : Nat → List Nat → Nat → List Nat
  | 0, found, _ => found
  | f + 1, found, a => if a < found.length then sideF nr i j f (found ++ bnew nr i j found a) (a + 1) else found
def sideOf (nr : List (List Nat)) (i j : Nat) : List Nat := sideF nr i j nr.length [i] 0
structure NrOk (nr : List (List Nat)) : Prop where
  len : nr.length ≤ 12
  nm : ∀ l ∈ nr, Nm nr.length l
theorem sideF_stop {nr : List (List Nat)} {i j : Nat} : ∀ {f a : Nat} {found : List Nat}, found.length ≤ a → sideF nr i j f found a = found
  | 0, _, _, _ => rfl
  | f + 1, a, found, h => by
    unfold sideF
    rw [if_neg (by omega)]
theorem bnew_nm {nr : List (List Nat)} {i j a : Nat} {found : List Nat} (h : NrOk nr) (hf : Nm nr.length found) : Nm nr.length (found ++ bnew nr i j found a) := by
  have hl : Nm nr.length (nr.getD (found.getD a 0) []) := by
    by_cases e : found.getD a 0 < nr.length
    · have e2 : nr.getD (found.getD a 0) [] = nr[found.getD a 0] := by rw [List.getD_eq_getElem?_getD, List.getElem?_eq_getElem e]; rfl
      rw [e2]
      exact h.nm _ (List.getElem_mem e)
    · have e2 : nr.getD (found.getD a 0) [] = [] := by rw [List.getD_eq_getElem?_getD, List.getElem?_eq_none (by omega)]; rfl
      rw [e2]
      exact ⟨List.nodup_nil, fun n h => by cases h⟩
  refine ⟨?_, fun n hn => ?_⟩
  · rw [List.nodup_append]
    refine ⟨hf.nd, hl.nd.sublist List.filter_sublist, fun x hx y hy e => ?_⟩
    subst e
    have := (List.mem_filter.mp hy).2
    simp at this
    exact this.1 hx
  · rcases List.mem_append.mp hn with h' | h'
    · exact hf.lt n h'
    · exact hl.lt n (List.mem_filter.mp h').1
theorem sideF_nm {nr : List (List Nat)} {i j : Nat} (h : NrOk nr) : ∀ {f a : Nat} {found : List Nat}, Nm nr.length found → Nm nr.length (sideF nr i j f found a)
  | 0, _, _, hf => hf
  | f + 1, a, found, hf => by
    unfold sideF
    by_cases e : a < found.length
    · rw [if_pos e]; exact sideF_nm h (bnew_nm h hf)
    · rw [if_neg e]; exact hf
theorem sideOf_nm {nr : List (List Nat)} {i j : Nat} (h : NrOk nr) (hi : i < nr.length) : Nm nr.length (sideOf nr i j) := sideF_nm h ⟨by simp, by simpa using hi⟩
theorem pns_tup {ns : List Nat} : tupOnlyL (ns.map pn) = true := by rw [map_pn]; exact tup_ints
theorem eqv_ints {a b i j : Nat} : PyData.eqv (.tuple [pn a, pn b]) (.tuple [pn i, pn j]) = (decide (a = i) && decide (b = j)) := by
  simp only [PyData.eqv, PyData.eqvAll]
  by_cases h1 : a = i <;> by_cases h2 : b = j <;> simp [h1, h2] <;> omega
theorem getD_len {ns : List Nat} {a : Nat} (h : a < ns.length) : ns[a]? = some (ns.getD a 0) := getD_at h
section
variable {P : Program} {w : World} {K : PySem.W.Frag} {mg : Str → Option Value} {base : Heap}
def rSide (ds : List D0) (es : List D0) : Prop := ∃ (nr : List (List Nat)) (i j : Nat), ds = [nearsD nr, pn i, pn j] ∧ NrOk nr ∧ i < nr.length ∧ es = (sideOf nr i j).map pn
theorem cal_side_of (C : Ctx K mg) : C8.Cal P w K mg base 1 "side_of" (spL K rSide) [] := by
  refine cal_of (k := 0) C.h_side_of c_side_of (spL_len fun ds d ⟨_, _, _, h, _⟩ => by rw [h]; rfl) fun cdv A outer s H vs Q E hr ⟨ds, d, r, ⟨nr, i, j, e1, hn, hi, e2⟩, q⟩ => ?_
  subst e1; subst e2
  obtain ⟨v1, v2, v3, rfl, r1, r2, r3⟩ := dpa3 r
  have nd := c_side_of.nd
  have hnl := hn.len
  rw [dp_int r2, dp_int r3] at *
  refine b_setl 3 nd (evl_lst (eva1 (ev_v 1 rfl (.int _)))) fun qf H1 n1 k1 l1 => ?_
  refine b_setv 4 nd ev_int fun v4 H2 k2 r4 => ?_
  rw [dp_int r4]
  refine b_while ⟨fun m σ' H' => ∃ found a o, m = nr.length - a ∧ σ' = [some v1, some (.int i), some (.int j), some (.ref qf), some (.int (a : Nat)), o] ∧ Same H H' ∧ Ls K H' qf (found.map pn) ∧ Nm nr.length found ∧ sideF nr i j (nr.length - a) found a = sideOf nr i j, ⟨nr.length, [i], 0, none, by simp, rfl, k1.trans k2, (show Ls K H2 qf ([i].map pn) from ls_mono l1 k2), ⟨by simp, by simpa using hi⟩, rfl⟩, ?_⟩
  rintro m σ' H' ⟨found, a, o, rfl, rfl, k, l, hf, e⟩
  have few := hf.few
  refine Tv.go (tv_lt (ev_v 4 rfl (.int _)) ((ev_lenL C.m_len (ev_v 3 rfl l.dp)).to (by rw [List.length_map]))) fun H3 k3 => ?_
  by_cases hlt : a < found.length
  · rw [decide_eq_true (by omega), if_pos rfl]
    have hma : found.getD a 0 < nr.length := hf.lt _ (List.mem_of_getElem? (getD_len hlt))
    have hmem : nr.getD (found.getD a 0) [] ∈ nr := by
      rw [List.getD_eq_getElem?_getD, List.getElem?_eq_getElem hma]
      exact List.getElem_mem hma
    have hrow := (hn.nm _ hmem).few
    refine ⟨_, fun σ2 H2 h => h, ?_⟩
    refine b_extend 3 rfl (ls_mono l k3) (evl_lc (lcv_Lif (xs := nr.getD (found.getD a 0) []) (enc := pn) (f := pn) (c := fun b => !decide (b ∈ found) && !(decide (found.getD a 0 = i) && decide (b = j))) [("bag", 5)] 5 rfl nd (ev_ixL (ev_v 0 rfl (dp_mono (k.trans k3) r1)) (ev_ixL (ev_v 3 rfl (ls_mono l k3).dp) (ev_v 4 rfl (.int _)) (at_map (getD_len hlt))) (at_map (g := fun l : List Nat => PyData.list (l.map pn)) (x := nr.getD (found.getD a 0) []) ?_)) (blkOk_by (N := n_side_of) (sc := defScope s_side_of) (by decide +kernel)) (by omega) (fun _ _ => rfl) (fun b hb v H5 k5 r5 => ?_) fun b hb v H5 k5 r5 _ => ?_)) pns_tup pns_tup ?_ fun H6 k6 l6 => ?_
    · rw [List.getD_eq_getElem?_getD (l := nr), List.getElem?_eq_getElem hma]; rfl
    · intro s' H0 C' cl fp
      rw [dp_int r5]
      exact tv_wv (wv_and (tv_notInL (ev_v 5 rfl (.int _)) (ev_v 3 rfl (ls_mono l (k3.trans k5)).dp)) fun _ => wv_and1 (Tv.to (tv_neD (n := 1) hr (ev_tup (eva2 (ev_ixL (ev_v 3 rfl (ls_mono l (k3.trans k5)).dp) (ev_v 4 rfl (.int _)) (at_map (getD_len hlt))) (ev_v 5 rfl (.int _)))) (ev_tup (eva2 (ev_v 1 rfl (.int _)) (ev_v 2 rfl (.int _)))) (fl_nats (ns := [_, _])) (fl_nats (ns := [_, _]))) (by rw [eqv_ints])))
    · intro s' H0 C' cl fp
      exact ev_v 5 rfl r5
    · have := List.length_filter_le (fun b => !decide (b ∈ found) && !(decide (found.getD a 0 = i) && decide (b = j))) (nr.getD (found.getD a 0) [])
      rw [List.length_map, List.length_map]
      omega
    · refine b_setv 4 nd (ev_add (ev_v 4 rfl (.int _)) ev_int) fun v7 H7 k7 r7 => bw_nil ⟨nr.length - (a + 1), by omega, found ++ bnew nr i j found a, a + 1, o, rfl, ?_, ((k6.same (k.trans k3) n1).trans k7), ?_, bnew_nm hn hf, ?_⟩
      · rw [dp_int r7]; rfl
      · rw [List.map_append]; exact ls_mono l6 k7
      · rw [← e, show nr.length - a = (nr.length - (a + 1)) + 1 by omega]
        conv => rhs; unfold sideF
        rw [if_pos hlt]
  · rw [decide_eq_false (by omega), if_neg (by decide)]
    refine b_ret (ew_v 3 rfl ?_)
    rw [sideF_stop (by omega)] at e
    rw [← e] at q
    exact q qf H3 n1 (k.trans k3) (ls_mono l k3)
end
end SO
set_option Elab.async false
set_option linter.all false
set_option maxRecDepth 100000
set_option maxHeartbeats 4000000
/-! So25: list(range(n)), a <= b < c < d; hanging, are_bags, is_tie. -/
namespace SO
open PySem PySem.Spec PyProof.Rows L2
section
variable {X : Cx} {a b c e f : Expr} {σ : L2.St} {H : Hp} {pos p p2 pos2 : Pos}
theorem evl_listR {n : Nat} (hc : X.calm = true) (hm : X.mg "list" = none) (hm2 : X.mg "range" = none) (h : Ev X e σ H (pn n)) (hn : n ≤ 100000) (hg : Gl X "list" := by rfl) (hg2 : Gl X "range" := by rfl) (he : starEach [e] X.env = (false, eval e X.env) :: starEach [] X.env := by rfl)
    (he2 : starEach [.Call (.Name "range" p2) [e] [] pos2] X.env = (false, eval (.Call (.Name "range" p2) [e] [] pos2) X.env) :: starEach [] X.env := by rfl) :
    EvL X (.Call (.Name "list" p) [.Call (.Name "range" p2) [e] [] pos2] [] pos) σ H ((List.range n).map pn) := fun H1 k =>
  ew_pe (pe_listRg hc hg hm (prg_1 hg2 hm2 pe_ew he) he2) (show EW X e σ H1 _ from (h H1 k).mono fun v H2 ⟨k2, r⟩ => by
    rw [dp_int r]
    refine ⟨n, rfl, RgOk.of_le (by omega) (by omega) (by omega) (by omega), fun q hq => ⟨k2.trans (same_new hq), q, rfl, none_back k2 hq, _, upd_same, ?_⟩⟩
    have e1 : rgV 0 (n : Int) = ((List.range n).map fun i : Nat => (i : Int)).map V.int := by
      unfold rgV
      rw [List.map_map]
      have : ((n : Int) - 0).toNat = n := by omega
      rw [this]
      apply List.map_congr_left
      intro i _
      simp
    have e2 : (List.range n).map pn = ((List.range n).map fun i : Nat => (i : Int)).map PyData.int := by rw [List.map_map]; rfl
    rw [e1, e2]
    exact dpa_of_ints)
/-- a < b < c < d -/
theorem ew_chain3 {op op' op'' : CmpOp} {r r' r'' : R2} {Q : VK} (ho : OpR X (compareOp op) r) (ho' : OpR X (compareOp op') r') (ho'' : OpR X (compareOp op'') r'')
    (h : EW X a σ H fun x H1 => EW X b σ H1 fun y H2 => r x y H2 fun z H3 => ∃ k, z = .bl k ∧ (if k = true then EW X c σ H3 fun u H4 => r' y u H4 fun z' H5 => ∃ k', z' = .bl k' ∧ (if k' = true then EW X f σ H5 fun t H6 => r'' u t H6 Q else Q (.bl false) H5) else Q (.bl false) H3))
    (hm : lastMarks [op, op', op''] [b, c, f] = false := by rfl) : EW X (.Compare a [op, op', op''] [b, c, f] pos) σ H Q := fun pins s I => by
  refine Compare_chain (thn (h pins s I) fun v s1 ⟨x, H1, I1, r1, q1⟩ => chain_link (thn (q1 pins s1 I1) fun u s2 ⟨y, H2, I2, r2, q2⟩ =>
    thn (ho pins s2 σ H2 x y v u _ I2 r1 r2 q2) fun d s3 ⟨z, H3, I3, r3, k, e, q3⟩ => ?_)) hm
  subst e
  cases r3
  refine wpAny_truthy_bool ?_
  cases k with
  | false => exact ite_ff ⟨.bl false, H3, I3, rfl, q3⟩
  | true =>
    refine ite_tt (chain_link (thn (q3 pins s3 I3) fun w' s4 ⟨z', H4, I4, r4, q4⟩ => thn (ho' pins s4 σ H4 y z' u w' _ I4 r2 r4 q4) fun d' s5 ⟨z2, H5, I5, r5, k', e', q5⟩ => ?_))
    subst e'
    cases r5
    refine wpAny_truthy_bool ?_
    cases k' with
    | false => exact ite_ff ⟨.bl false, H5, I5, rfl, q5⟩
    | true => exact ite_tt (chain_last (thn (q5 pins s5 I5) fun w2 s6 ⟨z3, H6, I6, r6, q6⟩ => ho'' pins s6 σ H6 z' z3 w' w2 Q I6 r4 r6 q6))
theorem ev_chain3 {i j k l : Int} (ha : Ev X a σ H (.int i)) (hb : Ev X b σ H (.int j)) (hc : Ev X c σ H (.int k)) (hf : Ev X f σ H (.int l)) (h1 : i ≤ j) (h2 : j < k) (h3 : k < l) (hm : lastMarks [.LtE, .Lt, .Lt] [b, c, f] = false := by rfl) :
    Ev X (.Compare a [.LtE, .Lt, .Lt] [b, c, f] pos) σ H (.bool true) := fun H1 k1 =>
  ew_chain3 op_le op_lt op_lt ((ha H1 k1).mono fun x H2 ⟨k2, r2⟩ => (hb H2 (k1.trans k2)).mono fun y H3 ⟨k3, r3⟩ => ⟨i, j, dp_int r2, dp_int r3, decide (i ≤ j), rfl, by
    rw [decide_eq_true h1]
    refine iteT ((hc H3 ((k1.trans k2).trans k3)).mono fun z H4 ⟨k4, r4⟩ => ⟨j, k, dp_int r3, dp_int r4, decide (j < k), rfl, ?_⟩)
    rw [decide_eq_true h2]
    refine iteT ((hf H4 (((k1.trans k2).trans k3).trans k4)).mono fun t H5 ⟨k5, r5⟩ => ⟨k, l, dp_int r4, dp_int r5, ((k2.trans k3).trans k4).trans k5, ?_⟩)
    show Dp X.K H5 (V.bl (decide (k < l))) _
    rw [decide_eq_true h3]
    exact .bl true⟩) hm
end
/-! ### hanging -/
def hnew (ts : List Tie) (sm seen : List Nat) (a : Nat) : List Nat := (near ts (seen.getD a 0)).filter fun o => decide (o ∈ sm) && !decide (o ∈ seen)
def hangF (ts : List Tie) (sm : List Nat) : Nat → List Nat → Nat → List Nat
  | 0, seen, _ => seen
  | f + 1, seen, a => if a < seen.length then hangF ts sm f (seen ++ hnew ts sm seen a) (a + 1) else seen
def hangs (ts : List Tie) (sm : List Nat) : Bool := sm.isEmpty || decide ((hangF ts sm sm.length [sm.getD 0 0] 0).length = sm.length)
theorem hangF_stop {ts : List Tie} {sm : List Nat} : ∀ {f a : Nat} {seen : List Nat}, seen.length ≤ a → hangF ts sm f seen a = seen
  | 0, _, _, _ => rfl
  | f + 1, a, seen, h => by
    unfold hangF
    rw [if_neg (by omega)]
structure Sub (sm seen : List Nat) : Prop where
  nd : seen.Nodup
  sub : ∀ n ∈ seen, n ∈ sm
theorem sub_len : ∀ {seen sm : List Nat}, Sub sm seen → seen.length ≤ sm.length
  | [], sm, _ => Nat.zero_le _
  | x :: seen, sm, h => by
    have hx := h.sub x List.mem_cons_self
    have h1 := List.perm_cons_erase hx
    have h2 : Sub (sm.erase x) seen := ⟨(List.nodup_cons.mp h.nd).2, fun n hn => by
      have h3 := h.sub n (List.mem_cons_of_mem _ hn)
      have h4 : n ≠ x := fun z => (List.nodup_cons.mp h.nd).1 (z ▸ hn)
      exact (List.mem_erase_of_ne h4).mpr h3⟩
    have h3 := sub_len h2
    have h4 := h1.length_eq
    rw [List.length_cons] at h4 ⊢
    omega
theorem hnew_sub {ts : List Tie} {sm seen : List Nat} {a : Nat} (hn : ∀ i, (near ts i).Nodup) (h : Sub sm seen) : Sub sm (seen ++ hnew ts sm seen a) := by
  refine ⟨?_, fun n hn' => ?_⟩
  · rw [List.nodup_append]
    refine ⟨h.nd, (hn _).sublist List.filter_sublist, fun x hx y hy e => ?_⟩
    subst e
    have := (List.mem_filter.mp hy).2
    simp at this
    exact this.2 hx
  · rcases List.mem_append.mp hn' with h' | h'
    · exact h.sub n h'
    · have := (List.mem_filter.mp h').2
      simp at this
      exact this.1
section
variable {P : Program} {w : World} {K : PySem.W.Frag} {mg : Str → Option Value} {base : Heap}
def rHang (ds : List D0) (d : D0) : Prop := ∃ (ts : List Tie) (sm : List Nat), ds = [tiesD ts, .list (sm.map pn)] ∧ ts.length < 64 ∧ sm.length ≤ 1000 ∧ (∀ i, (near ts i).Nodup) ∧ d = .bool (hangs ts sm)
theorem fl_natl {n : Nat} {ns : List Nat} : Fl (n + 1) (.list (ns.map pn)) := fl_lst fun d hd => by
  obtain ⟨i, _, rfl⟩ := List.mem_map.mp hd
  exact fl_int
theorem cal_hanging (C : Ctx K mg) : C8.Cal P w K mg base 2 "hanging" (spP K rHang) [] := by
  refine cal_of (k := 1) C.h_hanging c_hanging (spP_len fun ds d ⟨_, _, h, _⟩ => by rw [h]; rfl) fun cdv A outer s H vs Q E hr ⟨ds, d, r, ⟨ts, sm, e1, hl, hsl, hn, e2⟩, q⟩ => ?_
  subst e1; subst e2
  obtain ⟨v1, v2, rfl, r1, r2⟩ := dpa2 r
  have nd := c_hanging.nd
  refine b_when (b := sm.isEmpty) (Tv.to (tv_eqD (n := 1) hr (ev_v 1 rfl r2) (EvL.ev (evl_lst eva_nil)) fl_natl (fl_lst fun d hd => by cases hd)) (by rw [eqv_nil, List.isEmpty_map])) (fun hb H1 k1 => ?_) fun hb H1 k1 => ?_
  · exact b_retv ev_bl fun v H2 k2 r => q v H2 (k1.trans k2) (by unfold hangs; rw [hb]; exact r)
  · have hpos : 0 < sm.length := by
      cases sm with
      | nil => cases hb
      | cons x xs => exact Nat.succ_pos _
    refine b_setl 2 nd (evl_lst (eva1 (ev_ixL (ev_v 1 rfl (dp_mono k1 r2)) ev_int (at_map (n := 0) (x := sm.getD 0 0) (getD_len hpos))))) fun q1 H2 n2 k2 l2 => ?_
    refine b_setv 3 nd ev_int fun v4 H3 k3 r4 => ?_
    rw [dp_int r4]
    refine b_while ⟨fun m σ' H' => ∃ seen a o qs, m = sm.length - a ∧ σ' = [some v1, some v2, some (.ref qs), some (.int (a : Nat)), o] ∧ Same H H' ∧ Ls K H' qs (seen.map pn) ∧ Sub sm seen ∧ hangF ts sm (sm.length - a) seen a = hangF ts sm sm.length [sm.getD 0 0] 0, ⟨sm.length, [sm.getD 0 0], 0, none, q1, by simp, rfl, (k1.trans k2).trans k3, (show Ls K H3 q1 ([sm.getD 0 0].map pn) from ls_mono l2 k3), ⟨by simp, fun n hn => ?_⟩, rfl⟩, ?_⟩
    · rw [List.mem_singleton.mp hn]
      exact List.mem_of_getElem? (getD_len hpos)
    rintro m σ' H' ⟨seen, a, o, qs, rfl, rfl, k, l, hf, e⟩
    have few := sub_len hf
    refine Tv.go (tv_lt (ev_v 3 rfl (.int _)) ((ev_lenL C.m_len (ev_v 2 rfl l.dp)).to (by rw [List.length_map]))) fun H4 k4 => ?_
    by_cases hlt : a < seen.length
    · rw [decide_eq_true (by omega), if_pos rfl]
      refine ⟨_, fun σ2 H2 h => h, ?_⟩
      have nl := near_len ts (seen.getD a 0)
      refine b_setl (ds := (seen ++ hnew ts sm seen a).map pn) 2 nd (EvL.to (evl_catV 2 rfl (ls_mono l k4) (evl_lc (lcv_Lif (xs := near ts (seen.getD a 0)) (enc := pn) (f := pn) (c := fun o => decide (o ∈ sm) && !decide (o ∈ seen)) [("other", 4)] 4 rfl nd (EvL.ev (evl_call (cal_near_of C) hr (by decide) (eva2 (ev_v 0 rfl (dp_mono (k.trans k4) r1)) (ev_ixL (ev_v 2 rfl (ls_mono l k4).dp) (ev_v 3 rfl (.int _)) (at_map (getD_len hlt)))) ⟨ts, seen.getD a 0, rfl, hl, rfl⟩)) (blkOk_by (N := n_hanging) (sc := defScope s_hanging) (by decide +kernel)) (by omega) (fun _ _ => rfl) (fun b hb v H5 k5 r5 => ?_) fun b hb v H5 k5 r5 _ => ?_)) ?_) (by rw [List.map_append]; rfl)) fun q6 H6 n6 k6 l6 => ?_
      · intro s' H0 C' cl fp
        rw [dp_int r5]
        exact tv_wv (wv_and (tv_inL (ev_v 4 rfl (.int _)) (ev_v 1 rfl (dp_mono ((k.trans k4).trans k5) r2))) fun _ => wv_and1 (tv_notInL (ev_v 4 rfl (.int _)) (ev_v 2 rfl (ls_mono l (k4.trans k5)).dp)))
      · intro s' H0 C' cl fp
        exact ev_v 4 rfl r5
      · have := List.length_filter_le (fun o => decide (o ∈ sm) && !decide (o ∈ seen)) (near ts (seen.getD a 0))
        rw [List.length_map, List.length_map]
        omega
      · refine b_setv 3 nd (ev_add (ev_v 3 rfl (.int _)) ev_int) fun v7 H7 k7 r7 => bw_nil ⟨sm.length - (a + 1), by omega, seen ++ hnew ts sm seen a, a + 1, o, q6, rfl, ?_, ((k.trans k4).trans k6).trans k7, ls_mono l6 k7, hnew_sub hn hf, ?_⟩
        · rw [dp_int r7]; rfl
        · rw [← e, show sm.length - a = (sm.length - (a + 1)) + 1 by omega]
          conv => rhs; unfold hangF
          rw [if_pos hlt]
    · rw [decide_eq_false (by omega), if_neg (by decide)]
      refine b_retv (ev_eqI ((ev_lenL C.m_len (ev_v 2 rfl (ls_mono l k4).dp)).to (by rw [List.length_map])) ((ev_lenL C.m_len (ev_v 1 rfl (dp_mono (k.trans k4) r2))).to (by rw [List.length_map]))) fun v8 H8 k8 r8 => q v8 H8 ((k.trans k4).trans k8) ?_
      unfold hangs
      rw [hb, ← e, hangF_stop (by omega), Bool.false_or]
      have : decide (((seen.length : Nat) : Int) = ((sm.length : Nat) : Int)) = decide (seen.length = sm.length) := by
        by_cases h : seen.length = sm.length <;> simp [h] <;> omega
      rw [this] at r8
      exact r8
def rAreBags (ds : List D0) (d : D0) : Prop := ∃ (many : Nat) (bags : List (List Nat)), ds = [pn many, bagsD bags] ∧ 1 ≤ bags.length ∧ bags.length ≤ 12 ∧ (∀ b ∈ bags, Rise many b) ∧ many ≤ 1000 ∧ d = .bool true
theorem cal_are_bags (C : Ctx K mg) : C8.Cal P w K mg base 3 "are_bags" (spP K rAreBags) [] := by
  refine cal_of (k := 2) C.h_are_bags c_are_bags (spP_len fun ds d ⟨_, _, h, _⟩ => by rw [h]; rfl) fun cdv A outer s H vs Q E hr ⟨ds, d, r, ⟨many, bags, e1, hl1, hl2, hb, hm, e2⟩, q⟩ => ?_
  subst e1; subst e2
  obtain ⟨v1, v2, rfl, r1, r2⟩ := dpa2 r
  obtain ⟨tk, hmb⟩ := C.m_MOST_BAGS
  have nd := c_are_bags.nd
  refine b_skip (b := false || !(decide ((1 : Int) ≤ (bags.length : Nat)) && decide (((bags.length : Nat) : Int) ≤ 12))) (tv_wv (wv_or (tv_not (tv_ev (ev_isiT (T := "tuple") (v0 := true) C.m_isinstance C.m_tuple (by decide +kernel) (by decide +kernel) (ev_v 1 rfl r2)))) fun _ => wv_or1 (tv_not (tv_chain op_le op_le ev_int ((ev_lenT C.m_len (ev_v 1 rfl r2)).to (by rw [List.length_map])) (ev_glob hmb (v := .int 12) ⟨tk, rfl⟩ (.int _)))))) (by simp; omega) fun H1 k1 => ?_
  refine b_retv (d := .bool true) ((ev_allM rfl C.m_all (EvL.ev (evl_lc (lcv_T (xs := bags) (enc := pns) (f := fun _ => .bool true) [("bag", 2)] 2 rfl nd (ev_v 1 rfl (dp_mono k1 r2)) (blkOk_by (N := n_are_bags) (sc := defScope s_are_bags) (by decide +kernel)) (by omega) (fun _ _ => rfl) fun a ha v H5 k5 r5 => ?_)))).to (by simp)) fun v H2 k2 r3 => q v H2 (k1.trans k2) r3
  intro s' H0 C' cl fp
  exact ev_call (cal_are_names C) hr (by decide) (eva2 (ev_v 0 rfl (dp_mono (k1.trans k5) r1)) (ev_v 2 rfl r5)) ⟨many, a, rfl, hb a ha, hm, rfl⟩
def rIsTie (ds : List D0) (d : D0) : Prop := ∃ (many : Nat) (t : Tie), ds = [pn many, tieD t] ∧ t.1 < t.2 ∧ t.2 < many ∧ d = .bool true
theorem cal_is_tie (C : Ctx K mg) : C8.Cal P w K mg base 2 "is_tie" (spP K rIsTie) [] := by
  refine cal_of (k := 1) C.h_is_tie c_is_tie (spP_len fun ds d ⟨_, _, h, _⟩ => by rw [h]; rfl) fun cdv A outer s H vs Q E hr ⟨ds, d, r, ⟨many, t, e1, h1, h2, e2⟩, q⟩ => ?_
  subst e1; subst e2
  obtain ⟨v1, v2, rfl, r1, r2⟩ := dpa2 r
  refine b_skip (b := false || (false || (false || !true))) (tv_wv (wv_or (tv_not (tv_ev (ev_isiT (T := "tuple") (v0 := true) C.m_isinstance C.m_tuple (by decide +kernel) (by decide +kernel) (ev_v 1 rfl r2)))) fun _ => wv_or (Tv.to (tv_neI (ev_lenT C.m_len (ev_v 1 rfl r2)) ev_int) rfl) fun _ => wv_or (Tv.to (tv_not (tv_ev (ev_call (cal_is_whole C) hr (by decide) (eva1 (ev_ixT (ev_v 1 rfl r2) ev_int (at_nat (n := 0) rfl))) ⟨_, rfl, rfl⟩))) rfl) fun _ => wv_or1 (tv_not (tv_ev (ev_call (cal_is_whole C) hr (by decide) (eva1 (ev_ixT (ev_v 1 rfl r2) ev_int (at_nat (n := 1) rfl))) ⟨_, rfl, rfl⟩))))) rfl fun H1 k1 => ?_
  exact b_retv (ev_chain3 ev_int (ev_ixT (ev_v 1 rfl (dp_mono k1 r2)) ev_int (at_nat (n := 0) rfl)) (ev_ixT (ev_v 1 rfl (dp_mono k1 r2)) ev_int (at_nat (n := 1) rfl)) (ev_v 0 rfl (dp_mono k1 r1)) (by omega) (by omega) (by omega)) fun v H2 k2 r => q v H2 (k1.trans k2) r
end
end SO
set_option Elab.async false
set_option linter.all false
set_option maxRecDepth 100000
set_option maxHeartbeats 4000000
/-! So26: is_tree, is_bag_tree. -/
namespace SO
open PySem PySem.Spec PyProof.Rows L2
theorem room_lt {k : Nat} {A : Around} (hr : Room k A) : A.units < cLine := by have := hr.units; omega
def tieLt (a b : Tie) : Prop := a.1 < b.1 ∨ (a.1 = b.1 ∧ a.2 < b.2)
structure TiesOk (n : Nat) (ts : List Tie) : Prop where
  tie : ∀ t ∈ ts, t.1 < t.2 ∧ t.2 < n
  many : ts.length + 1 = n
  lt : ts.Pairwise tieLt
  nd : ∀ i, (near ts i).Nodup
  hang : hangs ts (List.range n) = true
structure BagTree (sz : List Nat) (ns : List (List Nat)) (t : TreeD) : Prop where
  ties : TiesOk t.1.length t.2
  len : t.1.length ≤ 12
  rise : ∀ b ∈ t.1, Rise sz.length b
  parts : ∀ n ∈ ns, ∃ b ∈ t.1, ∀ x ∈ n, x ∈ b
  names : ∀ x, x < sz.length → ((List.range t.1.length).filter fun i => decide (x ∈ t.1.getD i [])) ≠ [] ∧ hangs t.2 ((List.range t.1.length).filter fun i => decide (x ∈ t.1.getD i [])) = true
section
variable {P : Program} {w : World} {K : PySem.W.Frag} {mg : Str → Option Value} {base : Heap}
def rIsTree (ds : List D0) (d : D0) : Prop := ∃ (many : Nat) (bags : List (List Nat)) (ts : List Tie), ds = [pn many, bagsD bags, tiesD ts] ∧ bags.length ≤ 12 ∧ TiesOk bags.length ts ∧ d = .bool true
theorem getD_tie {ts : List Tie} {k : Nat} (h : k < ts.length) : ts[k]? = some (ts.getD k (0, 0)) := by
  rw [List.getD_eq_getElem?_getD, List.getElem?_eq_getElem h]; rfl
theorem cal_is_tree (C : Ctx K mg) : C8.Cal P w K mg base 3 "is_tree" (spP K rIsTree) [] := by
  refine cal_of (k := 2) C.h_is_tree c_is_tree (spP_len fun ds d ⟨_, _, _, h, _⟩ => by rw [h]; rfl) fun cdv A outer s H vs Q E hr ⟨ds, d, r, ⟨many, bags, ts, e1, hl, ht, e2⟩, q⟩ => ?_
  subst e1; subst e2
  obtain ⟨v1, v2, v3, rfl, r1, r2, r3⟩ := dpa3 r
  have nd := c_is_tree.nd
  have hm := ht.many
  refine b_skip (b := false || !(ts.all fun _ => true)) (tv_wv (wv_or (tv_not (tv_ev (ev_isiT (T := "tuple") (v0 := true) C.m_isinstance C.m_tuple (by decide +kernel) (by decide +kernel) (ev_v 2 rfl r3)))) fun _ => wv_or1 (tv_not (tv_ev (ev_allM rfl C.m_all (EvL.ev (evl_lc (lcv_T (xs := ts) (enc := tieD) (f := fun _ => .bool true) [("tie", 4)] 4 rfl nd (ev_v 2 rfl r3) (blkOk_by (N := n_is_tree) (sc := defScope s_is_tree) (by decide +kernel)) (by omega) (fun _ _ => rfl) fun a ha v H5 k5 r5 => ?_)))))))) (by simp) fun H1 k1 => ?_
  · intro s' H0 C' cl fp
    exact ev_call (cal_is_tie C) hr (by decide) (eva2 (Ev.to (ev_lenT C.m_len (ev_v 1 rfl (dp_mono k5 r2))) (by rw [List.length_map])) (ev_v 4 rfl r5)) ⟨bags.length, a, rfl, (ht.tie a ha).1, (ht.tie a ha).2, rfl⟩
  · refine b_skip (b := !decide (((ts.length : Nat) : Int) = ((bags.length : Nat) : Int) - 1) || ((List.range' 1 (ts.length - 1)).any fun k => false)) (tv_wv (wv_or (tv_neI ((ev_lenT C.m_len (ev_v 2 rfl (dp_mono k1 r3))).to (by rw [List.length_map])) (ev_sub ((ev_lenT C.m_len (ev_v 1 rfl (dp_mono k1 r2))).to (by rw [List.length_map])) ev_int)) fun _ => wv_or1 (tv_ev (ev_anyM rfl C.m_any (EvL.ev (evl_lc (lcv_R2 (n := 1) (m := ts.length) (fn := fun k => .bool false) [("k", 3)] 3 rfl nd C.m_range ev_int ((ev_lenT C.m_len (ev_v 2 rfl (dp_mono k1 r3))).to (by rw [List.length_map])) (blkOk_by (N := n_is_tree) (sc := defScope s_is_tree) (by decide +kernel)) (by decide) (by omega) (fun _ _ _ => rfl) fun a h1 h2 H5 k5 => ?_))))))) ?_ fun H2 k2 => ?_
    · intro s' H0 C' cl fp
      refine ev_cmp (op_geT (room_lt hr)) (ev_ixT (d := tieD (ts.getD (a - 1) (0, 0))) (ev_v 2 rfl (dp_mono (k1.trans k5) r3)) (ev_sub (ev_v 3 rfl (.int _)) ev_int) ?_) (ev_ixT (d := tieD (ts.getD a (0, 0))) (ev_v 2 rfl (dp_mono (k1.trans k5) r3)) (ev_v 3 rfl (.int _)) (at_map (getD_tie h2))) fun x y H6 k6 rx ry Q q => ?_
      · have e : (a : Int) - 1 = ((a - 1 : Nat) : Int) := by omega
        rw [e]
        exact at_map (getD_tie (by omega))
      · obtain ⟨p1, xs, rfl, g1, g2⟩ := dp_tup rx
        obtain ⟨p2, ys, rfl, g3, g4⟩ := dp_tup ry
        obtain ⟨x1, x2, rfl, u1, u2⟩ := dpa2 g2
        obtain ⟨y1, y2, rfl, w1, w2⟩ := dpa2 g4
        rw [dp_int u1, dp_int u2] at g1
        rw [dp_int w1, dp_int w2] at g3
        refine ⟨p1, p2, _, _, _, _, rfl, rfl, g1, g3, q _ _ (Same.refl _) ?_⟩
        have h3 := List.pairwise_iff_getElem.mp ht.lt (a - 1) a (by omega) h2 (by omega)
        have e1 : ts.getD (a - 1) (0, 0) = ts[a - 1] := by rw [List.getD_eq_getElem?_getD, List.getElem?_eq_getElem (by omega)]; rfl
        have e2 : ts.getD a (0, 0) = ts[a] := by rw [List.getD_eq_getElem?_getD, List.getElem?_eq_getElem h2]; rfl
        rw [← e1, ← e2] at h3
        generalize ts.getD (a - 1) (0, 0) = t1 at *
        generalize ts.getD a (0, 0) = t2 at *
        have : (if (t1.1 : Int) = (t2.1 : Int) then decide ((t2.2 : Int) ≤ (t1.2 : Int)) else decide ((t2.1 : Int) ≤ (t1.1 : Int))) = false := by
          rcases h3 with h3 | ⟨h3, h4⟩
          · rw [if_neg (by omega)]; simp; omega
          · rw [if_pos (by omega)]; simp; omega
        rw [this]
        exact .bl false
    · simp
      omega
    · refine b_retv (ev_call (cal_hanging C) hr (by decide) (eva2 (ev_v 2 rfl (dp_mono (k1.trans k2) r3)) (EvL.ev (evl_listR rfl C.m_list C.m_range ((ev_lenT C.m_len (ev_v 1 rfl (dp_mono (k1.trans k2) r2))).to (by rw [List.length_map])) (by omega)))) ⟨ts, List.range bags.length, rfl, by omega, by rw [List.length_range]; omega, ht.nd, rfl⟩) fun v H3 k3 r => q v H3 ((k1.trans k2).trans k3) ?_
      rw [ht.hang] at r
      exact r
def sheetD (sz : List Nat) (ps : List Part) : D0 := .tuple [pns sz, .tuple (ps.map pp)]
def rIsBagTree (ds : List D0) (d : D0) : Prop := ∃ (sz : List Nat) (ps : List Part) (t : TreeD), ds = [sheetD sz ps, treeD t] ∧ sz.length ≤ 12 ∧ ps.length ≤ 1000 ∧ (∀ p ∈ ps, p.1.length ≤ 100) ∧ BagTree sz (ps.map (·.1)) t ∧ d = .bool true
theorem cal_is_bag_tree (C : Ctx K mg) : C8.Cal P w K mg base 4 "is_bag_tree" (spP K rIsBagTree) [] := by
  refine cal_of (k := 3) C.h_is_bag_tree c_is_bag_tree (spP_len fun ds d ⟨_, _, _, h, _⟩ => by rw [h]; rfl) fun cdv A outer s H vs Q E hr ⟨ds, d, r, ⟨sz, ps, t, e1, hz, hps, hpl, ht, e2⟩, q⟩ => ?_
  subst e1; subst e2
  obtain ⟨v1, v2, rfl, r1, r2⟩ := dpa2 r
  have nd := c_is_bag_tree.nd
  have hm := ht.ties.many
  have tl := ht.len
  refine b_setv (d := pn sz.length) 2 nd ((ev_lenT C.m_len (ev_ixT (ev_v 0 rfl r1) ev_int (at_nat (n := 0) rfl))).to (by rw [List.length_map])) fun vm H1 k1 rm => ?_
  rw [dp_int rm]
  refine b_skip (b := false || (false || !true)) (tv_wv (wv_or (tv_not (tv_ev (ev_isiT (T := "tuple") (v0 := true) C.m_isinstance C.m_tuple (by decide +kernel) (by decide +kernel) (ev_v 1 rfl (dp_mono k1 r2))))) fun _ => wv_or (Tv.to (tv_neI (ev_lenT C.m_len (ev_v 1 rfl (dp_mono k1 r2))) ev_int) rfl) fun _ => wv_or1 (tv_not (tv_ev (ev_call (cal_are_bags C) hr (by decide) (eva2 (ev_v 2 rfl (.int _)) (ev_ixT (ev_v 1 rfl (dp_mono k1 r2)) ev_int (at_nat (n := 0) rfl))) ⟨sz.length, t.1, rfl, by omega, ht.len, ht.rise, by omega, rfl⟩))))) rfl fun H2 k2 => ?_
  have k12 := k1.trans k2
  refine b_asg (g_two 3 4 rfl nd) ((ev_v 1 rfl (dp_mono k12 r2)).go fun v H3 k3 rp => g2_go rp fun w1 w2 q1 q2 => ?_)
  have k13 := k12.trans k3
  refine b_skip (b := !true) (tv_not (tv_ev (ev_call (cal_is_tree C) hr (by decide) (eva3 (ev_v 2 rfl (.int _)) (ev_v 3 rfl q1) (ev_v 4 rfl q2)) ⟨sz.length, t.1, t.2, rfl, ht.len, ht.ties, rfl⟩))) rfl fun H4 k4 => ?_
  have k14 := k13.trans k4
  refine b_forT (g_name 5 nd) rfl (ev_ixT (ev_v 0 rfl (dp_mono k14 r1)) ev_int (at_nat (n := 1) rfl)) fun a xs H5 k5 ha hx => ⟨fun i σ' H' => ∃ o5, σ' = [some v1, some v2, some (.int (sz.length : Nat)), some w1, some w2, o5, none, none, none, none] ∧ Same H5 H', ⟨none, rfl, Same.refl _⟩, fun i σ' H' ⟨_, _, k⟩ => sqT_mono k ha, ?_, ?_⟩
  · rintro i d v' σ' H' hd hv rv ⟨o5, rfl, k6⟩
    rw [List.getElem?_map] at hd
    obtain ⟨p, hp, rfl⟩ := Option.map_eq_some_iff.mp hd
    have hmem := List.mem_of_getElem? hp
    obtain ⟨b0, hb1, hb2⟩ := ht.parts p.1 (List.mem_map.mpr ⟨p, hmem, rfl⟩)
    have hpl := hpl p hmem
    refine b_skip (b := !(t.1.any fun b => p.1.all fun n => decide (n ∈ b))) (tv_not (tv_ev (ev_anyM rfl C.m_any (EvL.ev (evl_lc (lcv_T (xs := t.1) (enc := pns) (f := fun b => .bool (p.1.all fun n => decide (n ∈ b))) [("bag", 9)] 9 rfl nd (ev_v 3 rfl (dp_mono ((k4.trans k5).trans k6) q1)) (blkOk_by (N := n_is_bag_tree) (sc := defScope s_is_bag_tree) (by decide +kernel)) (by omega) (fun _ _ => rfl) fun a ha v H7 k7 r7 => ?_)))))) ?_ fun H8 k8 => bw_nil ⟨some v', rfl, k6.trans k8⟩
    · intro s' H0 C' cl fp
      refine ev_allM rfl C.m_all (EvL.ev (evl_lc (lcv_T (xs := p.1) (enc := pn) (f := fun n => .bool (decide (n ∈ a))) [("name", 6)] 6 rfl nd (ev_ixT (ev_v 5 rfl (dp_mono (k6.trans k7) rv)) ev_int (at_nat (n := 0) rfl)) (blkOk_by (N := n_is_bag_tree) (sc := { kind := .function, names := [(".0", .local), ("bag", .cell), ("all", .globalImplicit), ("part", .cell)], isGenerator := false, isCoroutine := false }) (by decide +kernel)) (by omega) (fun _ _ => rfl) fun b hb v2 H8 k8 r8 => ?_)))
      intro s'2 H02 C'2 cl2 fp2
      exact ev_inT (ev_v 6 rfl r8) (ev_v 9 rfl (dp_mono k8 r7))
    · have : (t.1.any fun b => p.1.all fun n => decide (n ∈ b)) = true := List.any_eq_true.mpr ⟨b0, hb1, List.all_eq_true.mpr fun n hn => decide_eq_true (hb2 n hn)⟩
      rw [this]
      rfl
  · rintro σ' H' ⟨o5, rfl, k6⟩
    have k16 := (k14.trans k5).trans k6
    refine b_forRw (g_name 6 nd) rfl C.m_range (Ev.go (ev_v 2 rfl (.int _)) fun v H7 k7 r7 => ⟨sz.length, by rw [dp_int r7], by omega, fun i σ' H' => ∃ o6 o7, σ' = [some v1, some v2, some (.int (sz.length : Nat)), some w1, some w2, o5, o6, o7, none, none] ∧ Same H7 H', ⟨none, none, rfl, Same.refl _⟩, ?_, ?_⟩)
    · rintro x σ' H' hx ⟨o6, o7, rfl, k8⟩
      obtain ⟨hne, hhang⟩ := ht.names x hx
      have kk := (((k4.trans k5).trans k6).trans k7).trans k8
      refine b_setlc 7 (lcv_Rif (n := t.1.length) (fn := pn) (cn := fun i => decide (x ∈ t.1.getD i [])) [("i", 8)] 8 rfl nd C.m_range ((ev_lenT C.m_len (ev_v 3 rfl (dp_mono kk q1))).to (by rw [List.length_map])) (blkOk_by (N := n_is_bag_tree) (sc := defScope s_is_bag_tree) (by decide +kernel)) (by omega) (fun _ _ => rfl) (fun a ha H9 k9 => ?_) fun a ha H9 k9 _ => ?_) fun ql H9 n9 k9 l9 => ?_
      · intro s' H0 C' cl fp
        refine tv_inT (ev_v 6 rfl (.int _)) (ev_ixT (ev_v 3 rfl (dp_mono (kk.trans k9) q1)) (ev_v 8 rfl (.int _)) (at_map (x := t.1.getD a []) ?_))
        rw [List.getD_eq_getElem?_getD, List.getElem?_eq_getElem ha]; rfl
      · intro s' H0 C' cl fp
        exact ev_v 8 rfl (.int _)
      · refine b_skip (b := ((List.range t.1.length).filter fun i => decide (x ∈ t.1.getD i [])).isEmpty || !true) (tv_wv (wv_or (Tv.to (tv_eqD (n := 1) hr (ev_v 7 rfl l9.dp) (EvL.ev (evl_lst eva_nil)) fl_natl (fl_lst fun d hd => by cases hd)) (by rw [eqv_nil, List.isEmpty_map])) fun _ => wv_or1 (tv_not (tv_ev (ev_call (cal_hanging C) hr (by decide) (eva2 (ev_v 4 rfl (dp_mono (kk.trans k9) q2)) (ev_v 7 rfl l9.dp)) ⟨t.2, _, rfl, by omega, ?_, ht.ties.nd, by rw [hhang]⟩))))) ?_ fun H10 k10 => bw_nil ⟨_, _, rfl, (k8.trans k9).trans k10⟩
        · refine Nat.le_trans (List.length_filter_le _ _) ?_
          rw [List.length_range]; omega
        · rw [List.isEmpty_eq_false_iff.mpr hne]; rfl
    · rintro σ' H' ⟨o6, o7, rfl, k8⟩
      exact b_retv ev_bl fun v H9 k9 r => q v H9 (((k16.trans k7).trans k8).trans k9) r
end
end SO
set_option Elab.async false
set_option linter.all false
set_option maxRecDepth 100000
set_option maxHeartbeats 4000000
/-! So27: the law's own near, laid, fillings. -/
namespace SO
open PySem PySem.Spec PyProof.Rows L2
section
variable {P : Program} {w : World} {K : PySem.W.Frag} {mg : Str → Option Value} {base : Heap}
theorem cal_g_near (C : Ctx K mg) : C8.Cal P w K mg base 1 "_law_gnear" (spL K rNear) [] := by
  refine cal_of (k := 0) C.h_g_near c_g_near (spL_len fun ds d ⟨_, _, h, _⟩ => by rw [h]; rfl) fun cdv A outer s H vs Q E hr ⟨ds, d, r, ⟨ts, i, e1, hl, e2⟩, q⟩ => ?_
  subst e1; subst e2
  obtain ⟨v1, v2, rfl, r1, r2⟩ := dpa2 r
  have nd := c_g_near.nd
  rw [dp_int r2] at *
  refine b_ret (EvL.go (ds := (near ts i).map pn) (evl_sortedL C.m_sorted (EvL.ev (EvL.to (evl_lc (lcv_two (xs := ts) (enc := fun t => pn t.1) (enc2 := fun t => pn t.2) (f := fun t => pn (t.1 + t.2 - i)) (c := fun t => decide (i ∈ [t.1, t.2])) (β := Nat) [("one", 2), ("other", 3)] 2 3 rfl nd (pi_tup pe_ew) (src_Tm (ev_v 0 rfl r1)) (blkOk_by (N := n_g_near) (sc := defScope s_g_near) (by decide +kernel)) (fun _ _ _ _ _ => g_two 2 3 rfl nd) pts_blk (by omega) (fun _ _ _ => rfl) (fun a ha v u H5 k5 q1 q2 Q q s' H0 C' cl fp => ?_) (fun a ha v u H5 k5 q1 q2 hc => ?_))) (by rw [List.map_map]; rfl))) ?_) fun q' H' n k l => q q' H' n k l)
  · exact Tv.go (tv_inT (ns := [a.1, a.2]) (ev_v 1 rfl (.int _)) (ev_tup (eva2 (ev_v 2 rfl q1) (ev_v 3 rfl q2)))) q
  · intro s' H0 C' cl fp
    refine Ev.to (ev_sub (ev_add (ev_v 2 rfl q1) (ev_v 3 rfl q2)) (ev_v 1 rfl (.int _))) ?_
    have : i ∈ [a.1, a.2] := of_decide_eq_true hc
    simp only [List.mem_cons, List.not_mem_nil, or_false] at this
    congr 1
    omega
  · rw [List.length_map]
    exact Nat.lt_of_le_of_lt (List.length_filter_le _ _) hl
theorem cal_g_laid (C : Ctx K mg) : C8.Cal P w K mg base 1 "_law_glaid" (spP K rBagOf) [] := by
  refine cal_of (k := 0) C.h_g_laid c_g_laid (spP_len fun ds d ⟨_, _, h, _⟩ => by rw [h]; rfl) fun cdv A outer s H vs Q E hr ⟨ds, d, r, ⟨t, ns, e1, hl, hl2, hb, e2⟩, q⟩ => ?_
  subst e1; subst e2
  obtain ⟨v1, v2, rfl, r1, r2⟩ := dpa2 r
  have nd := c_g_laid.nd
  refine b_retv (ev_ixTrue (bs := t.1.map fun b => ns.all fun n => decide (n ∈ b)) (Ev.to (EvL.ev (evl_lc (lcv_T (xs := t.1) (enc := pns) (f := fun b => .bool (ns.all fun n => decide (n ∈ b))) [("bag", 2)] 2 rfl nd (ev_ixT (ev_v 0 rfl r1) ev_int (at_nat (n := 0) rfl)) (blkOk_by (N := n_g_laid) (sc := defScope s_g_laid) (by decide +kernel)) (by omega) (fun _ _ => rfl) fun a ha v H5 k5 r5 => ?_))) (by rw [bools_map])) ?_ ev_bl) q
  · intro s' H0 C' cl fp
    refine ev_allM rfl C.m_all (EvL.ev (evl_lc (lcv_T (xs := ns) (enc := pn) (f := fun n => .bool (decide (n ∈ a))) [("name", 3)] 3 rfl nd (ev_v 1 rfl (dp_mono k5 r2)) (by
      show BlkOk n_g_laid { kind := .function, names := [(".0", .local), ("bag", .cell), ("all", .globalImplicit), ("names", .cell)], isGenerator := false, isCoroutine := false } _ _
      exact blkOk_by (by decide +kernel)) (by omega) (fun _ _ => rfl) fun b hb v2 H6 k6 r6 => ?_)))
    intro s'2 H02 C'2 cl2 fp2
    exact ev_inT (ev_v 3 rfl r6) (ev_v 2 rfl (dp_mono k6 r5))
  · obtain ⟨b, hb1, hb2⟩ := hb
    exact List.mem_map.mpr ⟨b, hb1, List.all_eq_true.mpr fun n hn => decide_eq_true (hb2 n hn)⟩
def rGFill (ds : List D0) (es : List D0) : Prop := ∃ sz ns : List Nat, ds = [.list (sz.map pn), pns ns] ∧ SzOk sz ∧ Nm sz.length ns ∧ es = (fillings sz ns).map pns
theorem cal_g_fillings (C : Ctx K mg) : C8.Cal P w K mg base 1 "_law_gfillings" (spL K rGFill) [] := by
  refine cal_of (k := 0) C.h_g_fillings c_g_fillings (spL_len fun ds d ⟨_, _, h, _⟩ => by rw [h]; rfl) fun cdv A outer s H vs Q E hr ⟨ds, d, r, ⟨sz, ns, e1, hz, hn, e2⟩, q⟩ => ?_
  subst e1; subst e2
  obtain ⟨v1, v2, rfl, r1, r2⟩ := dpa2 r
  have few := hn.few
  have zl := hz.len
  have nd := c_g_fillings.nd
  refine b_setl 2 c_g_fillings.nd (evl_lst (eva1 (ev_tup eva_nil))) fun q0 H1 n0 k1 l0 => ?_
  refine b_forT (g_name 3 c_g_fillings.nd) rfl (ev_v 1 rfl (dp_mono k1 r2)) fun a xs H2 k2 ha hx => ⟨fun i σ' H' => ∃ qf o3 o4 o5 o6, σ' = [some v1, some v2, some (.ref qf), o3, o4, o5, o6] ∧ Same H2 H' ∧ H qf = none ∧ Ls K H' qf ((fillings sz (ns.take i)).map pns),
    ⟨q0, none, none, none, none, rfl, Same.refl _, n0, ls_mono l0 k2⟩, fun i σ' H' ⟨_, _, _, _, _, _, k, _⟩ => by
      rcases ha with (z | ⟨o, z⟩) | z
      · exact .inl (.inl (k _ _ z))
      · exact .inl (.inr ⟨o, k _ _ z⟩)
      · exact .inr z, ?_, ?_⟩
  · rintro i d v σ' H' hd hv r3 ⟨qf, o3, o4, o5, o6, rfl, k3, nf, lf⟩
    rw [List.getElem?_map] at hd
    obtain ⟨n, hn2, rfl⟩ := Option.map_eq_some_iff.mp hd
    have hlt := hn.lt n (List.mem_of_getElem? hn2)
    rw [dp_int r3]
    refine b_setl 4 c_g_fillings.nd (evl_lst eva_nil) fun ql H4 nl k4 ll => ?_
    have kk : Same H H4 := ((k1.trans k2).trans k3).trans k4
    have nl0 : H ql = none := none_back ((k1.trans k2).trans k3) nl
    have hne : ql ≠ qf := fun z => by
      subst z
      obtain ⟨ys, h⟩ := lf.some
      rw [h] at nl
      cases nl
    refine b_forV 2 (g_name 5 c_g_fillings.nd) rfl rfl (ls_mono lf k4) fun ys hy hdy => ⟨fun j σ' H' => ∃ o5, σ' = [some v1, some v2, some (.ref qf), some (.int (n : Int)), some (.ref ql), o5, o6] ∧ SameB ql H4 H' ∧ Ls K H' ql ((fstep sz ((fillings sz (ns.take i)).take j) n).map pns),
      ⟨o5, rfl, SameB.of_same (Same.refl _), ll⟩, fun j σ' H' ⟨o5, _, k, _⟩ => k _ _ (Ne.symm hne) hy, ?_, ?_⟩
    · rintro j d2 v4 σ' H' hd2 hv4 r4 ⟨o5, rfl, kb, lb⟩
      rw [List.getElem?_map] at hd2
      obtain ⟨sm, hs2, rfl⟩ := Option.map_eq_some_iff.mp hd2
      have hsm : sm ∈ fillings sz (ns.take i) := List.mem_of_getElem? hs2
      have hsl := fillings_mem_len hsm
      have kH : Same H H' := kb.same kk nl0
      have tp : Tp H4 H' := kb.tp (ll.some.choose_spec)
      have r1' : Dp K H' v1 (.list (sz.map pn)) := dp_mono kH r1
      have r4' : Dp K H' v4 (pns sm) := dp_tp tp tup_pns r4
      refine b_extend 4 rfl lb (evl_lc (lcv_R (n := sz.getD n 0) (fn := fun w => pns (sm ++ [w])) [("worth", 6)] 6 rfl c_g_fillings.nd C.m_range (ev_ixL (ev_v 0 rfl r1') (ev_v 3 rfl (.int _)) (at_pns (getD_at hlt))) (blkOk_by (N := n_g_fillings) (sc := defScope s_g_fillings) (by decide +kernel)) ?_ (fun _ _ => tup_pns) fun a ha H5 k5 => ?_)) tup_maps ?_ ?_ fun H6 k6 l6 => bw_nil ⟨_, rfl, kb.trans k6, ?_⟩
      · have := hz.le hlt; omega
      · intro s' H0 C' cl fp
        rw [pns_snoc]
        refine ev_catT (ev_v 5 rfl (dp_mono k5 r4')) (ev_tup (eva1 (ev_v 6 rfl (.int _)))) ?_
        rw [List.length_map, List.length_singleton, hsl, List.length_take]
        omega
      · refine tupOnlyL_iff.mpr fun d hd => ?_
        obtain ⟨w, _, rfl⟩ := List.mem_map.mp hd
        exact tup_pns
      · rw [List.length_map, List.length_map, List.length_range, fstep_len]
        have h1 := (hn.take i).fills hz
        have h2 := hz.le hlt
        have h3 : (List.take j (fillings sz (List.take i ns))).length ≤ 4 := by rw [List.length_take]; omega
        have h4 : (List.take j (fillings sz (List.take i ns))).length * sz.getD n 0 ≤ 4 * 4 := Nat.mul_le_mul h3 h2
        omega
      · rw [fstep_take sz _ n j sm hs2, List.map_append, List.map_map]
        exact l6
    · rintro σ' H' ⟨o5, rfl, kb, lb⟩
      refine b_set 2 c_g_fillings.nd (ew_v 4 rfl ?_)
      refine bw_nil ⟨ql, _, _, _, _, rfl, kb.same (k3.trans k4) (none_back k3 nl), nl0, ?_⟩
      rw [List.length_map, List.take_length] at lb
      rw [fillings_take sz ns i n hn2]
      exact lb
  · rintro σ' H' ⟨qf, o3, o4, o5, o6, rfl, k3, nf, lf⟩
    refine b_ret (ew_v 2 rfl ?_)
    rw [List.length_map, List.take_length] at lf
    exact q qf H' nf ((k1.trans k2).trans k3) lf
end
end SO
set_option Elab.async false
set_option linter.all false
set_option maxRecDepth 100000
set_option maxHeartbeats 4000000
/-! So28: trees; the side of a directed tie. Plain. -/
namespace SO
inductive Anc (root : Nat) (par : Nat → Nat) (i : Nat) : Nat → Prop where
  | self : Anc root par i i
  | step {x : Nat} : x ≠ root → Anc root par i (par x) → Anc root par i x
structure RTree (n root : Nat) (par rk : Nat → Nat) (nb : Nat → List Nat) : Prop where
  nd : ∀ i, (nb i).Nodup
  nbs : ∀ i j, j ∈ nb i ↔ (i < n ∧ j < n ∧ ((i ≠ root ∧ par i = j) ∨ (j ≠ root ∧ par j = i)))
  up : ∀ i, i < n → i ≠ root → par i < n ∧ rk (par i) < rk i
  rkn : ∀ i, i < n → rk i < n
def sideL (nb : Nat → List Nat) : Nat → Nat → Nat → List Nat
  | 0, i, _ => [i]
  | f + 1, i, j => i :: ((nb i).filter fun k => !decide (k = j)).flatMap fun k => sideL nb f k i
section
variable {n root : Nat} {par rk : Nat → Nat} {nb : Nat → List Nat}
open Classical in
noncomputable def hgt (n root : Nat) (par rk : Nat → Nat) (i j : Nat) : Nat := if i ≠ root ∧ par i = j then n - rk i else n + 1 + rk i
theorem RTree.sym (T : RTree n root par rk nb) {i j : Nat} (h : j ∈ nb i) : i ∈ nb j := by
  rw [T.nbs] at *
  exact ⟨h.2.1, h.1, h.2.2.symm⟩
theorem RTree.ne (T : RTree n root par rk nb) {i j : Nat} (h : j ∈ nb i) : j ≠ i := by
  rw [T.nbs] at h
  obtain ⟨h1, h2, h | h⟩ := h
  · have := T.up i h1 h.1
    intro z
    rw [z] at h
    rw [h.2] at this
    omega
  · have := T.up j h2 h.1
    intro z
    rw [← z, ] at h
    rw [h.2] at this
    omega
theorem hgt_pos (T : RTree n root par rk nb) {i j : Nat} (hi : i < n) : 1 ≤ hgt n root par rk i j := by
  unfold hgt
  have := T.rkn i hi
  split <;> omega
theorem hgt_dec (T : RTree n root par rk nb) {i j k : Nat} (hj : j ∈ nb i) (hk : k ∈ nb i) (hne : k ≠ j) : hgt n root par rk k i < hgt n root par rk i j := by
  rw [T.nbs] at hj hk
  obtain ⟨hi, hjn, hj⟩ := hj
  obtain ⟨_, hkn, hk⟩ := hk
  have r1 := T.rkn i hi
  have r3 := T.rkn k hkn
  unfold hgt
  by_cases hu : i ≠ root ∧ par i = j
  · rw [if_pos hu]
    have hk' : k ≠ root ∧ par k = i := by
      rcases hk with h | h
      · exact absurd (h.2.symm.trans hu.2) hne
      · exact h
    rw [if_pos hk']
    have := (T.up k hkn hk'.1).2
    rw [hk'.2] at this
    omega
  · rw [if_neg hu]
    by_cases hc : k ≠ root ∧ par k = i
    · rw [if_pos hc]; omega
    · rw [if_neg hc]
      have h : i ≠ root ∧ par i = k := by
        rcases hk with h | h
        · exact h
        · exact absurd h hc
      have := (T.up i hi h.1).2
      rw [h.2] at this
      omega
theorem sideL_fuel (T : RTree n root par rk nb) : ∀ (f g i j : Nat), j ∈ nb i → hgt n root par rk i j ≤ f → hgt n root par rk i j ≤ g → sideL nb f i j = sideL nb g i j
  | 0, _, i, j, hj, h, _ => by have := hgt_pos T (j := j) ((T.nbs i j).mp hj).1; omega
  | _ + 1, 0, i, j, hj, _, h => by have := hgt_pos T (j := j) ((T.nbs i j).mp hj).1; omega
  | f + 1, g + 1, i, j, hj, hf, hg => by
    unfold sideL
    congr 1
    rw [List.flatMap_def, List.flatMap_def]
    congr 1
    apply List.map_congr_left
    intro k hk
    obtain ⟨h1, h2⟩ := List.mem_filter.mp hk
    have hne : k ≠ j := by simpa using h2
    have := hgt_dec T hj h1 hne
    exact sideL_fuel T f g k i (T.sym h1) (by omega) (by omega)
theorem hgt_le (T : RTree n root par rk nb) {i j : Nat} (hi : i < n) : hgt n root par rk i j ≤ 2 * n + 1 := by
  unfold hgt
  have := T.rkn i hi
  split <;> omega
def side (n : Nat) (nb : Nat → List Nat) (i j : Nat) : List Nat := sideL nb (2 * n + 2) i j
theorem side_eq (T : RTree n root par rk nb) {i j : Nat} (hj : j ∈ nb i) : side n nb i j = i :: ((nb i).filter fun k => !decide (k = j)).flatMap fun k => side n nb k i := by
  have hi := ((T.nbs i j).mp hj).1
  show sideL nb (2 * n + 1 + 1) i j = _
  unfold sideL
  congr 1
  rw [List.flatMap_def, List.flatMap_def]
  congr 1
  apply List.map_congr_left
  intro k hk
  obtain ⟨h1, h2⟩ := List.mem_filter.mp hk
  have hk' := ((T.nbs i k).mp h1).2.1
  have := hgt_le T (j := i) hk'
  exact sideL_fuel T _ _ k i (T.sym h1) (by omega) (by omega)
/-- induction along the ties -/
theorem side_ind (T : RTree n root par rk nb) {M : Nat → Nat → Prop} (h : ∀ i j, j ∈ nb i → (∀ k, k ∈ nb i → k ≠ j → M k i) → M i j) : ∀ i j, j ∈ nb i → M i j := by
  suffices s : ∀ m i j, hgt n root par rk i j ≤ m → j ∈ nb i → M i j from fun i j hj => s _ i j (Nat.le_refl _) hj
  intro m
  induction m with
  | zero =>
    intro i j hm hj
    have := hgt_pos T (j := j) ((T.nbs i j).mp hj).1
    omega
  | succ m ih =>
    intro i j hm hj
    refine h i j hj fun k hk hne => ih k i ?_ (T.sym hk)
    have := hgt_dec T hj hk hne
    omega
theorem mem_side (T : RTree n root par rk nb) {i j x : Nat} (hj : j ∈ nb i) : x ∈ side n nb i j ↔ x = i ∨ ∃ k, k ∈ nb i ∧ k ≠ j ∧ x ∈ side n nb k i := by
  rw [side_eq T hj, List.mem_cons, List.mem_flatMap]
  constructor
  · rintro (h | ⟨k, hk, hx⟩)
    · exact .inl h
    · obtain ⟨h1, h2⟩ := List.mem_filter.mp hk
      exact .inr ⟨k, h1, by simpa using h2, hx⟩
  · rintro (h | ⟨k, h1, h2, hx⟩)
    · exact .inl h
    · exact .inr ⟨k, List.mem_filter.mpr ⟨h1, by simpa using h2⟩, hx⟩
theorem side_self (T : RTree n root par rk nb) {i j : Nat} (hj : j ∈ nb i) : i ∈ side n nb i j := (mem_side T hj).mpr (.inl rfl)
theorem side_sub (T : RTree n root par rk nb) {i j k x : Nat} (hj : j ∈ nb i) (hk : k ∈ nb i) (hne : k ≠ j) (h : x ∈ side n nb k i) : x ∈ side n nb i j := (mem_side T hj).mpr (.inr ⟨k, hk, hne, h⟩)
theorem side_lt (T : RTree n root par rk nb) : ∀ i j, j ∈ nb i → ∀ x ∈ side n nb i j, x < n := side_ind T fun i j hj ih x hx => by
  rcases (mem_side T hj).mp hx with rfl | ⟨k, hk, hne, hx⟩
  · exact ((T.nbs _ j).mp hj).1
  · exact ih k hk hne x hx
/-! ### ancestors -/
theorem anc_rk (T : RTree n root par rk nb) {i x : Nat} (h : Anc root par i x) : x < n → rk i ≤ rk x := by
  induction h with
  | self => intro _; exact Nat.le_refl _
  | step hx _ ih =>
    intro hn
    have := T.up _ hn hx
    exact Nat.le_trans (ih this.1) (Nat.le_of_lt this.2)
theorem anc_par {i x : Nat} (h : Anc root par i x) (hi : i ≠ root) : Anc root par (par i) x := by
  induction h with
  | self => exact .step hi .self
  | step hx _ ih => exact .step hx ih
theorem anc_lin {i j x : Nat} (h : Anc root par i x) : Anc root par j x → Anc root par i j ∨ Anc root par j i := by
  induction h with
  | self => intro h; exact .inr h
  | step hx h1 ih =>
    intro h
    cases h with
    | self => exact .inl (.step hx h1)
    | step _ h2 => exact ih h2
theorem anc_up {i x : Nat} (h : Anc root par i x) (hne : x ≠ i) : x ≠ root ∧ Anc root par i (par x) := by
  cases h with
  | self => exact absurd rfl hne
  | step hx h => exact ⟨hx, h⟩
def SS (root : Nat) (par : Nat → Nat) (i j x : Nat) : Prop := ((i ≠ root ∧ par i = j) → Anc root par i x) ∧ (¬(i ≠ root ∧ par i = j) → ¬Anc root par j x)
/-- the children of a bag -/
theorem child_not (T : RTree n root par rk nb) {k i : Nat} (hk : k < n) (h1 : k ≠ root) (h2 : par k = i) : ¬Anc root par k i := fun h => by
  have h3 := T.up k hk h1
  have h4 := anc_rk T h (h2 ▸ h3.1)
  rw [h2] at h3
  omega
theorem no_two (T : RTree n root par rk nb) {k i : Nat} (hi : i < n) (hk : k < n) (h1 : i ≠ root ∧ par i = k) : ¬(k ≠ root ∧ par k = i) := fun h => by
  have h3 := (T.up i hi h1.1).2
  have h4 := (T.up k hk h.1).2
  rw [h1.2] at h3
  rw [h.2] at h4
  omega
theorem kids_apart (T : RTree n root par rk nb) {k k' i x : Nat} (hk : k < n) (hk' : k' < n) (h1 : k ≠ root ∧ par k = i) (h2 : k' ≠ root ∧ par k' = i) (hne : k ≠ k') (a : Anc root par k x) : ¬Anc root par k' x := fun b => by
  rcases anc_lin a b with h | h
  · have := (anc_up h (Ne.symm hne)).2
    rw [h2.2] at this
    exact child_not T hk h1.1 h1.2 this
  · have := (anc_up h hne).2
    rw [h1.2] at this
    exact child_not T hk' h2.1 h2.2 this
theorem side_SS (T : RTree n root par rk nb) : ∀ i j, j ∈ nb i → ∀ x ∈ side n nb i j, SS root par i j x := side_ind T fun i j hj ih x hx => by
  obtain ⟨hi, hjn, hor⟩ := (T.nbs i j).mp hj
  rcases (mem_side T hj).mp hx with rfl | ⟨k, hk, hne, hx⟩
  · refine ⟨fun _ => .self, fun h => ?_⟩
    rcases hor with h' | h'
    · exact absurd h' h
    · exact child_not T hjn h'.1 h'.2
  · have s := ih k hk hne x hx
    obtain ⟨_, hkn, hkor⟩ := (T.nbs i k).mp hk
    refine ⟨fun h => ?_, fun h => ?_⟩
    · have hc : k ≠ root ∧ par k = i := by
        rcases hkor with h' | h'
        · exact absurd (h'.2.symm.trans h.2) hne
        · exact h'
      have := anc_par (s.1 hc) hc.1
      rw [hc.2] at this
      exact this
    · have hjc : j ≠ root ∧ par j = i := hor.resolve_left h
      by_cases hc : k ≠ root ∧ par k = i
      · exact kids_apart T hkn hjn hc hjc hne (s.1 hc)
      · intro a
        refine s.2 hc ?_
        have := anc_par a hjc.1
        rw [hjc.2] at this
        exact this
theorem side_apart (T : RTree n root par rk nb) {i k k' x : Nat} (hk : k ∈ nb i) (hk' : k' ∈ nb i) (hne : k ≠ k') (h : x ∈ side n nb k i) (h' : x ∈ side n nb k' i) : False := by
  obtain ⟨hi, hkn, hkor⟩ := (T.nbs i k).mp hk
  obtain ⟨_, hkn', hkor'⟩ := (T.nbs i k').mp hk'
  have s := side_SS T k i (T.sym hk) x h
  have s' := side_SS T k' i (T.sym hk') x h'
  by_cases hc : k ≠ root ∧ par k = i
  · by_cases hc' : k' ≠ root ∧ par k' = i
    · exact kids_apart T hkn hkn' hc hc' hne (s.1 hc) (s'.1 hc')
    · refine s'.2 hc' ?_
      have := anc_par (s.1 hc) hc.1
      rw [hc.2] at this
      exact this
  · by_cases hc' : k' ≠ root ∧ par k' = i
    · refine s.2 hc ?_
      have := anc_par (s'.1 hc') hc'.1
      rw [hc'.2] at this
      exact this
    · have e1 := (hkor.resolve_right hc).2
      have e2 := (hkor'.resolve_right hc').2
      exact hne (e1.symm.trans e2)
theorem side_out (T : RTree n root par rk nb) {i k : Nat} (hk : k ∈ nb i) : i ∉ side n nb k i := fun h => by
  obtain ⟨hi, hkn, hkor⟩ := (T.nbs i k).mp hk
  have s := side_SS T k i (T.sym hk) i h
  by_cases hc : k ≠ root ∧ par k = i
  · exact child_not T hkn hc.1 hc.2 (s.1 hc)
  · exact s.2 hc .self
theorem side_nodup (T : RTree n root par rk nb) : ∀ i j, j ∈ nb i → (side n nb i j).Nodup := side_ind T fun i j hj ih => by
  rw [side_eq T hj, List.nodup_cons]
  refine ⟨fun h => ?_, ?_⟩
  · obtain ⟨k, hk, hx⟩ := List.mem_flatMap.mp h
    exact side_out T (List.mem_filter.mp hk).1 hx
  · unfold List.Nodup
    rw [List.pairwise_flatMap]
    refine ⟨fun k hk => ?_, ?_⟩
    · obtain ⟨h1, h2⟩ := List.mem_filter.mp hk
      exact ih k h1 (by simpa using h2)
    · refine List.Pairwise.imp_of_mem ?_ ((T.nd i).filter _)
      intro k k' hk hk' hne x hx y hy e
      subst e
      exact side_apart T (List.mem_filter.mp hk).1 (List.mem_filter.mp hk').1 hne hx hy
theorem side_nm (T : RTree n root par rk nb) {i j : Nat} (hj : j ∈ nb i) : Nm n (side n nb i j) := ⟨side_nodup T i j hj, side_lt T i j hj⟩
theorem side_few (T : RTree n root par rk nb) {i j : Nat} (hj : j ∈ nb i) : (side n nb i j).length ≤ n := (side_nm T hj).few
/-- from a side one comes out only by its tie -/
theorem side_closed (T : RTree n root par rk nb) : ∀ i j, j ∈ nb i → ∀ x ∈ side n nb i j, ∀ y ∈ nb x, y ∈ side n nb i j ∨ (x = i ∧ y = j) := side_ind T fun i j hj ih x hx y hy => by
  rcases (mem_side T hj).mp hx with rfl | ⟨k, hk, hne, hx⟩
  · by_cases e : y = j
    · exact .inr ⟨rfl, e⟩
    · exact .inl (side_sub T hj hy e (side_self T (T.sym hy)))
  · rcases ih k hk hne x hx y hy with h | ⟨h1, h2⟩
    · exact .inl (side_sub T hj hk hne h)
    · subst h2
      exact .inl (side_self T hj)
theorem le_sum : ∀ {ns : List Nat} {x : Nat}, x ∈ ns → x ≤ ns.sum
  | n :: ns, x, h => by
    rw [List.sum_cons]
    rcases List.mem_cons.mp h with rfl | h
    · omega
    · have := le_sum h; omega
/-- how much hangs at a tie -/
theorem side_sum (T : RTree n root par rk nb) {i j : Nat} (hj : j ∈ nb i) : (side n nb i j).length = 1 + (((nb i).filter fun k => !decide (k = j)).map fun k => (side n nb k i).length).sum := by
  rw [side_eq T hj, List.length_cons, List.length_flatMap]
  omega
theorem side_less (T : RTree n root par rk nb) {i j k : Nat} (hj : j ∈ nb i) (hk : k ∈ nb i) (hne : k ≠ j) : (side n nb k i).length < (side n nb i j).length := by
  rw [side_sum T hj]
  have : (side n nb k i).length ≤ (((nb i).filter fun k => !decide (k = j)).map fun k => (side n nb k i).length).sum :=
    le_sum (List.mem_map.mpr ⟨k, List.mem_filter.mpr ⟨hk, by simpa using hne⟩, rfl⟩)
  omega
end
end SO
set_option Elab.async false
set_option linter.all false
set_option maxRecDepth 100000
set_option maxHeartbeats 4000000
/-! So29: frames; the law's side, forgotten. -/
namespace SO
open PySem PySem.Spec PyProof.Rows L2
/-- but for the things at D nothing known changed; tuples stand -/
structure Fr (D : List Addr) (H H' : Hp) : Prop where
  same : ∀ b o, b ∉ D → H b = some o → H' b = some o
  tp : Tp H H'
theorem Fr.refl {D : List Addr} {H : Hp} : Fr D H H := ⟨fun _ _ _ h => h, Tp.refl _⟩
theorem Fr.trans {D : List Addr} {H H1 H2 : Hp} (a : Fr D H H1) (b : Fr D H1 H2) : Fr D H H2 := ⟨fun c o n h => b.same c o n (a.same c o n h), a.tp.trans b.tp⟩
theorem Fr.of {D : List Addr} {H H' : Hp} (s : Same H H') : Fr D H H' := ⟨fun b o _ h => s b o h, tp_same s⟩
theorem Fr.mono {D D' : List Addr} {H H' : Hp} (h : Fr D H H') (k : ∀ d ∈ D, d ∈ D') : Fr D' H H' := ⟨fun b o n => h.same b o fun z => n (k b z), h.tp⟩
theorem Fr.ofB {D : List Addr} {q : Addr} {H H' : Hp} (s : SameB q H H') (hq : ∃ xs, H q = some (.lst xs)) (k : q ∈ D) : Fr D H H' := ⟨fun b o n h => s b o (fun z => n (z ▸ k)) h, s.tp hq.choose_spec⟩
theorem Fr.to {D : List Addr} {H0 H H' : Hp} (h : Fr D H H') (s : Same H0 H) (n : ∀ d ∈ D, H0 d = none) : Same H0 H' := fun b o hb => h.same b o (fun z => ne_of_none hb (n b z) rfl) (s b o hb)
theorem ls_fr {K : PySem.W.Frag} {D : List Addr} {H H' : Hp} {q : Addr} {ds : List D0} (h : Ls K H q ds) (k : Fr D H H') (n : q ∉ D) (t : tupOnlyL ds = true) : Ls K H' q ds := by
  obtain ⟨xs, h1, h2⟩ := h
  exact ⟨xs, k.same _ _ n h1, dpa_tp k.tp t h2⟩
/-! ### the law's side -/
def gnew (nb : Nat → List Nat) (here but_ : Nat) : List Nat := (nb here).filter fun b => !decide ((b : Int) = (but_ : Int))
def gsF (nb : Nat → List Nat) : Nat → List Nat → List Tie → List Nat
  | 0, found, _ => found
  | f + 1, found, waiting => match waiting.getLast? with
    | none => found
    | some e => gsF nb f (found ++ gnew nb e.1 e.2) (waiting.dropLast ++ (gnew nb e.1 e.2).map fun b => (b, e.1))
def gside (nb : Nat → List Nat) (n i j : Nat) : List Nat := gsF nb n [i] [(i, j)]
theorem gnew_eq (nb : Nat → List Nat) (h b : Nat) : gnew nb h b = (nb h).filter fun k => !decide (k = b) := by
  unfold gnew
  congr 1
  funext k
  by_cases e : k = b <;> simp [e] <;> omega
def wsum (n : Nat) (nb : Nat → List Nat) (ws : List Tie) : Nat := (ws.map fun e => (side n nb e.1 e.2).length).sum
section
variable {n root : Nat} {par rk : Nat → Nat} {nb : Nat → List Nat}
theorem wsum_step (T : RTree n root par rk nb) {ws : List Tie} {e : Tie} (he : e.2 ∈ nb e.1) : wsum n nb (ws ++ (gnew nb e.1 e.2).map fun b => (b, e.1)) + 1 = wsum n nb (ws ++ [e]) := by
  unfold wsum
  rw [List.map_append, List.map_append, List.sum_append, List.sum_append, List.map_map, gnew_eq]
  simp only [List.map_cons, List.map_nil, List.sum_cons, List.sum_nil]
  have := side_sum T he
  have e2 : (List.map ((fun e => (side n nb e.1 e.2).length) ∘ fun b => (b, e.1)) ((nb e.1).filter fun k => !decide (k = e.2))) = ((nb e.1).filter fun k => !decide (k = e.2)).map fun k => (side n nb k e.1).length := by
    apply List.map_congr_left
    intro k _
    rfl
  rw [e2]
  omega
structure GsOk (n : Nat) (nb : Nat → List Nat) (i j : Nat) (found : List Nat) (ws : List Tie) : Prop where
  tie : ∀ e ∈ ws, e.2 ∈ nb e.1
  mem : ∀ x, x ∈ side n nb i j ↔ x ∈ found ∨ ∃ e ∈ ws, x ∈ side n nb e.1 e.2
  head : ∀ e ∈ ws, e.1 ∈ found
  len : found.length + wsum n nb ws ≤ (side n nb i j).length + ws.length
theorem gs_step (T : RTree n root par rk nb) {i j : Nat} {found : List Nat} {ws : List Tie} {e : Tie} (h : GsOk n nb i j found (ws ++ [e])) : GsOk n nb i j (found ++ gnew nb e.1 e.2) (ws ++ (gnew nb e.1 e.2).map fun b => (b, e.1)) := by
  have he := h.tie e (by simp)
  have hw := wsum_step T (ws := ws) he
  refine ⟨fun x hx => ?_, fun x => ?_, fun x hx => ?_, ?_⟩
  · rcases List.mem_append.mp hx with hx | hx
    · exact h.tie x (List.mem_append_left _ hx)
    · obtain ⟨b, hb, rfl⟩ := List.mem_map.mp hx
      rw [gnew_eq] at hb
      exact T.sym (List.mem_filter.mp hb).1
  · rw [h.mem]
    constructor
    · rintro (hx | ⟨u, hu, hx⟩)
      · exact .inl (List.mem_append_left _ hx)
      · rcases List.mem_append.mp hu with hu | hu
        · exact .inr ⟨u, List.mem_append_left _ hu, hx⟩
        · rw [List.mem_singleton.mp hu] at hx
          rcases (mem_side T he).mp hx with rfl | ⟨k, hk, hne, hx⟩
          · exact .inl (List.mem_append_left _ (h.head e (by simp)))
          · exact .inr ⟨(k, e.1), List.mem_append_right _ (List.mem_map.mpr ⟨k, by rw [gnew_eq]; exact List.mem_filter.mpr ⟨hk, by simpa using hne⟩, rfl⟩), hx⟩
    · rintro (hx | ⟨u, hu, hx⟩)
      · rcases List.mem_append.mp hx with hx | hx
        · exact .inl hx
        · rw [gnew_eq] at hx
          obtain ⟨h1, h2⟩ := List.mem_filter.mp hx
          exact .inr ⟨e, by simp, side_sub T he h1 (by simpa using h2) (side_self T (T.sym h1))⟩
      · rcases List.mem_append.mp hu with hu | hu
        · exact .inr ⟨u, List.mem_append_left _ hu, hx⟩
        · obtain ⟨b, hb, rfl⟩ := List.mem_map.mp hu
          rw [gnew_eq] at hb
          obtain ⟨h1, h2⟩ := List.mem_filter.mp hb
          exact .inr ⟨e, by simp, side_sub T he h1 (by simpa using h2) hx⟩
  · rcases List.mem_append.mp hx with hx | hx
    · exact List.mem_append_left _ (h.head x (List.mem_append_left _ hx))
    · obtain ⟨b, hb, rfl⟩ := List.mem_map.mp hx
      exact List.mem_append_right _ hb
  · have := h.len
    rw [List.length_append] at this ⊢
    rw [List.length_append, List.length_map]
    simp only [List.length_singleton] at this
    omega
theorem gs_begin (T : RTree n root par rk nb) {i j : Nat} (hj : j ∈ nb i) : GsOk n nb i j [i] [(i, j)] := by
  refine ⟨fun e he => by rw [List.mem_singleton.mp he]; exact hj, fun x => ?_, fun e he => by rw [List.mem_singleton.mp he]; simp, ?_⟩
  · constructor
    · intro h; exact .inr ⟨(i, j), by simp, h⟩
    · rintro (h | ⟨e, he, h⟩)
      · rw [List.mem_singleton.mp h]; exact side_self T hj
      · rw [List.mem_singleton.mp he] at h; exact h
  · simp [wsum]; omega
theorem wsum_pos (T : RTree n root par rk nb) {ws : List Tie} (h : ∀ e ∈ ws, e.2 ∈ nb e.1) : ws.length ≤ wsum n nb ws := by
  unfold wsum
  induction ws with
  | nil => simp
  | cons e ws ih =>
    have := ih fun x hx => h x (List.mem_cons_of_mem _ hx)
    have := side_sum T (h e List.mem_cons_self)
    simp only [List.map_cons, List.sum_cons, List.length_cons]
    omega
theorem gsF_mem (T : RTree n root par rk nb) {i j : Nat} : ∀ (f : Nat) (found : List Nat) (ws : List Tie), GsOk n nb i j found ws → wsum n nb ws ≤ f → ∀ x, x ∈ gsF nb f found ws ↔ x ∈ side n nb i j
  | 0, found, ws, h, hf, x => by
    have := wsum_pos T h.tie
    have e : ws = [] := List.length_eq_zero_iff.mp (by omega)
    subst e
    rw [h.mem]
    simp [gsF]
  | f + 1, found, ws, h, hf, x => by
    unfold gsF
    cases e : ws.getLast? with
    | none =>
      have e : ws = [] := List.getLast?_eq_none_iff.mp e
      subst e
      show x ∈ found ↔ _
      rw [h.mem]
      simp
    | some u =>
      obtain ⟨vs, rfl⟩ := List.getLast?_eq_some_iff.mp e
      have hs := gs_step T h
      have hw := wsum_step T (ws := vs) (h.tie u (by simp))
      show x ∈ gsF nb f _ _ ↔ _
      rw [List.dropLast_concat]
      exact gsF_mem T f _ _ hs (by omega) x
theorem gside_mem (T : RTree n root par rk nb) {i j x : Nat} (hj : j ∈ nb i) : x ∈ gside nb n i j ↔ x ∈ side n nb i j := gsF_mem T n _ _ (gs_begin T hj) (by
  have := side_few T hj
  simpa [wsum] using this) x
end
section
variable {X : Cx} {e : Expr} {σ : L2.St} {H : Hp} {pos p : Pos}
/-- int(b) -/
theorem ev_intB {b : Bool} (hm : X.mg "int" = none) (h : Ev X e σ H (.bool b)) (hg : Gl X "int" := by rfl) (he : starEach [e] X.env = (false, eval e X.env) :: starEach [] X.env := by rfl) (hpl : (backTo pos (starEach [] X.env)).any (·.1) = false := by rfl) : Ev X (.Call (.Name "int" p) [e] [] pos) σ H (.int (if b then 1 else 0)) :=
  ev_callTy call_int1 hm (by decide +kernel) (eva1 h he) (fun vs H1 k r Q q => by
    obtain ⟨v, rfl, r1⟩ := dpa1 r
    rw [dp_bool r1]
    exact .inr ⟨b, rfl, q _ H1 (Same.refl _) (.int _)⟩) hg (by decide) (by decide) he hpl
end
theorem fl_ties {n : Nat} {ts : List Tie} : Fl (n + 2) (.list (ts.map tieD)) := fl_lst fun d hd => by
  obtain ⟨t, _, rfl⟩ := List.mem_map.mp hd
  exact fl_nats (ns := [t.1, t.2])
theorem pns_tup1 {ns : List Nat} {b : Nat} : tupOnlyL (ns.map pn ++ [pn b]) = true := by
  have := pns_tup (ns := ns ++ [b])
  rw [List.map_append] at this
  exact this
theorem ties_tup {ts : List Tie} : tupOnlyL (ts.map tieD) = true := tupOnlyL_iff.mpr fun d hd => by
  obtain ⟨n, _, rfl⟩ := List.mem_map.mp hd
  rfl
section
variable {P : Program} {w : World} {K : PySem.W.Frag} {mg : Str → Option Value} {base : Heap}
def rGSide (ds : List D0) (es : List D0) : Prop := ∃ (ts : List Tie) (n root : Nat) (par rk : Nat → Nat) (i j : Nat), ds = [tiesD ts, pn i, pn j] ∧ ts.length < 64 ∧ n ≤ 1000 ∧ RTree n root par rk (near ts) ∧ j ∈ near ts i ∧ es = (gside (near ts) n i j).map pn
theorem cal_g_side (C : Ctx K mg) : C8.Cal P w K mg base 2 "_law_gside" (spL K rGSide) [] := by
  refine cal_of (k := 1) C.h_g_side c_g_side (spL_len fun ds d ⟨_, _, _, _, _, _, _, h, _⟩ => by rw [h]; rfl) fun cdv A outer s H vs Q E hr ⟨ds, d, r, ⟨ts, n, root, par, rk, i, j, e1, htl, hn, T, hj, e2⟩, q⟩ => ?_
  subst e1; subst e2
  obtain ⟨v1, v2, v3, rfl, r1, r2, r3⟩ := dpa3 r
  have nd := c_g_side.nd
  rw [dp_int r2, dp_int r3] at *
  have sfew := side_few T hj
  refine b_setl 3 nd (evl_lst (eva1 (ev_v 1 rfl (.int _)))) fun qf H1 nf k1 l1 => ?_
  refine b_setl 4 nd (evl_lst (eva1 (ev_tup (eva2 (ev_v 1 rfl (.int _)) (ev_v 2 rfl (.int _)))))) fun qw H2 nw k2 l2 => ?_
  have nw0 := none_back k1 nw
  have hne : qf ≠ qw := fun z => by
    subst z
    obtain ⟨ys, h⟩ := l1.some
    rw [h] at nw
    cases nw
  refine b_while ⟨fun m σ' H' => ∃ found ws o5 o6 o7, wsum n (near ts) ws = m ∧ σ' = [some v1, some (.int i), some (.int j), some (.ref qf), some (.ref qw), o5, o6, o7] ∧ Same H H' ∧ Ls K H' qf (found.map pn) ∧ Ls K H' qw (ws.map tieD) ∧ GsOk n (near ts) i j found ws ∧ ∃ f, wsum n (near ts) ws ≤ f ∧ f ≤ n ∧ gsF (near ts) f found ws = gside (near ts) n i j, ⟨_, [i], [(i, j)], none, none, none, rfl, rfl, k1.trans k2, (show Ls K H2 qf ([i].map pn) from ls_mono l1 k2), (show Ls K H2 qw ([(i, j)].map tieD) from l2), gs_begin T hj, n, by simpa [wsum] using sfew, Nat.le_refl _, rfl⟩, ?_⟩
  rintro m σ' H' ⟨found, ws, o5, o6, o7, rfl, rfl, k, lf, lw, ok, f, hf, hfn, ef⟩
  refine Tv.go (Tv.to (tv_neD (n := 2) hr (ev_v 4 rfl lw.dp) (EvL.ev (evl_lst eva_nil)) fl_ties (fl_lst fun d hd => by cases hd)) (by rw [eqv_nil, List.isEmpty_map])) fun H3 k3 => ?_
  cases he : ws.getLast? with
  | none =>
    have e : ws = [] := List.getLast?_eq_none_iff.mp he
    subst e
    rw [show (!([] : List Tie).isEmpty) = false from rfl, if_neg (by decide)]
    refine b_ret (ew_v 3 rfl ?_)
    have : gsF (near ts) f found [] = found := by cases f <;> rfl
    rw [this] at ef
    rw [← ef] at q
    exact q qf H3 nf (k.trans k3) (ls_mono lf k3)
  | some u =>
    obtain ⟨vs, rfl⟩ := List.getLast?_eq_some_iff.mp he
    rw [show (!(vs ++ [u]).isEmpty) = true by cases vs <;> rfl, if_pos rfl]
    have hu := ok.tie u (by simp)
    have okn := gs_step T ok
    have hws := wsum_step T (ws := vs) hu
    have hwp := wsum_pos T ok.tie
    have hlen := ok.len
    rw [List.length_append, List.length_singleton] at hwp hlen
    have hnl := near_len ts u.1
    have hgl : (gnew (near ts) u.1 u.2).length ≤ (near ts u.1).length := List.length_filter_le _ _
    refine ⟨_, fun σ2 H2 h => h, ?_⟩
    obtain ⟨xs, hx, hd⟩ := ls_mono lw k3
    rw [List.map_append] at hd
    have hlx := dpa_len hd
    obtain ⟨y, hy, ry⟩ := dpa_get (i := vs.length) (d := tieD u) hd (by rw [List.getElem?_append_right (by rw [List.length_map]; exact Nat.le_refl _), List.length_map, Nat.sub_self]; rfl)
    rw [List.length_append, List.length_map] at hlx
    simp only [List.map_cons, List.map_nil, List.length_singleton] at hlx
    refine b_asg (g_two 5 6 rfl nd) (ew_m0 (id := "list.pop") tyL_ok PySem.F.plainAttrs_list PySem.F.slot_list_pop mt_pop (ew_v 4 rfl ⟨⟨qw, xs, rfl, hx⟩, qw, xs, y, rfl, rfl, hx, by rw [hlx, Nat.add_sub_cancel]; exact hy, ?_⟩))
    have s4 : SameB qw H3 (upd H3 qw (.lst xs.dropLast)) := sameB_upd
    have t4 := s4.tp hx
    have k4 : Same H (upd H3 qw (.lst xs.dropLast)) := s4.same (k.trans k3) nw0
    have lf4 : Ls K (upd H3 qw (.lst xs.dropLast)) qf (found.map pn) := ls_keep (ls_mono lf k3) ⟨xs, hx⟩ hne s4 pns_tup
    have lw4 : Ls K (upd H3 qw (.lst xs.dropLast)) qw (vs.map tieD) := ⟨_, upd_same, by
      have := dpa_dropLast hd
      rw [show [u].map tieD = [tieD u] from rfl, List.dropLast_concat] at this
      exact dpa_tp t4 ties_tup this⟩
    generalize upd H3 qw (.lst xs.dropLast) = H4 at s4 t4 k4 lf4 lw4 ⊢
    refine g2_go (dp_tp t4 (by rfl) ry) fun w1 w2 q1 q2 => ?_
    rw [dp_int q1, dp_int q2]
    refine b_forN (g_name 7 nd) rfl (evl_call (cal_g_near C) hr (by decide) (eva2 (ev_v 0 rfl (dp_mono k4 r1)) (ev_v 5 rfl (.int _))) ⟨ts, u.1, rfl, htl, rfl⟩) fun qn zs H5 n5 k5 hz hzd => ⟨fun a σ' H' => ∃ o7, σ' = [some v1, some (.int i), some (.int j), some (.ref qf), some (.ref qw), some (.int u.1), some (.int u.2), o7] ∧ Fr [qf, qw] H5 H' ∧ Ls K H' qf ((found ++ ((near ts u.1).take a).filter fun b : Nat => !decide ((b : Int) = (u.2 : Int))).map pn) ∧ Ls K H' qw ((vs ++ (((near ts u.1).take a).filter fun b : Nat => !decide ((b : Int) = (u.2 : Int))).map fun b => (b, u.1)).map tieD),
      ⟨o7, rfl, Fr.refl, by simpa using ls_mono lf4 k5, by simpa using ls_mono lw4 k5⟩, fun a σ' H' ⟨o7, _, fr, _⟩ => fr.same _ _ (fun z => ?_) hz, ?_, ?_⟩
    · rcases List.mem_cons.mp z with z | z
      · subst z
        obtain ⟨ys, h⟩ := lf4.some
        rw [h] at n5; cases n5
      · rw [List.mem_singleton.mp z] at n5
        obtain ⟨ys, h⟩ := lw4.some
        rw [h] at n5; cases n5
    · rintro a d v σ' H' hd2 hv rv ⟨o7, rfl, fr, lf5, lw5⟩
      rw [List.getElem?_map] at hd2
      obtain ⟨b, hb, rfl⟩ := Option.map_eq_some_iff.mp hd2
      have htk : (near ts u.1).take (a + 1) = (near ts u.1).take a ++ [b] := by rw [List.take_succ, hb]; rfl
      have l1 : (((near ts u.1).take a).filter fun b : Nat => !decide ((b : Int) = (u.2 : Int))).length ≤ (near ts u.1).length := Nat.le_trans (List.length_filter_le _ _) (by rw [List.length_take]; omega)
      rw [dp_int rv]
      refine b_when (b := !decide ((b : Int) = (u.2 : Int))) (tv_neI (ev_v 7 rfl (.int _)) (ev_v 6 rfl (.int _))) (fun hb1 H6 k6 => ?_) fun hb1 H6 k6 => bw_nil ⟨_, rfl, fr.trans (Fr.of k6), ?_, ?_⟩
      · refine b_append 3 rfl (ls_mono lf5 k6) (ev_v 7 rfl (.int _)) pns_tup rfl (by rw [List.length_map, List.length_append]; omega) fun H7 s7 l7 => ?_
        have f7 : Fr [qf, qw] H6 H7 := Fr.ofB s7 (ls_mono lf5 k6).some (by simp)
        have lw7 := ls_keep (ls_mono lw5 k6) (ls_mono lf5 k6).some (Ne.symm hne) s7 ties_tup
        refine b_append 4 rfl lw7 (ev_tup (eva2 (ev_v 7 rfl (.int _)) (ev_v 5 rfl (.int _)))) ties_tup rfl (by rw [List.length_map, List.length_append, List.length_map]; omega) fun H8 s8 l8 => bw_nil (bw_nil ⟨_, rfl, ((fr.trans (Fr.of k6)).trans f7).trans (Fr.ofB s8 lw7.some (by simp)), ?_, ?_⟩)
        · have := ls_keep l7 lw7.some hne s8 pns_tup1
          rw [htk, List.filter_append, List.filter_cons_of_pos (by exact hb1), List.filter_nil, ← List.append_assoc, List.map_append]
          exact this
        · rw [htk, List.filter_append, List.filter_cons_of_pos (by exact hb1), List.filter_nil, List.map_append (l₁ := List.filter _ _), ← List.append_assoc, List.map_append (l₁ := vs ++ _)]
          exact l8
      · rw [htk, List.filter_append, List.filter_cons_of_neg (by rw [hb1]; decide), List.filter_nil, List.append_nil]
        exact ls_mono lf5 k6
      · rw [htk, List.filter_append, List.filter_cons_of_neg (by rw [hb1]; decide), List.filter_nil, List.append_nil]
        exact ls_mono lw5 k6
    · rintro σ' H' ⟨o7, rfl, fr, lf5, lw5⟩
      rw [List.length_map, List.take_length] at lf5 lw5
      refine bw_nil ⟨wsum n (near ts) (vs ++ (gnew (near ts) u.1 u.2).map fun b => (b, u.1)), by omega, _, _, _, _, _, rfl, rfl, fr.to (k4.trans k5) ?_, lf5, lw5, okn, f - 1, by omega, by omega, ?_⟩
      · intro d hd
        rcases List.mem_cons.mp hd with rfl | hd
        · exact nf
        · rw [List.mem_singleton.mp hd]; exact nw0
      · rw [← ef, show f = (f - 1) + 1 by omega]
        conv => rhs; unfold gsF
        rw [he, List.dropLast_concat]
        rfl
end
end SO
set_option Elab.async false
set_option linter.all false
set_option maxRecDepth 100000
set_option maxHeartbeats 4000000
/-! So30: the walks of bags find the sides; what hangs together; forgotten. -/
namespace SO
open PySem PySem.Spec PyProof.Rows L2
section
variable {n root : Nat} {par rk : Nat → Nat} {nr : List (List Nat)}
def nbOf (nr : List (List Nat)) (i : Nat) : List Nat := nr.getD i []
theorem nrOk {nr : List (List Nat)} (hl : nr.length ≤ 12) (T : RTree nr.length root par rk (nbOf nr)) : NrOk nr := ⟨hl, fun l hm => by
  obtain ⟨i, hi, e⟩ := List.getElem_of_mem hm
  have e2 : nbOf nr i = l := by unfold nbOf; rw [List.getD_eq_getElem?_getD, List.getElem?_eq_getElem hi, e]; rfl
  rw [← e2]
  exact ⟨T.nd i, fun m h => ((T.nbs i m).mp h).2.1⟩⟩
structure BfsOk (nr : List (List Nat)) (i j : Nat) (found : List Nat) (a : Nat) : Prop where
  nm : Nm nr.length found
  has : i ∈ found
  sub : ∀ x ∈ found, x ∈ side nr.length (nbOf nr) i j
  shut : ∀ k, k < a → ∀ x, found[k]? = some x → ∀ y ∈ nbOf nr x, ¬(x = i ∧ y = j) → y ∈ found
theorem bfs_step (hl : NrOk nr) (T : RTree nr.length root par rk (nbOf nr)) {i j a : Nat} {found : List Nat} (hj : j ∈ nbOf nr i) (h : BfsOk nr i j found a) (ha : a < found.length) : BfsOk nr i j (found ++ bnew nr i j found a) (a + 1) := by
  have hx : found[a]? = some (found.getD a 0) := getD_len ha
  refine ⟨bnew_nm hl h.nm, List.mem_append_left _ h.has, fun x hxm => ?_, fun k hk x hk2 y hy hne => ?_⟩
  · rcases List.mem_append.mp hxm with hm | hm
    · exact h.sub x hm
    · obtain ⟨h1, h2⟩ := List.mem_filter.mp hm
      simp at h2
      have h3 := h.sub _ (List.mem_of_getElem? hx)
      rcases side_closed T i j hj _ h3 x h1 with h4 | ⟨h4, h5⟩
      · exact h4
      · have h6 := h2.2
        rw [List.getD_eq_getElem?_getD] at h4
        exact (h6.resolve_left fun z => z h4) h5 |>.elim
  · by_cases e : k = a
    · subst e
      rw [List.getElem?_append_left ha, hx] at hk2
      cases hk2
      by_cases hm : y ∈ found
      · exact List.mem_append_left _ hm
      · refine List.mem_append_right _ (List.mem_filter.mpr ⟨hy, ?_⟩)
        simp [hm]
        rw [← List.getD_eq_getElem?_getD]
        by_cases z : found.getD k 0 = i
        · exact .inr fun w => hne ⟨z, w⟩
        · exact .inl z
    · rw [List.getElem?_append_left (by omega)] at hk2
      exact List.mem_append_left _ (h.shut k (by omega) x hk2 y hy hne)
theorem bfs_end (hl : NrOk nr) (T : RTree nr.length root par rk (nbOf nr)) {i j : Nat} (hj : j ∈ nbOf nr i) : ∀ (f a : Nat) (found : List Nat), f + a = nr.length → BfsOk nr i j found a → BfsOk nr i j (sideF nr i j f found a) (sideF nr i j f found a).length
  | 0, a, found, hf, h => by
    have := h.nm.few
    refine ⟨h.nm, h.has, h.sub, fun k hk => h.shut k ?_⟩
    simp only [sideF] at hk
    omega
  | f + 1, a, found, hf, h => by
    unfold sideF
    by_cases ha : a < found.length
    · rw [if_pos ha]
      exact bfs_end hl T hj f (a + 1) _ (by omega) (bfs_step hl T hj h ha)
    · rw [if_neg ha]
      exact ⟨h.nm, h.has, h.sub, fun k hk => h.shut k (by omega)⟩
theorem sideOf_mem (hl : NrOk nr) (T : RTree nr.length root par rk (nbOf nr)) {i j : Nat} (hj : j ∈ nbOf nr i) : ∀ x, x ∈ sideOf nr i j ↔ x ∈ side nr.length (nbOf nr) i j := by
  have hi := ((T.nbs i j).mp hj).1
  have R := bfs_end hl T hj nr.length 0 [i] (by omega) ⟨⟨by simp, by simpa using hi⟩, by simp, fun x hx => by rw [List.mem_singleton.mp hx]; exact side_self T hj, fun k hk => by omega⟩
  have shut : ∀ x ∈ sideOf nr i j, ∀ y ∈ nbOf nr x, ¬(x = i ∧ y = j) → y ∈ sideOf nr i j := fun x hx y hy hne => by
    obtain ⟨k, hk, e⟩ := List.getElem_of_mem hx
    exact R.shut k hk x (by rw [← e]; exact List.getElem?_eq_getElem hk) y hy hne
  intro x
  refine ⟨fun h => R.sub x h, fun h => ?_⟩
  have key : ∀ a b, b ∈ nbOf nr a → a ∈ sideOf nr i j → ((a = i ∧ b = j) ∨ i ∉ side nr.length (nbOf nr) a b) → ∀ x ∈ side nr.length (nbOf nr) a b, x ∈ sideOf nr i j := side_ind T (M := fun a b => a ∈ sideOf nr i j → ((a = i ∧ b = j) ∨ i ∉ side nr.length (nbOf nr) a b) → ∀ x ∈ side nr.length (nbOf nr) a b, x ∈ sideOf nr i j) fun a b hb ih ha hor x hx => by
    rcases (mem_side T hb).mp hx with rfl | ⟨k, hk, hne, hx⟩
    · exact ha
    · refine ih k hk hne (shut a ha k hk fun z => ?_) (.inr fun z => ?_) x hx
      · rcases hor with ⟨h1, h2⟩ | h
        · exact hne (z.2.trans h2.symm)
        · exact h (z.1 ▸ side_self T hb)
      · rcases hor with ⟨h1, h2⟩ | h
        · subst h1
          exact side_out T hk z
        · exact h (side_sub T hb hk hne z)
  exact key i j hj R.has (.inl ⟨rfl, rfl⟩) x h
end
/-! ### what hangs together -/
structure HgOk (ts : List Tie) (sm seen : List Nat) (a : Nat) : Prop where
  sub : Sub sm seen
  has : sm.getD 0 0 ∈ seen
  shut : ∀ k, k < a → ∀ x, seen[k]? = some x → ∀ y ∈ near ts x, y ∈ sm → y ∈ seen
theorem hg_step {ts : List Tie} {sm seen : List Nat} {a : Nat} (hn : ∀ i, (near ts i).Nodup) (h : HgOk ts sm seen a) (ha : a < seen.length) : HgOk ts sm (seen ++ hnew ts sm seen a) (a + 1) := by
  have hx : seen[a]? = some (seen.getD a 0) := getD_len ha
  refine ⟨hnew_sub hn h.sub, List.mem_append_left _ h.has, fun k hk x hk2 y hy hs => ?_⟩
  by_cases e : k = a
  · subst e
    rw [List.getElem?_append_left ha, hx] at hk2
    cases hk2
    by_cases hm : y ∈ seen
    · exact List.mem_append_left _ hm
    · exact List.mem_append_right _ (List.mem_filter.mpr ⟨hy, by simp [hm, hs]⟩)
  · rw [List.getElem?_append_left (by omega)] at hk2
    exact List.mem_append_left _ (h.shut k (by omega) x hk2 y hy hs)
theorem hg_end {ts : List Tie} {sm : List Nat} (hn : ∀ i, (near ts i).Nodup) : ∀ (f a : Nat) (seen : List Nat), f + a = sm.length → HgOk ts sm seen a → HgOk ts sm (hangF ts sm f seen a) (hangF ts sm f seen a).length
  | 0, a, seen, hf, h => by
    have := sub_len h.sub
    refine ⟨h.sub, h.has, fun k hk => h.shut k ?_⟩
    simp only [hangF] at hk
    omega
  | f + 1, a, seen, hf, h => by
    unfold hangF
    by_cases ha : a < seen.length
    · rw [if_pos ha]
      exact hg_end hn f (a + 1) _ (by omega) (hg_step hn h ha)
    · rw [if_neg ha]
      exact ⟨h.sub, h.has, fun k hk => h.shut k (by omega)⟩
/-- names' bags with a top hang together -/
theorem hangs_top {ts : List Tie} {sm : List Nat} {par rk : Nat → Nat} {top : Nat} (hn : ∀ i, (near ts i).Nodup) (hd : sm.Nodup) (ht : top ∈ sm) (hp : ∀ x ∈ sm, x ≠ top → par x ∈ sm ∧ par x ∈ near ts x ∧ rk (par x) < rk x) : hangs ts sm = true := by
  cases sm with
  | nil => rfl
  | cons s0 ss =>
    have R := hg_end (sm := s0 :: ss) hn (s0 :: ss).length 0 [s0] (by omega) ⟨⟨by simp, fun n hn => by rw [List.mem_singleton.mp hn]; simp⟩, by simp, fun k hk => by omega⟩
    generalize hr : hangF ts (s0 :: ss) (s0 :: ss).length [s0] 0 = r at R
    have shut : ∀ x ∈ r, ∀ y ∈ near ts x, y ∈ s0 :: ss → y ∈ r := fun x hx y hy hs => by
      obtain ⟨k, hk, e⟩ := List.getElem_of_mem hx
      exact R.shut k hk x (by rw [← e]; exact List.getElem?_eq_getElem hk) y hy hs
    have h0 : s0 ∈ r := R.has
    have sym : ∀ x y, y ∈ near ts x → x ∈ near ts y := fun x y h => by
      rw [near_mem] at *
      exact h.symm
    have htop : top ∈ r := by
      suffices s : ∀ m x, rk x ≤ m → x ∈ r → x ∈ s0 :: ss → top ∈ r from s _ s0 (Nat.le_refl _) h0 (by simp)
      intro m
      induction m with
      | zero =>
        intro x hm hx hs
        by_cases e : x = top
        · exact e ▸ hx
        · have := (hp x hs e).2.2; omega
      | succ m ih =>
        intro x hm hx hs
        by_cases e : x = top
        · exact e ▸ hx
        · obtain ⟨h1, h2, h3⟩ := hp x hs e
          exact ih (par x) (by omega) (shut x hx _ h2 h1) h1
    have all : ∀ x ∈ s0 :: ss, x ∈ r := by
      suffices s : ∀ m x, rk x ≤ m → x ∈ s0 :: ss → x ∈ r from fun x hx => s _ x (Nat.le_refl _) hx
      intro m
      induction m with
      | zero =>
        intro x hm hs
        by_cases e : x = top
        · exact e ▸ htop
        · have := (hp x hs e).2.2; omega
      | succ m ih =>
        intro x hm hs
        by_cases e : x = top
        · exact e ▸ htop
        · obtain ⟨h1, h2, h3⟩ := hp x hs e
          exact shut _ (ih (par x) (by omega) h1) x (sym _ _ h2) hs
    have l1 := sub_len R.sub
    have l2 := sub_len (show Sub r (s0 :: ss) from ⟨hd, all⟩)
    unfold hangs
    rw [List.getD_cons_zero, hr, Bool.or_eq_true]
    exact .inr (decide_eq_true (by omega))
/-! ### forgotten -/
def anyIn (touched l : List Nat) : Bool := l.any fun b => decide (b ∈ touched)
def b2n (b : Bool) : Nat := if b then 1 else 0
def forg (ts : List Tie) (n : Nat) (touched : List Nat) : List Tie → Nat
  | [] => 0
  | t :: r => b2n (anyIn touched (gside (near ts) n t.1 t.2)) + b2n (anyIn touched (gside (near ts) n t.2 t.1)) + forg ts n touched r
theorem forg_snoc {ts : List Tie} {n : Nat} {touched : List Nat} {t : Tie} : ∀ {r : List Tie}, forg ts n touched (r ++ [t]) = forg ts n touched r + b2n (anyIn touched (gside (near ts) n t.1 t.2)) + b2n (anyIn touched (gside (near ts) n t.2 t.1))
  | [] => by simp [forg]
  | u :: r => by
    rw [List.cons_append, forg, forg_snoc, forg]
    omega
end SO
set_option Elab.async false
set_option linter.all false
set_option maxRecDepth 100000
set_option maxHeartbeats 4000000
/-! So31: forgotten; gfar; order-free law helpers. -/
namespace SO
open PySem PySem.Spec PyProof.Rows L2
theorem gs_len {n root : Nat} {par rk : Nat → Nat} {nb : Nat → List Nat} (T : RTree n root par rk nb) {i j : Nat} : ∀ (f : Nat) (found : List Nat) (ws : List Tie), GsOk n nb i j found ws → (gsF nb f found ws).length ≤ (side n nb i j).length
  | 0, found, ws, h => by
    have := wsum_pos T h.tie
    have := h.len
    simp only [gsF]
    omega
  | f + 1, found, ws, h => by
    unfold gsF
    cases e : ws.getLast? with
    | none =>
      have := wsum_pos T h.tie
      have := h.len
      show found.length ≤ _
      omega
    | some u =>
      obtain ⟨vs, rfl⟩ := List.getLast?_eq_some_iff.mp e
      have hs := gs_step T h
      show (gsF nb f _ _).length ≤ _
      rw [List.dropLast_concat]
      exact gs_len T f _ _ hs
theorem gside_len {n root : Nat} {par rk : Nat → Nat} {nb : Nat → List Nat} (T : RTree n root par rk nb) (hn : n ≤ 1000) {i j : Nat} (hj : j ∈ nb i) : (gside nb n i j).length ≤ 100000 := by
  have h1 := gs_len T n _ _ (gs_begin T hj)
  have h2 := side_few T hj
  unfold gside
  omega
section
variable {P : Program} {w : World} {K : PySem.W.Frag} {mg : Str → Option Value} {base : Heap}
def rForg (ds : List D0) (d : D0) : Prop := ∃ (t : TreeD) (touched : List Nat) (n root : Nat) (par rk : Nat → Nat), ds = [treeD t, .list (touched.map pn)] ∧ t.2.length < 64 ∧ n ≤ 1000 ∧ RTree n root par rk (near t.2) ∧ d = pn (forg t.2 n touched t.2)
theorem cal_g_forgotten (C : Ctx K mg) : C8.Cal P w K mg base 3 "_law_gforgotten" (spP K rForg) [] := by
  refine cal_of (k := 2) C.h_g_forgotten c_g_forgotten (spP_len fun ds d ⟨_, _, _, _, _, _, h, _⟩ => by rw [h]; rfl) fun cdv A outer s H vs Q E hr ⟨ds, d, r, ⟨t, tch, n, root, par, rk, e1, htl, hn, T, e2⟩, q⟩ => ?_
  subst e1; subst e2
  obtain ⟨v1, v2, rfl, r1, r2⟩ := dpa2 r
  have nd := c_g_forgotten.nd
  refine b_setv 2 nd ev_int fun v3 H1 k1 r3 => ?_
  rw [dp_int r3]
  refine b_forT (g_two 3 4 rfl nd) rfl (ev_ixT (ev_v 0 rfl (dp_mono k1 r1)) ev_int (at_nat (n := 1) rfl)) fun a xs H2 k2 ha hx => ⟨fun i σ' H' => ∃ o3 o4 o5 o6, σ' = [some v1, some v2, some (.int (forg t.2 n tch (t.2.take i) : Nat)), o3, o4, o5, o6, none] ∧ Same H2 H', ⟨none, none, none, none, rfl, Same.refl _⟩, fun i σ' H' ⟨_, _, _, _, _, k⟩ => sqT_mono k ha, ?_, ?_⟩
  · rintro i d v σ' H' hd hv rv ⟨o3, o4, o5, o6, rfl, k3⟩
    rw [List.getElem?_map] at hd
    obtain ⟨u, hu, rfl⟩ := Option.map_eq_some_iff.mp hd
    have hmem := List.mem_of_getElem? hu
    have htk : t.2.take (i + 1) = t.2.take i ++ [u] := by rw [List.take_succ, hu]; rfl
    refine g2_go (dp_mono k3 rv) fun w1 w2 q1 q2 => ?_
    rw [dp_int q1, dp_int q2]
    refine b_forL (ds := [(u.1, u.2), (u.2, u.1)].map tieD) (g_two 5 6 rfl nd) rfl (Ev.to (EvL.ev (evl_lst (eva2 (ev_tup (eva2 (ev_v 3 rfl (.int _)) (ev_v 4 rfl (.int _)))) (ev_tup (eva2 (ev_v 4 rfl (.int _)) (ev_v 3 rfl (.int _))))))) rfl) fun b ys H4 k4 hb hy => ⟨fun m σ' H' => ∃ o5 o6, σ' = [some v1, some v2, some (.int ((forg t.2 n tch (t.2.take i) + (([(u.1, u.2), (u.2, u.1)].take m).map fun e => b2n (anyIn tch (gside (near t.2) n e.1 e.2))).sum : Nat) : Int)), some (.int u.1), some (.int u.2), o5, o6, none] ∧ Same H4 H', ⟨o5, o6, rfl, Same.refl _⟩, fun i σ' H' ⟨_, _, _, k⟩ => k.seq hb, ?_, ?_⟩
    · rintro m d v σ' H' hd hv rv ⟨o5, o6, rfl, k5⟩
      rw [List.getElem?_map] at hd
      obtain ⟨e, he, rfl⟩ := Option.map_eq_some_iff.mp hd
      have hem : e = (u.1, u.2) ∨ e = (u.2, u.1) := by simpa using List.mem_of_getElem? he
      have hnb : e.2 ∈ near t.2 e.1 := by
        rw [near_mem]
        rcases hem with rfl | rfl
        · exact .inl hmem
        · exact .inr hmem
      have kk := (((k1.trans k2).trans k3).trans k4).trans k5
      refine g2_go (dp_mono k5 rv) fun w3 w4 q3 q4 => ?_
      rw [dp_int q3, dp_int q4]
      refine b_setv 2 nd (ev_add (ev_v 2 rfl (.int _)) (ev_intB C.m_int (ev_anyM (xs := gside (near t.2) n e.1 e.2) (f := fun b => decide (b ∈ tch)) rfl C.m_any (EvL.ev (evl_lc (lcv_L (xs := gside (near t.2) n e.1 e.2) (enc := pn) (f := fun b => .bool (decide (b ∈ tch))) [("bag", 7)] 7 rfl nd (EvL.ev (evl_call (cal_g_side C) hr (by decide) (eva3 (ev_ixT (ev_v 0 rfl (dp_mono kk r1)) ev_int (at_nat (n := 1) rfl)) (ev_v 5 rfl (.int _)) (ev_v 6 rfl (.int _))) ⟨t.2, n, root, par, rk, e.1, e.2, rfl, htl, hn, T, hnb, rfl⟩)) (blkOk_by (N := n_g_forgotten) (sc := defScope s_g_forgotten) (by decide +kernel)) ?_ (fun _ _ => rfl) fun a ha v H7 k7 r7 => ?_)))))) fun v8 H8 k8 r8 => bw_nil ⟨some (.int e.1), some (.int e.2), ?_, k5.trans k8⟩
      · exact gside_len T hn hnb
      · intro s' H0 C' cl fp
        exact ev_inL (ev_v 7 rfl r7) (ev_v 1 rfl (dp_mono (kk.trans k7) r2))
      · rw [dp_int r8]
        have htk2 : ([(u.1, u.2), (u.2, u.1)] : List Tie).take (m + 1) = ([(u.1, u.2), (u.2, u.1)] : List Tie).take m ++ [e] := by rw [List.take_succ, he]; rfl
        rw [htk2, List.map_append, List.sum_append]
        have : (if ((gside (near t.2) n e.1 e.2).any fun b => decide (b ∈ tch)) = true then (1 : Int) else 0) = ((b2n (anyIn tch (gside (near t.2) n e.1 e.2)) : Nat) : Int) := by
          unfold b2n anyIn
          split <;> rfl
        rw [this]
        simp only [List.map_cons, List.map_nil, List.sum_cons, List.sum_nil, Nat.add_zero]
        rw [← Nat.add_assoc, Int.natCast_add]
        rfl
    · rintro σ' H' ⟨o5, o6, rfl, k5⟩
      refine bw_nil ⟨some (.int u.1), some (.int u.2), o5, o6, ?_, (k3.trans k4).trans k5⟩
      rw [htk, forg_snoc]
      simp [Nat.add_assoc]
  · rintro σ' H' ⟨o3, o4, o5, o6, rfl, k3⟩
    refine b_retv (ev_v 2 rfl (.int _)) fun v4 H4 k4 r4 => q v4 H4 (((k1.trans k2).trans k3).trans k4) ?_
    rw [List.length_map, List.take_length] at r4
    exact r4
end
end SO
set_option Elab.async false
set_option linter.all false
set_option maxRecDepth 100000
set_option maxHeartbeats 4000000
/-! So32: the keeper in the heap; fields, dicts, methods. -/
namespace SO
open PySem PySem.Spec PyProof.Rows L2
/-- the heap without what changes -/
def mask (M : List Addr) (H : Hp) : Hp := fun b => if b ∈ M then none else H b
def Wl (M : List Addr) (B H : Hp) : Prop := ∀ b o, b ∉ M → B b = some o → H b = some o
theorem Wl.same {M : List Addr} {B H : Hp} (h : Wl M B H) : Same (mask M B) H := fun b o hb => by
  unfold mask at hb
  split at hb
  · cases hb
  · exact h b o (by assumption) hb
theorem Wl.dp {K : PySem.W.Frag} {M : List Addr} {B H : Hp} {v : V} {d : D0} (h : Wl M B H) (r : Dp K (mask M B) v d) : Dp K H v d := dp_mono h.same r
theorem Wl.fr {M D : List Addr} {B H H' : Hp} (h : Wl M B H) (k : Fr D H H') (hd : ∀ d ∈ D, d ∈ M ∨ B d = none) : Wl M B H' := fun b o n e => k.same b o (fun z => by
  rcases hd b z with z | z
  · exact n z
  · rw [z] at e; cases e) (h b o n e)
inductive Chg | part (k : Nat) (ws : List Int) | name (n : Nat) (u : Option Nat)
def optD : Option Nat → D0
  | none => .none
  | some u => pn u
def chgD : Chg → D0
  | .part k ws => .tuple [.str "part", pn k, pis ws]
  | .name n u => .tuple [.str "name", pn n, optD u]
structure Kc where
  a : Addr
  dx : Addr
  pa : Addr
  wa : Addr
  ka : Addr
  ca : Addr
  wd : Wd
  sz : List Nat
  bags : List (List Nat)
  nr : List (List Nat)
  laid : List Nat
  vsz : V
  vbags : V
  vnear : V
  vlaid : V
  M : List Addr
  B : Hp
structure KS where
  parts : List Part
  ws : List (Nat × Nat)
  known : List (Tie × Part)
  many : Nat
  changes : List Chg
def kfs (c : Kc) (m : Nat) : List (Str × V) := [("word", .str c.wd.str), ("sizes", c.vsz), ("parts", .ref c.pa), ("bags", c.vbags), ("near", c.vnear), ("laid", c.vlaid), ("worths", .ref c.wa), ("known", .ref c.ka), ("many", .int m), ("changes", .ref c.ca)]
def tk (t : Tie) : List L2.Key := [Sum.inl (t.1 : Int), Sum.inl (t.2 : Int)]
def KnR (K : PySem.W.Frag) (H : Hp) (kv : List L2.Key × V) (e : Tie × Part) : Prop := kv.1 = tk e.1 ∧ Dp K H kv.2 (pp e.2)
structure KAt (K : PySem.W.Frag) (c : Kc) (H : Hp) (st : KS) : Prop where
  obj : H c.a = some (.ins (kC K) c.dx (kfs c st.many))
  parts : Ls K H c.pa (st.parts.map pp)
  worths : H c.wa = some (.dK (st.ws.map fun e => (Sum.inl (e.1 : Int), V.int (e.2 : Int))))
  known : ∃ kvs, H c.ka = some (.dT kvs) ∧ Paired (KnR K H) kvs st.known
  changes : Ls K H c.ca (st.changes.map chgD)
  wl : Wl c.M c.B H
structure Kst (K : PySem.W.Frag) (c : Kc) : Prop where
  sz : Dp K (mask c.M c.B) c.vsz (pns c.sz)
  bags : Dp K (mask c.M c.B) c.vbags (bagsD c.bags)
  near : Dp K (mask c.M c.B) c.vnear (nearsD c.nr)
  laid : Dp K (mask c.M c.B) c.vlaid (.list (c.laid.map pn))
  subA : c.a ∈ c.M
  subP : c.pa ∈ c.M
  subW : c.wa ∈ c.M
  subK : c.ka ∈ c.M
  subC : c.ca ∈ c.M
  nePC : c.pa ≠ c.ca
def Kc.own (c : Kc) : List Addr := [c.a, c.pa, c.wa, c.ka, c.ca]
theorem pp_tups {ps : List Part} : tupOnlyL (ps.map pp) = true := tupOnlyL_iff.mpr fun d hd => by
  obtain ⟨n, _, rfl⟩ := List.mem_map.mp hd
  exact tup_pp
theorem chg_tup {g : Chg} : tupOnly (chgD g) = true := by
  cases g with
  | part k ws => simp [chgD, tupOnly, tupOnlyL, tup_pis]
  | name n u => cases u <;> rfl
theorem chg_tups {gs : List Chg} : tupOnlyL (gs.map chgD) = true := tupOnlyL_iff.mpr fun d hd => by
  obtain ⟨n, _, rfl⟩ := List.mem_map.mp hd
  exact chg_tup
theorem knR_tp {K : PySem.W.Frag} {H H' : Hp} (t : Tp H H') : ∀ {kvs : List (List L2.Key × V)} {kn : List (Tie × Part)}, Paired (KnR K H) kvs kn → Paired (KnR K H') kvs kn
  | _, _, .nil => .nil
  | _, _, .cons h r => .cons ⟨h.1, dp_tp t tup_pp h.2⟩ (knR_tp t r)
section
variable {K : PySem.W.Frag} {c : Kc} {H H' : Hp} {st : KS}
theorem KAt.mono (h : KAt K c H st) (k : Same H H') : KAt K c H' st := by
  obtain ⟨kvs, h1, h2⟩ := h.known
  exact ⟨k _ _ h.obj, ls_mono h.parts k, k _ _ h.worths, ⟨kvs, k _ _ h1, knR_tp (tp_same k) h2⟩, ls_mono h.changes k, fun b o n e => k _ _ (h.wl b o n e)⟩
theorem KAt.fr {D : List Addr} (h : KAt K c H st) (k : Fr D H H') (hd : ∀ d ∈ D, d ∉ c.own) (hm : ∀ d ∈ D, d ∈ c.M ∨ c.B d = none) : KAt K c H' st := by
  obtain ⟨kvs, h1, h2⟩ := h.known
  have n : ∀ d ∈ c.own, d ∉ D := fun d h1 h2 => hd d h2 h1
  exact ⟨k.same _ _ (n _ (by simp [Kc.own])) h.obj, ls_fr h.parts k (n _ (by simp [Kc.own])) pp_tups, k.same _ _ (n _ (by simp [Kc.own])) h.worths, ⟨kvs, k.same _ _ (n _ (by simp [Kc.own])) h1, knR_tp k.tp h2⟩, ls_fr h.changes k (n _ (by simp [Kc.own])) chg_tups, h.wl.fr k hm⟩
theorem Kst.dsz (s : Kst K c) (h : KAt K c H st) : Dp K H c.vsz (pns c.sz) := h.wl.dp s.sz
theorem Kst.dbags (s : Kst K c) (h : KAt K c H st) : Dp K H c.vbags (bagsD c.bags) := h.wl.dp s.bags
theorem Kst.dnear (s : Kst K c) (h : KAt K c H st) : Dp K H c.vnear (nearsD c.nr) := h.wl.dp s.near
theorem Kst.dlaid (s : Kst K c) (h : KAt K c H st) : Dp K H c.vlaid (.list (c.laid.map pn)) := h.wl.dp s.laid
end
section
variable {X : Cx} {e o i value : Expr} {es : List Expr} {σ : L2.St} {H : Hp} {sts : List Stmt} {pos pos' p apos cpos : Pos} {d : D0} {D : Ends} {x f m : Str} {Q : VK} {c : Kc} {st : KS} {k j : Nat} {sp : Sp}
/-- x.f of an instance in a name -/
theorem ew_f (n : Nat) {a C dx : Addr} {fs : List (Str × V)} {v : V} (hs : σ[n]? = some (some (.ref a))) (ho : H a = some (.ins C dx fs)) (cl : Cls X.K C) (na : NoAttr X.K C f) (hf : fs.lookup f = some v) (q : Q v H) (hN : X.N[n]? = some x := by rfl) (hv : Vis X.env.scope x := by first | exact Or.inl rfl | exact Or.inr (Or.inl rfl) | exact Or.inr (Or.inr rfl)) (hdb : (x == ("__debug__" : Str)) = false := by decide)
    (hcd : (x == ("__classdict__" : Str)) = false := by decide) (hb : attributeBase (.Name x p) f X.env (eval (.Name x p) X.env) = eval (.Name x p) X.env := by rfl) : EW X (.Attribute (.Name x p) f pos) σ H Q :=
  ew_fld (ew_v n hs ⟨a, C, dx, fs, v, rfl, ho, cl, na, hf, q⟩ hN hv hdb hcd) hb
theorem ev_f (n : Nat) {a C dx : Addr} {fs : List (Str × V)} {v : V} (hs : σ[n]? = some (some (.ref a))) (ho : H a = some (.ins C dx fs)) (cl : Cls X.K C) (na : NoAttr X.K C f) (hf : fs.lookup f = some v) (r : Dp X.K H v d) (hN : X.N[n]? = some x := by rfl) (hv : Vis X.env.scope x := by first | exact Or.inl rfl | exact Or.inr (Or.inl rfl) | exact Or.inr (Or.inr rfl)) (hdb : (x == ("__debug__" : Str)) = false := by decide)
    (hcd : (x == ("__classdict__" : Str)) = false := by decide) (hb : attributeBase (.Name x p) f X.env (eval (.Name x p) X.env) = eval (.Name x p) X.env := by rfl) : Ev X (.Attribute (.Name x p) f pos) σ H d := fun H1 k =>
  ew_f n hs (k _ _ ho) cl na hf ⟨Same.refl _, dp_mono k r⟩ hN hv hdb hcd hb
/-- the value itself, heap kept -/
def Er (X : Cx) (e : Expr) (σ : L2.St) (H : Hp) (v : V) : Prop := ∀ H1, Same H H1 → EW X e σ H1 fun u H2 => Same H1 H2 ∧ u = v
theorem er_f (n : Nat) {a C dx : Addr} {fs : List (Str × V)} {v : V} (hs : σ[n]? = some (some (.ref a))) (ho : H a = some (.ins C dx fs)) (cl : Cls X.K C) (na : NoAttr X.K C f) (hf : fs.lookup f = some v) (hN : X.N[n]? = some x := by rfl) (hv : Vis X.env.scope x := by first | exact Or.inl rfl | exact Or.inr (Or.inl rfl) | exact Or.inr (Or.inr rfl)) (hdb : (x == ("__debug__" : Str)) = false := by decide)
    (hcd : (x == ("__classdict__" : Str)) = false := by decide) (hb : attributeBase (.Name x p) f X.env (eval (.Name x p) X.env) = eval (.Name x p) X.env := by rfl) : Er X (.Attribute (.Name x p) f pos) σ H v := fun H1 k =>
  ew_f n hs (k _ _ ho) cl na hf ⟨Same.refl _, rfl⟩ hN hv hdb hcd hb
theorem er_v (n : Nat) {v : V} (hs : σ[n]? = some (some v)) (hN : X.N[n]? = some x := by rfl) (hv : Vis X.env.scope x := by first | exact Or.inl rfl | exact Or.inr (Or.inl rfl) | exact Or.inr (Or.inr rfl)) (hdb : (x == ("__debug__" : Str)) = false := by decide)
    (hcd : (x == ("__classdict__" : Str)) = false := by decide) : Er X (.Name x p) σ H v := fun H1 k => ew_v n hs ⟨Same.refl _, rfl⟩ hN hv hdb hcd
/-! ### dicts -/
theorem room_in {k : Nat} {A : Around} (hr : Room k A) : A.units + 1 < cLine := by have := hr.un; omega
/-- y in d / y not in d, y a whole number -/
theorem tv_dinK {kvs : List (L2.Key × V)} {a : Addr} {n : Int} {k : Nat} (hr : Room k X.A) (he : Ev X e σ H (.int n)) (ho : Er X o σ H (.ref a)) (hd : H a = some (.dK kvs)) (hm : behindInMarks .In o = false := by rfl) : Tv X (.Compare e [.In] [o] pos) σ H (valV kvs (Sum.inl n)).isSome := fun H1 k1 =>
  tw_pt (pt_cmp (pc_din (room_in hr) pe_ew pe_ew) hm) (show EW X e σ H1 _ from (he H1 k1).mono fun y H2 ⟨k2, r⟩ => (ho H2 (k1.trans k2)).mono fun u H3 ⟨k3, eu⟩ => by
    subst eu
    rw [dp_int r]
    exact ⟨a, _, rfl, DGet.k (k := Sum.inl n) (k3 _ _ (k2 _ _ (k1 _ _ hd))), _, rfl, k2.trans k3, rfl⟩)
theorem tv_dnotinK {kvs : List (L2.Key × V)} {a : Addr} {n : Int} {k : Nat} (hr : Room k X.A) (he : Ev X e σ H (.int n)) (ho : Er X o σ H (.ref a)) (hd : H a = some (.dK kvs)) (hm : behindInMarks .NotIn o = false := by rfl) : Tv X (.Compare e [.NotIn] [o] pos) σ H (!(valV kvs (Sum.inl n)).isSome) := fun H1 k1 =>
  tw_pt (pt_cmp (pc_dnotin (room_in hr) pe_ew pe_ew) hm) (show EW X e σ H1 _ from (he H1 k1).mono fun y H2 ⟨k2, r⟩ => (ho H2 (k1.trans k2)).mono fun u H3 ⟨k3, eu⟩ => by
    subst eu
    rw [dp_int r]
    exact ⟨a, _, rfl, DGet.k (k := Sum.inl n) (k3 _ _ (k2 _ _ (k1 _ _ hd))), _, rfl, k2.trans k3, rfl⟩)
/-- d[n] -/
theorem ev_dgetK {kvs : List (L2.Key × V)} {a : Addr} {n : Int} {k : Nat} {v : V} (hr : Room k X.A) (ho : Er X o σ H (.ref a)) (he : Ev X e σ H (.int n)) (hd : H a = some (.dK kvs)) (hv : valV kvs (Sum.inl n) = some v) (r0 : Dp X.K H v d) (hs : NoSl e := by exact fun _ _ => rfl) : Ev X (.Subscript o e pos) σ H d := fun H1 k1 =>
  ew_pe (pe_dget (room_in hr) pe_ew pe_ew hs) (show EW X o σ H1 _ from (ho H1 k1).mono fun u H2 ⟨k2, eu⟩ => (he H2 (k1.trans k2)).mono fun y H3 ⟨k3, r⟩ => by
    subst eu
    rw [dp_int r]
    have := DGet.k (k := Sum.inl n) (k3 _ _ (k2 _ _ (k1 _ _ hd)))
    rw [hv] at this
    exact ⟨a, v, rfl, this, k2.trans k3, dp_mono ((k1.trans k2).trans k3) r0⟩)
/-! ### methods of own classes -/
theorem ew_mt {C a dx : Addr} {fs : List (Str × V)} (c : C8.Met X.prog X.w X.K X.mg X.base k C m sp []) (hr : Room j X.A) (hk : k ≤ j) (ho : EW X o σ H fun u H1 => u = .ref a ∧ H1 a = some (.ins C dx fs) ∧ AW X (e :: es) σ H1 fun vs H2 => sp (.ref a :: vs) H2 Q E0) (hf : fs.lookup m = none := by rfl)
    {pl : Sem Bool} (hst : starEach (e :: es) X.env = (false, eval e X.env) :: starEach es X.env := by rfl) (hpl : (backTo pos (starEach es X.env)).any (·.1) = false := by rfl)
    (ht : eval (.Call (.Attribute o m apos) (e :: es) [] pos) X.env = (do
      let ov ← eval o X.env
      standAt apos.atName
      let (f, first) ← holding [ov] (getMethod ov m pl)
      callWith pos f first (backTo pos (starEach (e :: es) X.env)) (backToKw pos (keywordEach [] X.env))) := by rfl) : EW X (.Call (.Attribute o m apos) (e :: es) [] pos) σ H Q :=
  ew_pe (C8.pe_mt (pl := pl) c hr hk pe_ew pa_aw hst hpl ht) (show EW X o σ H _ from ho.mono fun u H1 ⟨eu, h1, h2⟩ => ⟨a, dx, fs, eu, h1, hf, by
    subst eu
    show AW X (e :: es) σ H1 fun vs H2 => sp (.ref a :: (vs ++ [])) H2 Q E0
    exact h2.mono fun vs H2 h => by rw [List.append_nil]; exact h⟩)
theorem ew_mt0 {C a dx : Addr} {fs : List (Str × V)} (c : C8.Met X.prog X.w X.K X.mg X.base k C m sp []) (hr : Room j X.A) (hk : k ≤ j) (ho : EW X o σ H fun u H1 => u = .ref a ∧ H1 a = some (.ins C dx fs) ∧ sp [.ref a] H1 Q E0) (hf : fs.lookup m = none := by rfl)
    {pl : Sem Bool} (ht : eval (.Call (.Attribute o m apos) [] [] pos) X.env = (do
      let ov ← eval o X.env
      standAt apos.atName
      let (f, first) ← holding [ov] (getMethod ov m pl)
      callWith pos f first (backTo pos (starEach [] X.env)) (backToKw pos (keywordEach [] X.env))) := by rfl) : EW X (.Call (.Attribute o m apos) [] [] pos) σ H Q :=
  ew_pe (C8.pe_mt0 (pl := pl) c hr hk pe_ew ht) (show EW X o σ H _ from ho.mono fun u H1 ⟨eu, h1, h2⟩ => ⟨a, dx, fs, eu, h1, hf, by subst eu; exact h2⟩)
end
end SO
set_option Elab.async false
set_option linter.all false
set_option maxRecDepth 100000
set_option maxHeartbeats 4000000
/-! So33: own. -/
namespace SO
open PySem PySem.Spec PyProof.Rows L2
def wsV (ws : List (Nat × Nat)) : List (L2.Key × V) := ws.map fun e => (Sum.inl (e.1 : Int), V.int (e.2 : Int))
theorem wsV_val (n : Nat) : ∀ ws : List (Nat × Nat), valV (wsV ws) (Sum.inl (n : Int)) = (ws.lookup n).map fun u : Nat => V.int (u : Int)
  | [] => rfl
  | e :: ws => by
    have ih := wsV_val n ws
    show valV ((Sum.inl (e.1 : Int), V.int (e.2 : Int)) :: wsV ws) _ = _
    by_cases h : e.1 = n
    · rw [valV_pos (by simp [h]), List.lookup_cons, beq_iff_eq.mpr h.symm]
      rfl
    · rw [valV_neg (by simp; omega), ih, List.lookup_cons, beq_eq_false_iff_ne.mpr (Ne.symm h)]
abbrev Held := Nat → Option Nat
def held (ws : List (Nat × Nat)) : Held := fun n => ws.lookup n
def sstep (sz : List Nat) (hd : Held) (q : Part) (n : Nat) : Part := match hd n with
  | some u => settledP sz q n u
  | none => q
def ownP (wd : Wd) (sz : List Nat) (bags : List (List Nat)) (laid : List Nat) (parts : List Part) (hd : Held) (i : Nat) : Part :=
  widenedP sz ((allJ wd sz (((parts.zip laid).filter fun x => decide ((x.2 : Int) = (i : Int))).map fun x => x.1)).1.foldl (sstep sz hd) (allJ wd sz (((parts.zip laid).filter fun x => decide ((x.2 : Int) = (i : Int))).map fun x => x.1))) ((bags.getD i []).filter fun n => !(hd n).isSome)
structure HdOk (sz : List Nat) (hd : Held) : Prop where
  lt : ∀ n u, hd n = some u → n < sz.length ∧ u < sz.getD n 0
structure KOk (c : Kc) (parts : List Part) (hd : Held) : Prop where
  sz : SzOk c.sz
  part : ∀ p ∈ parts, PartOk c.sz p
  small : ∀ p ∈ parts, small12 p.2
  few : parts.length ≤ 12
  laid : parts.length = c.laid.length
  rise : ∀ b ∈ c.bags, Rise c.sz.length b
  bags : c.bags.length ≤ 12
  hd : HdOk c.sz hd
theorem small_bits {p : Part} (h : small12 p.2) : Bits 40 p := fun w hw => by
  have := h w hw
  show w.natAbs < 1099511627776
  omega
structure SOk (sz : List Nat) (a : Nat) (p : Part) (hd : Held) (done : List Nat) (q : Part) : Prop where
  part : PartOk sz q
  bits : Bits a q
  names : ∀ n, n ∈ q.1 ↔ n ∈ p.1 ∧ (n ∈ done → hd n = none)
theorem sstep_ok {sz : List Nat} {a : Nat} {p q : Part} {hd : Held} {done : List Nat} {n : Nat} (hz : SzOk sz) (hh : HdOk sz hd) (h : SOk sz a p hd done q) (hn : n ∈ p.1) (hdn : n ∉ done) : SOk sz a p hd (done ++ [n]) (sstep sz hd q n) := by
  have hq : n ∈ q.1 := (h.names n).mpr ⟨hn, fun z => absurd z hdn⟩
  unfold sstep
  cases e : hd n with
  | none =>
    refine ⟨h.part, h.bits, fun m => ?_⟩
    rw [h.names]
    simp only [List.mem_append, List.mem_singleton]
    constructor
    · rintro ⟨h1, h2⟩
      exact ⟨h1, fun z => z.elim h2 fun z => by rw [z]; exact e⟩
    · rintro ⟨h1, h2⟩
      exact ⟨h1, fun z => h2 (.inl z)⟩
  | some u =>
    have hu := hh.lt n u e
    refine ⟨settled_part h.part, settled_bits hz h.part hq hu.2 h.bits, fun m => ?_⟩
    show m ∈ wout q.1 n ↔ _
    rw [wout_mem, h.names]
    simp only [List.mem_append, List.mem_singleton]
    constructor
    · rintro ⟨⟨h1, h2⟩, h3⟩
      exact ⟨h1, fun z => z.elim h2 fun z => absurd z h3⟩
    · rintro ⟨h1, h2⟩
      refine ⟨⟨h1, fun z => h2 (.inl z)⟩, fun z => ?_⟩
      have := h2 (.inr z)
      rw [z, e] at this
      cases this
theorem settle_take {sz : List Nat} {a : Nat} {p : Part} {hd : Held} (hz : SzOk sz) (hh : HdOk sz hd) (hp : PartOk sz p) (hb : Bits a p) : ∀ i, SOk sz a p hd (p.1.take i) ((p.1.take i).foldl (sstep sz hd) p)
  | 0 => ⟨hp, hb, fun n => by simp⟩
  | i + 1 => by
    have ih := settle_take hz hh hp hb i
    cases e : p.1[i]? with
    | none => rw [List.take_succ, e]; simpa using ih
    | some n =>
      rw [List.take_succ, e, List.foldl_append]
      refine sstep_ok hz hh ih (List.mem_of_getElem? e) fun z => ?_
      obtain ⟨j, hj, ej⟩ := List.mem_take_iff_getElem.mp z
      obtain ⟨hi, e2⟩ := List.getElem?_eq_some_iff.mp e
      have h1 := List.pairwise_iff_getElem.mp hp.rise.up j i (by omega) hi (by omega)
      omega
theorem settle_ok {sz : List Nat} {a : Nat} {p : Part} {hd : Held} (hz : SzOk sz) (hh : HdOk sz hd) (hp : PartOk sz p) (hb : Bits a p) : SOk sz a p hd p.1 (p.1.foldl (sstep sz hd) p) := by
  have := settle_take hz hh hp hb p.1.length
  rw [List.take_length] at this
  exact this
theorem zip_map2 {α β γ δ : Type} {f : α → γ} {g : β → δ} {xs : List α} {ys : List β} : (xs.map f).zip (ys.map g) = (xs.zip ys).map fun p => (f p.1, g p.2) := by rw [List.zip_map]; rfl
/-- the parts that are laid in a bag, with their bits -/
def mine (parts : List Part) (laid : List Nat) (i : Nat) : List (Part × Nat) := ((parts.zip laid).filter fun x => decide ((x.2 : Int) = (i : Int))).map fun x => (x.1, 40)
theorem mine_ok {c : Kc} {parts : List Part} {hd : Held} (h : KOk c parts hd) (i : Nat) : JOk c.sz (mine parts c.laid i) := by
  have m : ∀ x ∈ mine parts c.laid i, x.1 ∈ parts ∧ x.2 = 40 := fun x hx => by
    obtain ⟨y, hy, rfl⟩ := List.mem_map.mp hx
    exact ⟨(List.of_mem_zip (List.mem_filter.mp hy).1).1, rfl⟩
  exact ⟨fun x hx => h.part _ (m x hx).1, fun x hx => by rw [(m x hx).2]; exact small_bits (h.small _ (m x hx).1)⟩
theorem bsum_const {a : Nat} : ∀ {xs : List (Part × Nat)}, (∀ x ∈ xs, x.2 = a) → bsum xs = xs.length * (a + 1)
  | [], _ => by simp [bsum]
  | x :: xs, h => by
    have ih := bsum_const fun y hy => h y (List.mem_cons_of_mem _ hy)
    have h1 := h x List.mem_cons_self
    unfold bsum at *
    rw [List.map_cons, List.sum_cons, ih, h1, List.length_cons, Nat.succ_mul]
    omega
theorem mine_sum {c : Kc} {parts : List Part} {hd : Held} (h : KOk c parts hd) (i : Nat) : bsum (mine parts c.laid i) ≤ 492 := by
  rw [bsum_const (a := 40) (fun x hx => by obtain ⟨y, hy, rfl⟩ := List.mem_map.mp hx; rfl)]
  have h1 : (mine parts c.laid i).length ≤ 12 := by
    unfold mine
    rw [List.length_map]
    refine Nat.le_trans (List.length_filter_le _ _) ?_
    rw [List.length_zip]
    have := h.few
    omega
  omega
theorem mine_map {parts : List Part} {laid : List Nat} {i : Nat} : (mine parts laid i).map (fun x => x.1) = ((parts.zip laid).filter fun x => decide ((x.2 : Int) = (i : Int))).map fun x => x.1 := by
  unfold mine
  rw [List.map_map]
  rfl
theorem own_rise {c : Kc} {parts : List Part} {hd : Held} (h : KOk c parts hd) (i : Nat) : Rise c.sz.length ((c.bags.getD i []).filter fun n => !(hd n).isSome) := by
  have hb : Rise c.sz.length (c.bags.getD i []) := by
    by_cases e : i < c.bags.length
    · rw [List.getD_eq_getElem?_getD, List.getElem?_eq_getElem e]
      exact h.rise _ (List.getElem_mem e)
    · rw [List.getD_eq_getElem?_getD, List.getElem?_eq_none (by omega)]
      exact ⟨.nil, fun n h => by cases h⟩
  exact ⟨hb.up.filter _, fun n hn => hb.lt n (List.mem_filter.mp hn).1⟩
theorem own_ok {c : Kc} {parts : List Part} {hd : Held} (h : KOk c parts hd) (i : Nat) : PartOk c.sz (ownP c.wd c.sz c.bags c.laid parts hd i) ∧ Bits 600 (ownP c.wd c.sz c.bags c.laid parts hd i) := by
  have h1 := allJ_ok c.wd h.sz (mine_ok h i)
  have h2 := mine_sum h i
  rw [mine_map] at h1
  have h3 := settle_ok h.sz h.hd h1.1 h1.2
  exact ⟨widened_part h3.part (own_rise h i), widened_bits h.sz h3.part (own_rise h i) (h3.bits.mono (by omega))⟩
def spOwn (K : PySem.W.Frag) (c : Kc) : Sp := fun vs H Q _ => ∃ st i, vs = [.ref c.a, .int ((i : Nat) : Int)] ∧ KAt K c H st ∧ KOk c st.parts (held st.ws) ∧ i < c.bags.length ∧ ∀ v H', Same H H' → Dp K H' v (pp (ownP c.wd c.sz c.bags c.laid st.parts (held st.ws) i)) → Q v H'
theorem src_conv {wi : TI} {σ : L2.St} {H : Hp} {n m : Nat} {Y Z : Nat → V → Hp → Prop} (h : Src wi σ H n Y) (e : n = m) (k : ∀ i x H', Y i x H' → Z i x H') : Src wi σ H m Z := fun H1 k1 R hR => by
  subst e
  exact h H1 k1 R fun J H2 k2 hJ => hR J H2 k2 fun Hc kc => ⟨(hJ Hc kc).1, fun i hi => ⟨((hJ Hc kc).2 i hi).1, fun x H' y => ⟨(((hJ Hc kc).2 i hi).2 x H' y).1, k i x H' (((hJ Hc kc).2 i hi).2 x H' y).2⟩⟩⟩
section
variable {P : Program} {w : World} {K : PySem.W.Frag} {mg : Str → Option Value} {base : Heap}
theorem met_own (C : Ctx K mg) (c : Kc) (S : Kst K c) : C8.Met P w K mg base 5 (kC K) "own" (spOwn K c) [] := by
  refine met_of (k := 4) C.cl C.h_k_own c_k_own (fun vs H Q E ⟨_, _, h, _⟩ => by rw [h]; rfl) fun cdv A outer s H vs Q E hr ⟨st, i, e, ka, ok, hi, q⟩ => ?_
  subst e
  have nd := c_k_own.nd
  have zl := ok.sz.len
  have few := ok.few
  have j0 := mine_ok ok i
  have j1 := mine_sum ok i
  have jp := allJ_ok c.wd ok.sz j0
  rw [mine_map] at jp
  have so := settle_take ok.sz ok.hd jp.1 jp.2
  have so' := settle_ok ok.sz ok.hd jp.1 jp.2
  have rise := own_rise ok i
  have hbag : c.bags[i]? = some (c.bags.getD i []) := by rw [List.getD_eq_getElem?_getD, List.getElem?_eq_getElem hi]; rfl
  have hbl : (c.bags.getD i []).length ≤ c.sz.length := (ok.rise _ (List.mem_of_getElem? hbag)).nm.few
  generalize hf : allJ c.wd c.sz (((st.parts.zip c.laid).filter fun x => decide ((x.2 : Int) = (i : Int))).map fun x => x.1) = f0 at jp so so'
  refine b_setv (d := pp f0) 2 nd (Ev.to (ev_call (cal_all_joined C) hr (by decide) (eva3 (ev_f 0 rfl ka.obj C.cl C.na_word rfl (.str _)) (ev_f 0 rfl ka.obj C.cl C.na_sizes rfl (S.dsz ka)) (EvL.ev (evl_lc (lcv_two (xs := st.parts.zip c.laid) (enc := fun a => pp a.1) (enc2 := fun a => pn a.2) (f := fun a => pp a.1) (c := fun a => decide ((a.2 : Int) = (i : Int))) (β := Nat) [("part", 4), ("bag", 5)] 4 5 rfl nd (pi_zip rfl C.m_zip pa_aw) ?_ (blkOk_by (N := n_k_own) (sc := defScope s_k_own) (by decide +kernel)) (fun _ _ _ _ _ => g_two 4 5 rfl nd) pts_blk (by rw [List.length_zip]; omega) (fun _ _ _ => tup_pp) (fun a ha v u H5 k5 q1 q2 Q q s' H0 C' cl fp => ?_) (fun a ha v u H5 k5 q1 q2 hc => ?_))))) ⟨c.wd, c.sz, mine st.parts c.laid i, ?_, ok.sz, j0, by omega, rfl⟩) (by rw [← hf, mine_map])) fun vf H1 k1 rf => ?_
  · exact src_conv (src_zipL (ev_f 0 rfl ka.obj C.cl C.na_parts rfl ka.parts.dp) (ev_f 0 rfl ka.obj C.cl C.na_laid rfl (S.dlaid ka)) (by rw [List.length_map, List.length_map]; exact ok.laid)) (by rw [List.length_map, List.length_zip, ok.laid, Nat.min_self]) fun m x H' h => by
      rw [zip_map2, List.map_map] at h
      exact h
  · exact Tv.go (tv_eqI (ev_v 5 rfl q2) (ev_v 1 rfl (.int _))) q
  · intro s' H0 C' cl fp
    exact ev_v 4 rfl q1
  · unfold mine
    rw [List.map_map]
    rfl
  have kb := ka.mono k1
  refine b_forT (g_name 3 nd) rfl (ev_ixT (ev_v 2 rfl rf) ev_int (at_nat (n := 0) rfl)) fun a zs H2 k2 ha hx => ⟨fun m σ' H' => ∃ v o, σ' = [some (.ref c.a), some (.int (i : Int)), some v, o, none, none] ∧ Same H2 H' ∧ Dp K H' v (pp ((f0.1.take m).foldl (sstep c.sz (held st.ws)) f0)), ⟨vf, none, rfl, Same.refl _, dp_mono k2 rf⟩, fun i σ' H' ⟨_, _, _, k, _⟩ => sqT_mono k ha, ?_, ?_⟩
  · rintro m d v σ' H' hd hv rv ⟨vq, o, rfl, k3, rq⟩
    rw [List.getElem?_map] at hd
    obtain ⟨n, hn, rfl⟩ := Option.map_eq_some_iff.mp hd
    have kk := k2.trans k3
    have kc := kb.mono kk
    have h0 := so m
    have e1 : (f0.1.take (m + 1)).foldl (sstep c.sz (held st.ws)) f0 = sstep c.sz (held st.ws) ((f0.1.take m).foldl (sstep c.sz (held st.ws)) f0) n := by
      rw [List.take_succ, hn, List.foldl_append]; rfl
    have hlt : n < c.sz.length := jp.1.rise.lt n (List.mem_of_getElem? hn)
    have hnin : n ∉ f0.1.take m := fun z => by
      obtain ⟨j, hj, ej⟩ := List.mem_take_iff_getElem.mp z
      obtain ⟨hi, e2⟩ := List.getElem?_eq_some_iff.mp hn
      have h1 := List.pairwise_iff_getElem.mp jp.1.rise.up j m (by omega) hi (by omega)
      omega
    have hmem := (h0.names n).mpr ⟨List.mem_of_getElem? hn, fun z => absurd z hnin⟩
    rw [dp_int rv]
    refine b_when (b := (valV (wsV st.ws) (Sum.inl (n : Int))).isSome) (tv_dinK hr (ev_v 3 rfl (.int _)) (er_f 0 rfl kc.obj C.cl C.na_worths rfl) kc.worths) (fun hb1 H3 k4 => ?_) fun hb1 H3 k4 => bw_nil ⟨vq, _, rfl, k3.trans k4, ?_⟩
    · have kd := kc.mono k4
      rw [wsV_val] at hb1
      cases hu : held st.ws n with
      | none =>
        rw [show st.ws.lookup n = none from hu] at hb1
        cases hb1
      | some u =>
        have hul := ok.hd.lt n u hu
        refine b_setv 2 nd (ev_call (cal_settled C) hr (by decide) (eva4 (ev_f 0 rfl kd.obj C.cl C.na_sizes rfl (S.dsz kd)) (ev_v 2 rfl (dp_mono k4 rq)) (ev_v 3 rfl (.int _)) (ev_dgetK hr (er_f 0 rfl kd.obj C.cl C.na_worths rfl) (ev_v 3 rfl (.int _)) kd.worths (by rw [show (st.ws.map fun e => (Sum.inl (e.1 : Int), V.int (e.2 : Int))) = wsV st.ws from rfl, wsV_val, show st.ws.lookup n = some u from hu]; rfl) (.int _))) ⟨c.sz, _, n, u, rfl, ok.sz, h0.part, hmem, hul.2, rfl⟩) fun v6 H6 k6 r6 => bw_nil (bw_nil ⟨v6, _, rfl, (k3.trans k4).trans k6, ?_⟩)
        rw [e1]
        unfold sstep
        rw [hu]
        exact r6
    · rw [e1]
      have : held st.ws n = none := by
        rw [wsV_val] at hb1
        cases hu : held st.ws n with
        | none => rfl
        | some u =>
          rw [show st.ws.lookup n = some u from hu] at hb1
          cases hb1
      unfold sstep
      rw [this]
      exact dp_mono k4 rq
  · rintro σ' H' ⟨vq, o, rfl, k3, rq⟩
    rw [List.length_map, List.take_length] at rq
    have kk := k2.trans k3
    have kc := kb.mono kk
    refine b_retv (d := pp (ownP c.wd c.sz c.bags c.laid st.parts (held st.ws) i)) (Ev.to (ev_call (cal_widened C) hr (by decide) (eva3 (ev_f 0 rfl kc.obj C.cl C.na_sizes rfl (S.dsz kc)) (ev_v 2 rfl rq) (ev_tupleL C.m_tuple (EvL.ev (evl_lc (lcv_Tif (xs := c.bags.getD i []) (enc := pn) (f := pn) (c := fun n => !(held st.ws n).isSome) [("name", 3)] 3 rfl nd (ev_ixT (ev_f 0 rfl kc.obj C.cl C.na_bags rfl (S.dbags kc)) (ev_v 1 rfl (.int _)) (at_map hbag)) (blkOk_by (N := n_k_own) (sc := defScope s_k_own) (by decide +kernel)) (by omega) (fun _ _ => rfl) (fun a ha v H5 k5 r5 => ?_) fun a ha v H5 k5 r5 _ => ?_))))) ⟨c.sz, _, _, rfl, ok.sz, so'.part, rise, rfl⟩) ?_) fun v4 H4 k4 r4 => q v4 H4 ((k1.trans kk).trans k4) r4
    · intro s' H0 C' cl fp
      rw [dp_int r5]
      have kd := kc.mono k5
      refine Tv.to (tv_dnotinK hr (ev_v 3 rfl (.int _)) (er_f 0 rfl kd.obj C.cl C.na_worths rfl) kd.worths) ?_
      rw [show (st.ws.map fun e => (Sum.inl (e.1 : Int), V.int (e.2 : Int))) = wsV st.ws from rfl, wsV_val]
      unfold held
      cases st.ws.lookup a <;> rfl
    · intro s' H0 C' cl fp
      exact ev_v 3 rfl r5
    · unfold ownP
      rw [hf]
end
end SO
set_option Elab.async false
set_option linter.all false
set_option maxRecDepth 100000
set_option maxHeartbeats 4000000
/-! So34: comprehensions whose element changes things; letters, plain. -/
namespace SO
open PySem PySem.Spec PyProof.Rows L2
section
variable {X : Cx} {σ : L2.St} {H : Hp} {elt iter cnd : Expr} {scope : Scope} {x : Str} {px : Pos}
theorem ints_kept (c : Nat → Bool) (xs : List Nat) (i a : Nat) (h : xs[i]? = some a) : (xs.take (i + 1)).filter c = (xs.take i).filter c ++ if c a = true then [a] else [] := by
  rw [List.take_succ, h, List.filter_append]
  cases hc : c a with
  | true => simp [hc]
  | false => simp [hc]
theorem lcw_eff {xs : List Nat} (own : List (Str × Nat)) (j : Nat) (E : List Addr) (Z : List Nat → Hp → Prop) (c : Nat → Bool) (fv : Nat → D0) (b : Addr) (hc : X.calm = true) (hN : X.N.Nodup) (hi : Er X iter σ H (.ref b)) (hb : ∀ l H', Z l H' → SqL X.K H' b ((zs xs).map V.int))
    (ok : BlkOk X.N X.env.scope scope own) (hl : xs.length ≤ 100000) (ht : ∀ a ∈ xs, tupOnly (fv a) = true) (z0 : Z [] H) (zf : ∀ l H1 H2 D, H D = none → Z l H1 → Fr [D] H1 H2 → Z l H2) (hE : ∀ d ∈ E, ∃ o, H d = some o)
    (hcn : ∀ a ∈ xs, ∀ l H1, Z l H1 → Blk X scope fun Y => Tv Y cnd ((wipe σ (own.map (·.2))).set j (some (.int (a : Int)))) H1 (c a))
    (he : ∀ a ∈ xs, c a = true → ∀ l H1, Z l H1 → Blk X scope fun Y => EW Y elt ((wipe σ (own.map (·.2))).set j (some (.int (a : Int)))) H1 fun v H2 => Z (l ++ [a]) H2 ∧ Dp X.K H2 v (fv a) ∧ Fr E H1 H2) {Q : VK}
    (q : ∀ l H2, H l = none → Z (xs.filter c) H2 → Ls X.K H2 l ((xs.filter c).map fv) → Q (.ref l) H2)
    (hg : Blk X scope fun Y => PG Y (.Name x px) (gName j) := by exact fun _ _ _ _ _ => g_name _ (by assumption)) (hw : ∀ v, wipe ((wipe σ (own.map (·.2))).set j (some v)) (own.map (·.2)) = wipe σ (own.map (·.2)) := by intro _; rfl)
    (hf : ∀ x, foldedSetIterable iter X.env x = pure x := by intro _; rfl) : LcW X elt (.Name x px) iter [cnd] scope σ H Q := by
  refine ⟨own, _, gName j, ttB X scope cnd, teB X scope elt, ⟨hc, hN, pi_list pe_ew, ok, hg, pts_blk, pe_blk, hf⟩, ?_⟩
  show EW X iter σ H _
  refine (hi H (Same.refl H)).mono fun v H2 ⟨k2, ev⟩ => ?_
  subst ev
  have someD : H b ≠ none ∨ True := .inr trivial
  refine ⟨b, rfl, ⟨_, k2.seq (hb _ _ z0)⟩, fun Dl hD => ?_⟩
  have hD0 : H Dl = none := none_back k2 hD
  have z2 : Z [] H2 := zf _ _ _ Dl hD0 z0 (Fr.of k2)
  have nE : Dl ∉ E := fun z => by
    obtain ⟨o, h⟩ := hE Dl z
    rw [h] at hD0
    cases hD0
  have zl : (zs xs).length = xs.length := zs_len xs
  refine ⟨fun i m H' => m = xs.length - i ∧ i ≤ xs.length ∧ Z ((xs.take i).filter c) H' ∧ Ls X.K H' Dl (((xs.take i).filter c).map fv), ⟨xs.length, by simp, Nat.zero_le _, by simpa using zf _ _ _ Dl hD0 z2 (Fr.of (same_new hD)), [], upd_same, by simpa using DpAll.nil⟩, ?_⟩
  rintro i m H' ⟨rfl, hi', zz, ys, hx, hd⟩
  have tupd : tupOnlyL (((xs.take i).filter c).map fv) = true := tupOnlyL_iff.mpr fun d hd => by
    obtain ⟨a, ha, rfl⟩ := List.mem_map.mp hd
    exact ht a (List.mem_of_mem_take (List.mem_filter.mp ha).1)
  by_cases hlt : i < xs.length
  · have ea : xs[i]? = some xs[i] := List.getElem?_eq_getElem hlt
    have ez : ((zs xs).map V.int)[i]? = some (V.int (xs[i] : Int)) := by
      unfold zs
      rw [List.getElem?_map, List.getElem?_map, ea]
      rfl
    have hm : xs[i] ∈ xs := List.getElem_mem hlt
    have hk := ints_kept c xs i _ ea
    generalize xs[i] = a at ea ez hm hk
    refine .inr ⟨⟨_, _, hb _ _ zz, ez⟩, fun H'' => Z ((xs.take (i + 1)).filter c) H'' ∧ Ls X.K H'' Dl (((xs.take (i + 1)).filter c).map fv), fun H'' ⟨p1, p2⟩ => ⟨xs.length - (i + 1), by omega, rfl, hlt, p1, p2⟩, fun u Hy hy => ?_⟩
    obtain ⟨rfl, y⟩ := hy
    have eu := y _ (hb _ _ zz)
    rw [ez] at eu
    cases eu
    show gName j (.int (a : Int)) _ Hy _
    refine ⟨hw _, fun s H0 C cl fp => Tv.go (hcn a hm _ _ zz s H0 C cl fp) fun H3 k3 => ?_⟩
    have z3 : Z ((xs.take i).filter c) H3 := zf _ _ _ Dl hD0 zz (Fr.of k3)
    cases hca : c a with
    | false =>
      refine iteF ⟨?_, ?_⟩
      · rw [hk, if_neg (by rw [hca]; decide), List.append_nil]; exact z3
      · rw [hk, if_neg (by rw [hca]; decide), List.append_nil]; exact ⟨ys, k3 _ _ hx, dpa_mono k3 hd⟩
    | true =>
      refine iteT fun s H0 C cl fp => (he a hm hca _ _ z3 s H0 C cl fp).mono fun v H4 ⟨z4, r4, f4⟩ => ?_
      have hx4 : H4 Dl = some (.lst ys) := f4.same _ _ nE (k3 _ _ hx)
      have kb : SameB Dl H4 (upd H4 Dl (.lst (ys ++ [v]))) := sameB_upd
      have tp := kb.tp hx4
      refine ⟨ys, hx4, ?_, zf _ _ _ Dl hD0 (by rw [hk, if_pos hca]; exact z4) (Fr.ofB kb ⟨_, hx4⟩ (by simp)), ys ++ [v], upd_same, ?_⟩
      · have l1 := dpa_len hd
        have l2 := List.length_filter_le c (xs.take i)
        rw [List.length_map] at l1
        rw [List.length_take] at l2
        rw [l1]
        exact Nat.lt_of_le_of_lt l2 (Nat.lt_of_lt_of_le (Nat.lt_of_le_of_lt (Nat.min_le_left _ _) (Nat.lt_of_lt_of_le hlt hl)) (by decide))
      · rw [hk, if_pos hca, List.map_append]
        exact dpa_app (dpa_tp (((tp_same k3).trans f4.tp).trans tp) tupd hd) (.cons (dp_tp tp (ht a hm) r4) .nil)
  · have e : i = xs.length := by omega
    subst e
    rw [List.take_length] at zz hd
    exact .inl ⟨⟨_, hb _ _ zz, by rw [List.length_map, zl]; exact Nat.le_refl _⟩, q Dl H' hD0 zz ⟨ys, hx, hd⟩⟩
end
end SO
set_option Elab.async false
set_option linter.all false
set_option maxRecDepth 100000
set_option maxHeartbeats 4000000
/-! So35: letters, plain; what the keeper knows. -/
namespace SO
open PySem PySem.Spec PyProof.Rows L2
section
variable (wd : Wd) (sz : List Nat) (bags : List (List Nat)) (nb : Nat → List Nat) (o : Nat → Part)
def letF : Nat → Nat → Nat → Part
  | 0, i, _ => o i
  | f + 1, i, j => leftP wd sz (allJ wd sz (o i :: ((nb i).filter fun k => !decide (k = j)).map fun k => letF f k i)) (bags.getD j [])
end
section
variable {n root : Nat} {par rk : Nat → Nat} {nb : Nat → List Nat} {wd : Wd} {sz : List Nat} {bags : List (List Nat)} {o : Nat → Part}
theorem letF_fuel (T : RTree n root par rk nb) : ∀ (f g i j : Nat), j ∈ nb i → hgt n root par rk i j ≤ f → hgt n root par rk i j ≤ g → letF wd sz bags nb o f i j = letF wd sz bags nb o g i j
  | 0, _, i, j, hj, h, _ => by have := hgt_pos T (j := j) ((T.nbs i j).mp hj).1; omega
  | _ + 1, 0, i, j, hj, _, h => by have := hgt_pos T (j := j) ((T.nbs i j).mp hj).1; omega
  | f + 1, g + 1, i, j, hj, hf, hg => by
    unfold letF
    congr 3
    apply List.map_congr_left
    intro k hk
    obtain ⟨h1, h2⟩ := List.mem_filter.mp hk
    have hne : k ≠ j := by simpa using h2
    have := hgt_dec T hj h1 hne
    exact letF_fuel T f g k i (T.sym h1) (by omega) (by omega)
/-- the letter over a tie -/
def letP (wd : Wd) (sz : List Nat) (bags : List (List Nat)) (nb : Nat → List Nat) (o : Nat → Part) (n i j : Nat) : Part := letF wd sz bags nb o (2 * n + 2) i j
theorem letP_eq (T : RTree n root par rk nb) {i j : Nat} (hj : j ∈ nb i) : letP wd sz bags nb o n i j = leftP wd sz (allJ wd sz (o i :: ((nb i).filter fun k => !decide (k = j)).map fun k => letP wd sz bags nb o n k i)) (bags.getD j []) := by
  have hi := ((T.nbs i j).mp hj).1
  show letF wd sz bags nb o (2 * n + 1 + 1) i j = _
  unfold letF
  congr 3
  apply List.map_congr_left
  intro k hk
  obtain ⟨h1, h2⟩ := List.mem_filter.mp hk
  have hk' := ((T.nbs i k).mp h1).2.1
  have := hgt_le T (j := i) hk'
  exact letF_fuel T _ _ k i (T.sym h1) (by omega) (by omega)
/-- letters lean only on the bags of the sender's side -/
theorem letP_same (T : RTree n root par rk nb) {o' : Nat → Part} : ∀ i j, j ∈ nb i → (∀ x ∈ side n nb i j, o x = o' x) → letP wd sz bags nb o n i j = letP wd sz bags nb o' n i j :=
  side_ind T (M := fun i j => (∀ x ∈ side n nb i j, o x = o' x) → letP wd sz bags nb o n i j = letP wd sz bags nb o' n i j) fun i j hj ih h => by
    rw [letP_eq T hj, letP_eq T hj, h i (side_self T hj)]
    congr 3
    apply List.map_congr_left
    intro k hk
    obtain ⟨h1, h2⟩ := List.mem_filter.mp hk
    have hne : k ≠ j := by simpa using h2
    exact ih k h1 hne fun x hx => h x (side_sub T hj h1 hne hx)
/-- the rest but for one letter -/
def butOk (but_ : Option Nat) (k : Nat) : Bool := !decide (some k = but_)
def restP (wd : Wd) (sz : List Nat) (bags : List (List Nat)) (nb : Nat → List Nat) (o : Nat → Part) (n i : Nat) (but_ : Option Nat) : Part :=
  allJ wd sz (o i :: ((nb i).filter (butOk but_)).map fun k => letP wd sz bags nb o n k i)
theorem restP_letter (T : RTree n root par rk nb) {i j : Nat} (hj : j ∈ nb i) : letP wd sz bags nb o n i j = leftP wd sz (restP wd sz bags nb o n i (some j)) (bags.getD j []) := by
  rw [letP_eq T hj]
  unfold restP
  have : (butOk (some j)) = fun k => !decide (k = j) := by
    funext k
    unfold butOk
    simp
  rw [this]
/-- the bits of letters -/
structure OOk (sz : List Nat) (n : Nat) (o : Nat → Part) : Prop where
  szok : SzOk sz
  part : ∀ i, PartOk sz (o i)
  bits : ∀ i, Bits 600 (o i)
  n : n ≤ 12
def restX (wd : Wd) (sz : List Nat) (bags : List (List Nat)) (nb : Nat → List Nat) (o : Nat → Part) (n i : Nat) (but_ : Option Nat) : List (Part × Nat) :=
  (o i, 600) :: ((nb i).filter (butOk but_)).map fun k => (letP wd sz bags nb o n k i, 800 * (side n nb k i).length)
theorem restX_map {i : Nat} {but_ : Option Nat} : (restX wd sz bags nb o n i but_).map (fun x => x.1) = o i :: ((nb i).filter (butOk but_)).map fun k => letP wd sz bags nb o n k i := by
  unfold restX
  rw [List.map_cons, List.map_map]
  rfl
theorem sum_mul {a : Nat} : ∀ (ns : List Nat) (f : Nat → Nat), (ns.map fun k => a * f k + 1).sum = a * (ns.map f).sum + ns.length
  | [], f => by simp
  | k :: ns, f => by
    simp only [List.map_cons, List.sum_cons, List.length_cons]
    rw [sum_mul ns f, Nat.mul_add]
    omega
theorem restX_sum {i : Nat} {but_ : Option Nat} : bsum (restX wd sz bags nb o n i but_) = 601 + 800 * (((nb i).filter (butOk but_)).map fun k => (side n nb k i).length).sum + ((nb i).filter (butOk but_)).length := by
  unfold bsum restX
  rw [List.map_cons, List.sum_cons, List.map_map]
  have := sum_mul (a := 800) ((nb i).filter (butOk but_)) fun k => (side n nb k i).length
  rw [show (List.map ((fun x => x.2 + 1) ∘ fun k => (letP wd sz bags nb o n k i, 800 * (side n nb k i).length)) ((nb i).filter (butOk but_))) = ((nb i).filter (butOk but_)).map fun k => 800 * (side n nb k i).length + 1 from rfl, this]
  omega
theorem nb_few (T : RTree n root par rk nb) {i : Nat} : (nb i).length ≤ n := (show Nm n (nb i) from ⟨T.nd i, fun k h => ((T.nbs i k).mp h).2.1⟩).few
theorem sum_filter_le (f : Nat → Nat) (p q : Nat → Bool) : ∀ ns : List Nat, (∀ k ∈ ns, p k = true → q k = true) → ((ns.filter p).map f).sum ≤ ((ns.filter q).map f).sum
  | [], _ => Nat.le_refl _
  | k :: ns, h => by
    have ih := sum_filter_le f p q ns fun x hx => h x (List.mem_cons_of_mem _ hx)
    by_cases hp : p k = true
    · have hq := h k List.mem_cons_self hp
      rw [List.filter_cons_of_pos hp, List.filter_cons_of_pos hq]
      simp only [List.map_cons, List.sum_cons]
      omega
    · rw [List.filter_cons_of_neg hp]
      by_cases hq : q k = true
      · rw [List.filter_cons_of_pos hq]
        simp only [List.map_cons, List.sum_cons]
        omega
      · rw [List.filter_cons_of_neg hq]
        exact ih
/-- all sides that hang at a bag -/
theorem side_all (T : RTree n root par rk nb) {i : Nat} (hi : i < n) : ((nb i).map fun k => (side n nb k i).length).sum < n := by
  have h : Nm n (i :: (nb i).flatMap fun k => side n nb k i) := by
    refine ⟨?_, fun x hx => ?_⟩
    · rw [List.nodup_cons]
      refine ⟨fun h => ?_, ?_⟩
      · obtain ⟨k, hk, hx⟩ := List.mem_flatMap.mp h
        exact side_out T hk hx
      · unfold List.Nodup
        rw [List.pairwise_flatMap]
        refine ⟨fun k hk => side_nodup T k i (T.sym hk), ?_⟩
        refine List.Pairwise.imp_of_mem ?_ (T.nd i)
        intro k k' hk hk' hne x hx y hy e
        subst e
        exact side_apart T hk hk' hne hx hy
    · rcases List.mem_cons.mp hx with rfl | hx
      · exact hi
      · obtain ⟨k, hk, hx⟩ := List.mem_flatMap.mp hx
        exact side_lt T k i (T.sym hk) x hx
  have := h.few
  rw [List.length_cons, List.length_flatMap] at this
  omega
theorem restX_ok (T : RTree n root par rk nb) (h : OOk sz n o) (hL : ∀ i j, j ∈ nb i → PartOk sz (letP wd sz bags nb o n i j) ∧ Bits (800 * (side n nb i j).length) (letP wd sz bags nb o n i j)) {i : Nat} (hi : i < n) (but_ : Option Nat) :
    JOk sz (restX wd sz bags nb o n i but_) ∧ bsum (restX wd sz bags nb o n i but_) < 20000 := by
  refine ⟨⟨fun x hx => ?_, fun x hx => ?_⟩, ?_⟩
  · rcases List.mem_cons.mp hx with rfl | hx
    · exact h.part i
    · obtain ⟨k, hk, rfl⟩ := List.mem_map.mp hx
      exact (hL k i (T.sym (List.mem_filter.mp hk).1)).1
  · rcases List.mem_cons.mp hx with rfl | hx
    · exact h.bits i
    · obtain ⟨k, hk, rfl⟩ := List.mem_map.mp hx
      exact (hL k i (T.sym (List.mem_filter.mp hk).1)).2
  · rw [restX_sum]
    have h1 := side_all T hi
    have h2 := nb_few T (i := i)
    have h3 := List.length_filter_le (butOk but_) (nb i)
    have h4 : (((nb i).filter (butOk but_)).map fun k => (side n nb k i).length).sum ≤ ((nb i).map fun k => (side n nb k i).length).sum := by
      have := sum_filter_le (fun k => (side n nb k i).length) (butOk but_) (fun _ => true) (nb i) fun _ _ _ => rfl
      rwa [filter_true'] at this
    have := h.n
    omega
theorem letP_ok (T : RTree n root par rk nb) (h : OOk sz n o) : ∀ i j, j ∈ nb i → PartOk sz (letP wd sz bags nb o n i j) ∧ Bits (800 * (side n nb i j).length) (letP wd sz bags nb o n i j) :=
  side_ind T (M := fun i j => PartOk sz (letP wd sz bags nb o n i j) ∧ Bits (800 * (side n nb i j).length) (letP wd sz bags nb o n i j)) fun i j hj ih => by
    have hbut : (butOk (some j)) = fun k => !decide (k = j) := by
      funext k
      unfold butOk
      simp
    have J : JOk sz (restX wd sz bags nb o n i (some j)) := by
      refine ⟨fun x hx => ?_, fun x hx => ?_⟩
      · rcases List.mem_cons.mp hx with rfl | hx
        · exact h.part i
        · obtain ⟨k, hk, rfl⟩ := List.mem_map.mp hx
          obtain ⟨h1, h2⟩ := List.mem_filter.mp hk
          rw [hbut] at h2
          exact (ih k h1 (by simpa using h2)).1
      · rcases List.mem_cons.mp hx with rfl | hx
        · exact h.bits i
        · obtain ⟨k, hk, rfl⟩ := List.mem_map.mp hx
          obtain ⟨h1, h2⟩ := List.mem_filter.mp hk
          rw [hbut] at h2
          exact (ih k h1 (by simpa using h2)).2
    have a := allJ_ok wd h.szok J
    have hs := restX_sum (wd := wd) (sz := sz) (bags := bags) (nb := nb) (o := o) (n := n) (i := i) (but_ := some j)
    have hside := side_sum T hj
    rw [restX_map] at a
    rw [hbut] at a hs
    have l := left_ok (wd := wd) (bag := bags.getD j []) h.szok a.1 a.2
    have hf := a.1.rise.nm.few
    have zl := h.szok.len
    have h2 := nb_few T (i := i)
    have h3 := List.length_filter_le (fun k => !decide (k = j)) (nb i)
    have hn := h.n
    rw [letP_eq T hj]
    exact ⟨l.part, l.bits.mono (by omega)⟩
theorem restP_ok (T : RTree n root par rk nb) (h : OOk sz n o) {i : Nat} (hi : i < n) (but_ : Option Nat) : PartOk sz (restP wd sz bags nb o n i but_) ∧ Bits 20100 (restP wd sz bags nb o n i but_) := by
  have J := restX_ok T h (wd := wd) (bags := bags) (letP_ok T h) hi but_
  have a := allJ_ok wd h.szok J.1
  rw [restX_map] at a
  exact ⟨a.1, a.2.mono (by omega)⟩
end
/-! ### what is known -/
def keys (kn : List (Tie × Part)) : List Tie := kn.map (·.1)
structure KnOk (L : Nat → Nat → Part) (nb : Nat → List Nat) (kn : List (Tie × Part)) : Prop where
  tie : ∀ e ∈ kn, e.1.2 ∈ nb e.1.1
  val : ∀ e ∈ kn, e.2 = L e.1.1 e.1.2
  nd : (keys kn).Nodup
structure Ext (st st' : KS) : Prop where
  parts : st'.parts = st.parts
  ws : st'.ws = st.ws
  changes : st'.changes = st.changes
  sub : ∀ t ∈ keys st.known, t ∈ keys st'.known
  many : st'.many + st.known.length = st.many + st'.known.length
theorem Ext.refl {st : KS} : Ext st st := ⟨rfl, rfl, rfl, fun _ h => h, rfl⟩
theorem Ext.trans {a b c : KS} (h : Ext a b) (k : Ext b c) : Ext a c := ⟨k.parts.trans h.parts, k.ws.trans h.ws, k.changes.trans h.changes, fun t ht => k.sub t (h.sub t ht), by have := h.many; have := k.many; omega⟩
end SO
set_option Elab.async false
set_option linter.all false
set_option maxRecDepth 100000
set_option maxHeartbeats 4000000
/-! So36: rest_but, letter. -/
namespace SO
open PySem PySem.Spec PyProof.Rows L2
section
variable {X : Cx} {a b e o i value : Expr} {es : List Expr} {σ : L2.St} {H : Hp} {sts : List Stmt} {pos pos' p px : Pos} {d : D0} {ds ls : List D0} {D : Ends} {x : Str} {Q : VK} {q : Addr} {k j : Nat}
/-- new list + a list in a name -/
theorem evl_catN (n : Nat) (ha : EvL X a σ H ds) (hs : σ[n]? = some (some (.ref q))) (hq : Ls X.K H q ls) (hl : ds.length + ls.length ≤ 100000) (hN : X.N[n]? = some x := by rfl) (hv : Vis X.env.scope x := by first | exact Or.inl rfl | exact Or.inr (Or.inl rfl) | exact Or.inr (Or.inr rfl)) (hdb : (x == ("__debug__" : Str)) = false := by decide)
    (hcd : (x == ("__classdict__" : Str)) = false := by decide) : EvL X (.BinOp a .Add (.Name x px) pos) σ H (ds ++ ls) := fun H1 k =>
  ew_op op_cat ((ha H1 k).mono fun u H2 ⟨k2, p, e1, n1, xs, h1, h2⟩ => ew_v n hs (by
    subst e1
    obtain ⟨ys, h3, h4⟩ := ls_mono hq (k.trans k2)
    exact ⟨p, q, xs, ys, rfl, rfl, h1, h3, by rw [dpa_len h2, dpa_len h4]; exact small hl, fun l hl' => ⟨k2.trans (same_new hl'), l, rfl, none_back k2 hl', _, upd_same, dpa_mono (same_new hl') (dpa_app h2 h4)⟩⟩) hN hv hdb hcd)
/-! ### dicts with pairs as keys -/
def Et (X : Cx) (e : Expr) (σ : L2.St) (H : Hp) (ks : List L2.Key) : Prop := ∀ H1, Same H H1 → EW X e σ H1 fun y H2 => Same H1 H2 ∧ ∃ b, y = .ref b ∧ H2 b = some (.tup (ks.map kV))
theorem et_pair {kk : Nat} {n m : Nat} (h1 : Ev X a σ H (pn n)) (h2 : Ev X b σ H (pn m)) (hs1 : starEach [b] X.env = (false, eval b X.env) :: starEach [] X.env := by rfl) (hs2 : starEach [a, b] X.env = (false, eval a X.env) :: starEach [b] X.env := by rfl) : Et X (.Tuple [a, b] kk pos) σ H (tk (n, m)) := fun H1 k =>
  ew_tup ((eva2 h1 h2 hs1 hs2 H1 k).mono fun vs H2 ⟨k2, r⟩ => by
    obtain ⟨v, w, rfl, r1, r2⟩ := dpa2 r
    rw [dp_int r1, dp_int r2]
    exact ⟨by show 2 ≤ sizeLine; decide, fun p hp => ⟨k2.trans (same_new hp), p, rfl, upd_same⟩⟩)
theorem tv_dnotinT {kvs : List (List L2.Key × V)} {ad : Addr} {ks : List L2.Key} {k : Nat} (hr : Room k X.A) (he : Et X e σ H ks) (ho : Er X o σ H (.ref ad)) (hd : H ad = some (.dT kvs)) (hm : behindInMarks .NotIn o = false := by rfl) : Tv X (.Compare e [.NotIn] [o] pos) σ H (!(valV kvs ks).isSome) := fun H1 k1 =>
  tw_pt (pt_cmp (pc_dnotin (room_in hr) pe_ew pe_ew) hm) (show EW X e σ H1 _ from (he H1 k1).mono fun y H2 ⟨k2, b, ey, r⟩ => (ho H2 (k1.trans k2)).mono fun u H3 ⟨k3, eu⟩ => by
    subst eu; subst ey
    exact ⟨ad, _, rfl, DGet.t (k3 _ _ (k2 _ _ (k1 _ _ hd))) (k3 _ _ r), _, rfl, k2.trans k3, rfl⟩)
theorem ev_dgetT {kvs : List (List L2.Key × V)} {ad : Addr} {ks : List L2.Key} {k : Nat} {v : V} (hr : Room k X.A) (ho : Er X o σ H (.ref ad)) (he : Et X e σ H ks) (hd : H ad = some (.dT kvs)) (hv : valV kvs ks = some v) (r0 : Dp X.K H v d) (hs : NoSl e := by exact fun _ _ => rfl) : Ev X (.Subscript o e pos) σ H d := fun H1 k1 =>
  ew_pe (pe_dget (room_in hr) pe_ew pe_ew hs) (show EW X o σ H1 _ from (ho H1 k1).mono fun u H2 ⟨k2, eu⟩ => (he H2 (k1.trans k2)).mono fun y H3 ⟨k3, b, ey, r⟩ => by
    subst eu; subst ey
    have := DGet.t (k3 _ _ (k2 _ _ (k1 _ _ hd))) r
    rw [hv] at this
    exact ⟨ad, v, rfl, this, k2.trans k3, dp_mono ((k1.trans k2).trans k3) r0⟩)
theorem b_dput {k : Nat} (hr : Room k X.A) (h : EW X value σ H fun v H1 => EW X o σ H1 fun u H2 => EW X i σ H2 fun y H3 => ∃ ad H4, u = .ref ad ∧ DPut H3 ad y v H4 ∧ BW X sts D σ H4) (hs : swapsWith value (some (.Subscript o i pos')) pos.line X.env = pure false := by rfl) :
    BW X (.Assign [.Subscript o i pos'] value pos :: sts) D σ H := bw_cons (sw_ps (ps_dput (room_in hr) pe_ew pe_ew pe_ew hs) h)
theorem tv_neN {n : Nat} {but_ : Option Nat} (ha : Ev X a σ H (pn n)) (hb : Ev X b σ H (optD but_)) : Tv X (.Compare a [.NotEq] [b] pos) σ H (butOk but_ n) := tv_cmp op_ne ha hb fun x y H1 k rx ry Q q => by
  rw [dp_int rx]
  cases but_ with
  | none =>
    rw [dp_non ry]
    exact ⟨rfl, q _ H1 (Same.refl _) (by
      have : decide (V.int (n : Int) = V.non) = false := by simp
      rw [this]
      exact .bl _)⟩
  | some m =>
    rw [dp_int ry]
    exact ⟨rfl, q _ H1 (Same.refl _) (by
      have : (!decide (V.int (n : Int) = V.int (m : Int))) = butOk (some m) n := by
        unfold butOk
        congr 1
        by_cases h : n = m <;> simp [h] <;> omega
      rw [this]
      exact .bl _)⟩
end
/-! ### the keeper's state -/
def oOf (c : Kc) (st : KS) (i : Nat) : Part := ownP c.wd c.sz c.bags c.laid st.parts (held st.ws) i
def LOf (c : Kc) (st : KS) (i j : Nat) : Part := letP c.wd c.sz c.bags (nbOf c.nr) (oOf c st) c.nr.length i j
def ROf (c : Kc) (st : KS) (i : Nat) (b : Option Nat) : Part := restP c.wd c.sz c.bags (nbOf c.nr) (oOf c st) c.nr.length i b
structure StOk (c : Kc) (st : KS) : Prop where
  ok : KOk c st.parts (held st.ws)
  kn : KnOk (LOf c st) (nbOf c.nr) st.known
structure TOk (c : Kc) (root : Nat) (par rk : Nat → Nat) : Prop where
  tree : RTree c.nr.length root par rk (nbOf c.nr)
  len : c.nr.length = c.bags.length
theorem StOk.oo {c : Kc} {st : KS} {root : Nat} {par rk : Nat → Nat} (h : StOk c st) (t : TOk c root par rk) : OOk c.sz c.nr.length (oOf c st) := ⟨h.ok.sz, fun i => (own_ok h.ok i).1, fun i => (own_ok h.ok i).2, by rw [t.len]; exact h.ok.bags⟩
theorem Ext.oOf {c : Kc} {st st' : KS} (h : Ext st st') : oOf c st' = oOf c st := by
  funext i
  unfold SO.oOf
  rw [h.parts, h.ws]
theorem Ext.LOf {c : Kc} {st st' : KS} (h : Ext st st') : LOf c st' = LOf c st := by
  funext i j
  unfold SO.LOf
  rw [h.oOf]
theorem Fr.drop {D : List Addr} {d : Addr} {H0 H H' : Hp} (h : Fr D H0 H) (k : Fr [d] H H') (n : H0 d = none) : Fr D H0 H' := ⟨fun b o hn hb => k.same b o (fun z => by
  rw [List.mem_singleton.mp z] at hb
  rw [n] at hb
  cases hb) (h.same b o hn hb), h.tp.trans k.tp⟩
theorem KAt.new {K : PySem.W.Frag} {c : Kc} {H0 H H' : Hp} {st0 st : KS} {d : Addr} (h0 : KAt K c H0 st0) (h : KAt K c H st) (k : Fr [d] H H') (n : H0 d = none) : KAt K c H' st := by
  refine h.fr k (fun x hx z => ?_) fun x hx => ?_
  · rw [List.mem_singleton.mp hx] at z
    obtain ⟨kvs, h1, _⟩ := h0.known
    obtain ⟨xs, h2⟩ := h0.parts.some
    obtain ⟨ys, h3⟩ := h0.changes.some
    simp only [Kc.own, List.mem_cons, List.not_mem_nil, or_false] at z
    rcases z with z | z | z | z | z
    · rw [z, h0.obj] at n; cases n
    · rw [z, h2] at n; cases n
    · rw [z, h0.worths] at n; cases n
    · rw [z, h1] at n; cases n
    · rw [z, h3] at n; cases n
  · rw [List.mem_singleton.mp hx]
    by_cases hm : d ∈ c.M
    · exact .inl hm
    · right
      cases e : c.B d with
      | none => rfl
      | some o =>
        have := h0.wl d o hm e
        rw [n] at this
        cases this
def spLetter (K : PySem.W.Frag) (c : Kc) (f : Nat) : Sp := fun vs H Q _ => ∃ st i j, vs = [.ref c.a, .int ((i : Nat) : Int), .int ((j : Nat) : Int)] ∧ KAt K c H st ∧ StOk c st ∧ j ∈ nbOf c.nr i ∧ (side c.nr.length (nbOf c.nr) i j).length ≤ f ∧
  ∀ v H' st', Fr [c.a, c.ka] H H' → KAt K c H' st' → StOk c st' → Ext st st' → (∀ t ∈ keys st'.known, t ∈ keys st.known ∨ t.1 ∈ side c.nr.length (nbOf c.nr) i j) → (i, j) ∈ keys st'.known → Dp K H' v (pp (LOf c st i j)) → Q v H'
def optV : Option Nat → V
  | none => .non
  | some j => .int (j : Int)
theorem optV_dp {K : PySem.W.Frag} {H : Hp} {b : Option Nat} : Dp K H (optV b) (optD b) := by
  cases b with
  | none => exact .non
  | some j => exact .int _
def spRB (K : PySem.W.Frag) (c : Kc) (f : Nat) : Sp := fun vs H Q _ => ∃ st i b, vs = [.ref c.a, .int ((i : Nat) : Int), optV b] ∧ KAt K c H st ∧ StOk c st ∧ i < c.nr.length ∧ (∀ k ∈ nbOf c.nr i, butOk b k = true → (side c.nr.length (nbOf c.nr) k i).length ≤ f) ∧
  ∀ v H' st', Fr [c.a, c.ka] H H' → KAt K c H' st' → StOk c st' → Ext st st' → (∀ t ∈ keys st'.known, t ∈ keys st.known ∨ ∃ k ∈ nbOf c.nr i, butOk b k = true ∧ t.1 ∈ side c.nr.length (nbOf c.nr) k i) → (∀ k ∈ nbOf c.nr i, butOk b k = true → (k, i) ∈ keys st'.known) → Dp K H' v (pp (ROf c st i b)) → Q v H'
section
variable {P : Program} {w : World} {K : PySem.W.Frag} {mg : Str → Option Value} {base : Heap}
theorem near_at {c : Kc} (S : Kst K c) {i : Nat} (hi : i < c.nr.length) : ∃ a0 xs b, c.vnear = .ref a0 ∧ SqL K (mask c.M c.B) a0 xs ∧ xs[i]? = some (.ref b) ∧ SqL K (mask c.M c.B) b ((zs (nbOf c.nr i)).map V.int) := by
  obtain ⟨a0, xs, e0, h1, h2⟩ := dp_lst S.near
  obtain ⟨v, hv, rv⟩ := dpa_get (i := i) (d := .list ((nbOf c.nr i).map pn)) h2 (by
    unfold nbOf
    rw [List.getElem?_map, List.getElem?_eq_getElem hi, List.getD_eq_getElem?_getD, List.getElem?_eq_getElem hi]
    rfl)
  rw [map_pn] at rv
  obtain ⟨b, ys, rfl, h3, h4⟩ := dp_lst rv
  rw [dpa_ints h4] at h3
  exact ⟨a0, xs, b, e0, h1, hv, h3⟩
theorem met_rest_but (C : Ctx K mg) (c : Kc) (S : Kst K c) {root : Nat} {par rk : Nat → Nat} (T : TOk c root par rk) {l f : Nat} (hl : 5 ≤ l) (ml : C8.Met P w K mg base l (kC K) "letter" (spLetter K c f) []) : C8.Met P w K mg base (l + 1) (kC K) "rest_but" (spRB K c f) [] := by
  refine met_of (k := l) C.cl C.h_k_rest_but c_k_rest_but (fun vs H Q E ⟨_, _, _, h, _⟩ => by rw [h]; rfl) fun cdv A outer s H vs Q E hr ⟨st, i, b, e, ka, ok, hi, hf, q⟩ => ?_
  subst e
  have nd := c_k_rest_but.nd
  obtain ⟨a0, xs, bi, e0, h1, h2, h3⟩ := near_at S hi
  have hnb := nb_few T.tree (i := i)
  have hn12 : c.nr.length ≤ 12 := by rw [T.len]; exact ok.ok.bags
  refine b_setLc 3 (lcw_eff (xs := nbOf c.nr i) [("k", 4)] 4 [c.a, c.ka] (fun l' H' => ∃ st', KAt K c H' st' ∧ StOk c st' ∧ Ext st st' ∧ Fr [c.a, c.ka] H H' ∧ (∀ t ∈ keys st'.known, t ∈ keys st.known ∨ ∃ k ∈ nbOf c.nr i, butOk b k = true ∧ t.1 ∈ side c.nr.length (nbOf c.nr) k i) ∧ ∀ k ∈ l', (k, i) ∈ keys st'.known) (butOk b) (fun k => pp (LOf c st k i)) bi rfl nd ?_ ?_ (blkOk_by (N := n_k_rest_but) (sc := defScope s_k_rest_but) (by decide +kernel)) (by omega) (fun _ _ => tup_pp) ⟨st, ka, ok, Ext.refl, Fr.refl, fun t h => .inl h, fun k h => by cases h⟩ ?_ ?_ ?_ ?_ fun ql H2 n2 z2 l2 => ?_)
  · intro H1 k1
    refine ew_ix ix_list ((ew_f 0 rfl (k1 _ _ ka.obj) C.cl C.na_near rfl (ew_v 1 rfl ⟨a0, xs, i, .ref bi, e0, rfl, (ka.mono k1).wl.same.seq h1, at_nat h2, Same.refl _, rfl⟩)))
  · rintro l' H' ⟨st', ka', _⟩
    exact ka'.wl.same.seq h3
  · rintro l' H1 H2 d hd ⟨st', ka', ok', ex, fr, hnew, hk⟩ fr2
    exact ⟨st', ka.new ka' fr2 hd, ok', ex, fr.drop fr2 hd, hnew, hk⟩
  · intro d hd
    rcases List.mem_cons.mp hd with rfl | hd
    · exact ⟨_, ka.obj⟩
    · rw [List.mem_singleton.mp hd]
      obtain ⟨kvs, hk, _⟩ := ka.known
      exact ⟨_, hk⟩
  · intro a ha l' H1 z1 s' H0 C' cl fp
    exact tv_neN (ev_v 4 rfl (.int _)) (ev_v 2 rfl optV_dp)
  · rintro a ha hb l' H1 ⟨st', ka', ok', ex, fr, hnew, hk⟩ s' H0 C' cl fp
    refine ew_mt ml hr (Nat.le_refl _) (ew_v 0 rfl ⟨rfl, ka'.obj, aw_two (ew_v 4 rfl (ew_v 1 rfl ⟨st', a, i, rfl, ka', ok', T.tree.sym ha, hf a ha hb, fun v H2 st2 fr2 ka2 ok2 ex2 hn2 hin rv => ⟨⟨st2, ka2, ok2, ex.trans ex2, fr.trans fr2, fun t ht => ?_, fun k hk' => ?_⟩, ?_, fr2⟩⟩))⟩)
    · rcases hn2 t ht with h | h
      · exact hnew t h
      · exact .inr ⟨a, ha, hb, h⟩
    · rcases List.mem_append.mp hk' with h | h
      · exact ex2.sub _ (hk k h)
      · rw [List.mem_singleton.mp h]; exact hin
    · rw [ex.LOf] at rv
      exact rv
  · obtain ⟨st', ka', ok', ex, fr, hnew, hk⟩ := z2
    have oo := ok.oo T
    have J := restX_ok T.tree oo (wd := c.wd) (bags := c.bags) (letP_ok T.tree oo) hi b
    have hlen := List.length_filter_le (butOk b) (nbOf c.nr i)
    have eo : ownP c.wd c.sz c.bags c.laid st'.parts (held st'.ws) i = oOf c st i := by rw [ex.parts, ex.ws]; rfl
    refine b_retv (d := pp (ROf c st i b)) (Ev.to (ev_call (cal_all_joined C) hr (by omega) (eva3 (ev_f 0 rfl ka'.obj C.cl C.na_word rfl (.str _)) (ev_f 0 rfl ka'.obj C.cl C.na_sizes rfl (S.dsz ka')) (EvL.ev (evl_catN 3 (evl_lst (eva1 (d := pp (oOf c st i)) fun H3 k3 => ew_mt (met_own C c S) hr hl (ew_v 0 rfl ⟨rfl, (ka'.mono k3).obj, aw_one (ew_v 1 rfl ⟨st', i, rfl, ka'.mono k3, ok'.ok, by rw [← T.len]; exact hi, fun v H4 k4 r4 => ⟨k4, by rw [eo] at r4; exact r4⟩⟩)⟩))) rfl l2 (by rw [List.length_map, List.length_singleton]; omega)))) ⟨c.wd, c.sz, restX c.wd c.sz c.bags (nbOf c.nr) (oOf c st) c.nr.length i b, ?_, ok.ok.sz, J.1, by omega, rfl⟩) (by rw [restX_map]; rfl)) fun v H5 k5 r5 => q v H5 st' (fr.trans (Fr.of k5)) (ka'.mono k5) ok' ex hnew (fun k hk1 hk2 => hk k (List.mem_filter.mpr ⟨hk1, hk2⟩)) r5
    unfold restX
    rw [List.map_cons, List.map_map]
    rfl
end
end SO
set_option Elab.async false
set_option linter.all false
set_option maxRecDepth 100000
set_option maxHeartbeats 4000000
/-! So37: letter, rest, whole, reckoned. -/
namespace SO
open PySem PySem.Spec PyProof.Rows L2
theorem Et.go {X : Cx} {e : Expr} {σ : L2.St} {H : Hp} {ks : List L2.Key} {Q : VK} (h : Et X e σ H ks) (k : ∀ b H1, Same H H1 → H1 b = some (.tup (ks.map kV)) → Q (.ref b) H1) : EW X e σ H Q := (h H (Same.refl H)).mono fun y H1 ⟨k1, b, ey, r⟩ => by
  subst ey
  exact k b H1 k1 r
theorem tk_inj {a b : Tie} (h : tk a = tk b) : a = b := by
  unfold tk at h
  simp at h
  obtain ⟨h1, h2⟩ := h
  exact Prod.ext (by omega) (by omega)
theorem kn_some {K : PySem.W.Frag} {H : Hp} : ∀ {kvs : List (List L2.Key × V)} {kn : List (Tie × Part)} {t : Tie}, Paired (KnR K H) kvs kn → t ∈ keys kn → ∃ v p, (t, p) ∈ kn ∧ valV kvs (tk t) = some v ∧ Dp K H v (pp p)
  | _, _, t, .nil, h => by cases h
  | _, _ :: kn, t, .cons (a := kv) (b := e) r rs, h => by
    by_cases he : e.1 = t
    · exact ⟨kv.2, e.2, by rw [← he]; simp, valV_pos (by rw [r.1, he]), r.2⟩
    · have h' : t ∈ keys kn := by
        rcases List.mem_cons.mp h with z | z
        · exact absurd z.symm he
        · exact z
      obtain ⟨v, p, h1, h2, h3⟩ := kn_some rs h'
      exact ⟨v, p, List.mem_cons_of_mem _ h1, (valV_neg (by rw [r.1]; exact fun z => he (tk_inj z))).trans h2, h3⟩
theorem kn_none {K : PySem.W.Frag} {H : Hp} : ∀ {kvs : List (List L2.Key × V)} {kn : List (Tie × Part)} {t : Tie}, Paired (KnR K H) kvs kn → t ∉ keys kn → valV kvs (tk t) = none
  | _, _, t, .nil, h => rfl
  | _, _, t, .cons (a := kv) (b := e) r rs, h => by
    have h1 : e.1 ≠ t := fun z => h (by rw [← z]; exact List.mem_cons_self)
    rw [valV_neg (by rw [r.1]; exact fun z => h1 (tk_inj z))]
    exact kn_none rs fun z => h (List.mem_cons_of_mem _ z)
theorem paired_len {α β : Type} {F : α → β → Prop} : ∀ {xs : List α} {ys : List β}, Paired F xs ys → xs.length = ys.length
  | _, _, .nil => rfl
  | _, _, .cons _ r => by rw [List.length_cons, List.length_cons, paired_len r]
theorem putK_new {κ : Type} [DecidableEq κ] {kvs : List (κ × V)} {k : κ} {v : V} (h : valV kvs k = none) : putK kvs k v = kvs ++ [(k, v)] := by
  unfold putK
  rw [if_neg]
  rw [valV_any, h]
  decide
/-- few letters are known -/
theorem kn_few {L : Nat → Nat → Part} {n root : Nat} {par rk : Nat → Nat} {nb : Nat → List Nat} (T : RTree n root par rk nb) (hn : n ≤ 12) {kn : List (Tie × Part)} (h : KnOk L nb kn) : kn.length ≤ 144 := by
  have hs : Sub ((List.range n).flatMap fun i => (List.range n).map fun j => (i * 12 + j)) ((keys kn).map fun t => t.1 * 12 + t.2) := by
    have lt : ∀ t ∈ keys kn, t.1 < n ∧ t.2 < n := fun t ht => by
      obtain ⟨e, he, rfl⟩ := List.mem_map.mp ht
      have := (T.nbs _ _).mp (h.tie e he)
      exact ⟨this.1, this.2.1⟩
    refine ⟨?_, fun x hx => ?_⟩
    · unfold List.Nodup
      rw [List.pairwise_map]
      refine List.Pairwise.imp_of_mem ?_ h.nd
      intro a b ha hb hne e
      have h1 := lt a ha
      have h2 := lt b hb
      exact hne (Prod.ext (by omega) (by omega))
    · obtain ⟨t, ht, rfl⟩ := List.mem_map.mp hx
      have := lt t ht
      exact List.mem_flatMap.mpr ⟨t.1, List.mem_range.mpr this.1, List.mem_map.mpr ⟨t.2, List.mem_range.mpr this.2, rfl⟩⟩
  have h1 := sub_len hs
  rw [List.length_map, List.length_flatMap] at h1
  have h2 : ((List.range n).map fun i => ((List.range n).map fun j => (i * 12 + j)).length).sum = n * n := by
    have : ∀ m : Nat, ((List.range m).map fun i => ((List.range n).map fun j => (i * 12 + j)).length).sum = m * n := fun m => by
      induction m with
      | zero => simp
      | succ m ih =>
        rw [List.range_succ, List.map_append, List.sum_append, ih]
        simp [Nat.succ_mul]
    exact this n
  rw [h2] at h1
  have h3 : n * n ≤ 12 * 12 := Nat.mul_le_mul hn hn
  unfold keys at h1
  rw [List.length_map] at h1
  omega
section
variable {P : Program} {w : World} {K : PySem.W.Frag} {mg : Str → Option Value} {base : Heap}
theorem met_letter (C : Ctx K mg) (c : Kc) (S : Kst K c) {root : Nat} {par rk : Nat → Nat} (T : TOk c root par rk) {l f : Nat} (hl : 5 ≤ l) (mr : C8.Met P w K mg base l (kC K) "rest_but" (spRB K c f) []) : C8.Met P w K mg base (l + 1) (kC K) "letter" (spLetter K c (f + 1)) [] := by
  refine met_of (k := l) C.cl C.h_k_letter c_k_letter (fun vs H Q E ⟨_, _, _, h, _⟩ => by rw [h]; rfl) fun cdv A outer s H vs Q E hr ⟨st, i, j, e, ka, ok, hj, hf, q⟩ => ?_
  subst e
  have nd := c_k_letter.nd
  have hi := ((T.tree.nbs i j).mp hj).1
  have hjn := ((T.tree.nbs i j).mp hj).2.1
  have hn12 : c.nr.length ≤ 12 := by rw [T.len]; exact ok.ok.bags
  obtain ⟨kvs, hk1, hk2⟩ := ka.known
  refine b_when (b := !(valV kvs (tk (i, j))).isSome) (tv_dnotinT hr (et_pair (ev_v 1 rfl (.int _)) (ev_v 2 rfl (.int _))) (er_f 0 rfl ka.obj C.cl C.na_known rfl) hk1) (fun hb H1 k1 => ?_) fun hb H1 k1 => ?_
  · have hnin : (i, j) ∉ keys st.known := fun z => by
      obtain ⟨v, p, _, h2, _⟩ := kn_some hk2 z
      rw [h2] at hb
      cases hb
    have ka1 := ka.mono k1
    have hbj : c.bags[j]? = some (c.bags.getD j []) := by
      rw [List.getD_eq_getElem?_getD, List.getElem?_eq_getElem (by rw [← T.len]; exact hjn)]; rfl
    refine b_dput hr (ew_call (cal_left_for C) hr (by omega) (aw_cons (Ev.go (ev_f 0 rfl ka1.obj C.cl C.na_word rfl (.str _)) fun u1 H2 k2 r1 => aw_cons (Ev.go (ev_f 0 rfl (ka1.mono k2).obj C.cl C.na_sizes rfl (S.dsz (ka1.mono k2))) fun u2 H3 k3 r2 => aw_cons (ew_mt mr hr (Nat.le_refl _) (ew_v 0 rfl ⟨rfl, ((ka1.mono k2).mono k3).obj, aw_two (ew_v 1 rfl (ew_v 2 rfl ?_))⟩))))))
    refine ⟨st, i, some j, rfl, (ka1.mono k2).mono k3, ok, hi, fun k hk1 hk2 => ?_, fun v H4 st4 fr4 ka4 ok4 ex4 hn4 hin4 r4 => aw_one ((ev_ixT (ev_f 0 rfl ka4.obj C.cl C.na_bags rfl (S.dbags ka4)) (ev_v 2 rfl (.int _)) (at_map hbj)).go fun u4 H5 k5 r5 => ?_)⟩
    · have hne : k ≠ j := by
        unfold butOk at hk2
        simpa using hk2
      have := side_less T.tree hj hk1 hne
      omega
    · have oo := ok.oo T
      have hrk := restP_ok T.tree (wd := c.wd) (bags := c.bags) oo hi (some j)
      have frA : Fr [c.a, c.ka] H H5 := ((Fr.of ((k1.trans k2).trans k3)).trans fr4).trans (Fr.of k5)
      have ka5 := ka4.mono k5
      obtain ⟨kvs5, g1, g2⟩ := ka5.known
      have hnin4 : (i, j) ∉ keys st4.known := fun z => by
        rcases hn4 _ z with z | ⟨k, hk1, hk2, hk3⟩
        · exact hnin z
        · exact side_out T.tree hk1 hk3
      have hnone := kn_none g2 hnin4
      have few := kn_few T.tree hn12 ok4.kn
      have hkl := paired_len g2
      have frT : Tp H3 H5 := fr4.tp.trans (tp_same k5)
      refine ⟨_, _, .cons (by rw [dp_str r1]; exact .str _) (.cons (dp_tp frT tup_pns (dp_mono (Same.refl _) (r2))) (.cons (dp_mono k5 r4) (.cons r5 .nil))), ⟨c.wd, c.sz, c.bags.getD j [], ROf c st i (some j), 20100, rfl, ok.ok.sz, hrk.1, hrk.2, rfl⟩, fun v6 H6 k6 r6 => ?_⟩
      have ka6 := ka5.mono k6
      obtain ⟨kvs6, g1, g2⟩ := ka6.known
      have hnone := kn_none g2 hnin4
      have hkl := paired_len g2
      refine ew_f 0 rfl ka6.obj C.cl C.na_known rfl ?_
      refine Et.go (et_pair (ev_v 1 rfl (.int _)) (ev_v 2 rfl (.int _))) fun b H7 k7 r7 => ?_
      have ka7 := ka6.mono k7
      refine ⟨c.ka, _, rfl, DPut.t (k7 _ _ g1) r7 (Nat.lt_of_le_of_lt (by omega : kvs6.length ≤ 144) (by decide)), ?_⟩
      rw [putK_new hnone]
      have hknA : c.ka ≠ c.a := ne_of ka7.known.choose_spec.1 ka7.obj (fun z => nomatch z)
      have hknP : c.ka ≠ c.pa := by
        obtain ⟨xs, hx⟩ := ka7.parts.some
        exact ne_of ka7.known.choose_spec.1 hx (fun z => nomatch z)
      have hknC : c.ka ≠ c.ca := by
        obtain ⟨xs, hx⟩ := ka7.changes.some
        exact ne_of ka7.known.choose_spec.1 hx (fun z => nomatch z)
      have hknW : c.ka ≠ c.wa := ne_of ka7.known.choose_spec.1 ka7.worths (fun z => nomatch z)
      have fr8 : Fr [c.a, c.ka] H7 (upd H7 c.ka (.dT (kvs6 ++ [(tk (i, j), v6)]))) := ⟨fun b o hb h => by rw [upd_ne (fun z => hb (by rw [z]; simp))]; exact h, fun b xs h => by
        have hb : b ≠ c.ka := fun z => by
          rw [z] at h
          rcases h with h | ⟨o, h⟩ <;> (rw [k7 _ _ g1] at h; cases h)
        rcases h with h | ⟨o, h⟩
        · exact .inl (by rw [upd_ne hb]; exact h)
        · exact .inr ⟨o, by rw [upd_ne hb]; exact h⟩⟩
      have hlet : leftP c.wd c.sz (ROf c st i (some j)) (c.bags.getD j []) = LOf c st i j := (restP_letter T.tree hj).symm
      rw [hlet] at r6
      have obj8 : (upd H7 c.ka (.dT (kvs6 ++ [(tk (i, j), v6)]))) c.a = some (.ins (kC K) c.dx (kfs c st4.many)) := by rw [upd_ne (Ne.symm hknA)]; exact ka7.obj
      have r6' : Dp K (upd H7 c.ka (.dT (kvs6 ++ [(tk (i, j), v6)]))) v6 (pp (LOf c st i j)) := dp_tp fr8.tp tup_pp (dp_mono k7 r6)
      have kn8 : Paired (KnR K (upd H7 c.ka (.dT (kvs6 ++ [(tk (i, j), v6)])))) (kvs6 ++ [(tk (i, j), v6)]) (st4.known ++ [((i, j), LOf c st i j)]) := (knR_tp ((tp_same k7).trans fr8.tp) g2).snoc ⟨rfl, r6'⟩
      have par8 := ls_fr ka7.parts (show Fr [c.ka] H7 _ from ⟨fun b o hb h => by rw [upd_ne (fun z => hb (by rw [z]; simp))]; exact h, fr8.tp⟩) (by simp; exact Ne.symm hknP) pp_tups
      have chg8 := ls_fr ka7.changes (show Fr [c.ka] H7 _ from ⟨fun b o hb h => by rw [upd_ne (fun z => hb (by rw [z]; simp))]; exact h, fr8.tp⟩) (by simp; exact Ne.symm hknC) chg_tups
      have wo8 : (upd H7 c.ka (.dT (kvs6 ++ [(tk (i, j), v6)]))) c.wa = some (.dK (st4.ws.map fun e => (Sum.inl (e.1 : Int), V.int (e.2 : Int)))) := by rw [upd_ne (Ne.symm hknW)]; exact ka7.worths
      have wl8 : Wl c.M c.B (upd H7 c.ka (.dT (kvs6 ++ [(tk (i, j), v6)]))) := fun b o hb h => by
        rw [upd_ne (fun z => hb (by rw [z]; exact S.subK))]
        exact ka7.wl b o hb h
      have gk8 : (upd H7 c.ka (.dT (kvs6 ++ [(tk (i, j), v6)]))) c.ka = some (.dT (kvs6 ++ [(tk (i, j), v6)])) := upd_same
      generalize upd H7 c.ka (.dT (kvs6 ++ [(tk (i, j), v6)])) = H8 at fr8 obj8 r6' kn8 par8 chg8 wo8 wl8 gk8 ⊢
      refine b_fld (Ev.go (ev_add (ev_f 0 rfl obj8 C.cl C.na_many rfl (.int _)) ev_int) fun v9 H9 k9 r9 => ew_v 0 rfl ⟨c.a, kC K, c.dx, _, rfl, k9 _ _ obj8, C.cl, C.na_many, by simp [kfs], ?_⟩)
      rw [dp_int r9]
      have fr9 : Fr [c.a, c.ka] H9 (upd H9 c.a (.ins (kC K) c.dx (putF "many" (.int ((st4.many : Int) + 1)) (kfs c st4.many)))) := ⟨fun b o hb h => by rw [upd_ne (fun z => hb (by rw [z]; simp))]; exact h, fun b xs h => by
        have hb : b ≠ c.a := fun z => by
          rw [z] at h
          rcases h with h | ⟨o, h⟩ <;> (rw [k9 _ _ obj8] at h; cases h)
        rcases h with h | ⟨o, h⟩
        · exact .inl (by rw [upd_ne hb]; exact h)
        · exact .inr ⟨o, by rw [upd_ne hb]; exact h⟩⟩
      have e10 : putF "many" (.int ((st4.many : Int) + 1)) (kfs c st4.many) = kfs c (st4.many + 1) := rfl
      rw [e10] at fr9 ⊢
      have hAP : c.a ≠ c.pa := by
        obtain ⟨xs, hx⟩ := par8.some
        exact ne_of obj8 hx (fun z => nomatch z)
      have hAC : c.a ≠ c.ca := by
        obtain ⟨xs, hx⟩ := chg8.some
        exact ne_of obj8 hx (fun z => nomatch z)
      have hAW : c.a ≠ c.wa := ne_of obj8 wo8 (fun z => nomatch z)
      have ka10 : KAt K c (upd H9 c.a (.ins (kC K) c.dx (kfs c (st4.many + 1)))) { st4 with known := st4.known ++ [((i, j), LOf c st i j)], many := st4.many + 1 } := by
        have f : Fr [c.a] H9 (upd H9 c.a (.ins (kC K) c.dx (kfs c (st4.many + 1)))) := ⟨fun b o hb h => by rw [upd_ne (fun z => hb (by rw [z]; simp))]; exact h, fr9.tp⟩
        refine ⟨upd_same, ls_fr (ls_mono par8 k9) f (by simp; exact Ne.symm hAP) pp_tups, ?_, ⟨kvs6 ++ [(tk (i, j), v6)], ?_, knR_tp ((tp_same k9).trans fr9.tp) kn8⟩, ls_fr (ls_mono chg8 k9) f (by simp; exact Ne.symm hAC) chg_tups, fun b o hb h => ?_⟩
        · rw [upd_ne (Ne.symm hAW)]; exact k9 _ _ wo8
        · rw [upd_ne hknA]; exact k9 _ _ gk8
        · rw [upd_ne (fun z => hb (by rw [z]; exact S.subA))]
          exact k9 _ _ (wl8 b o hb h)
      have frE : Fr [c.a, c.ka] H (upd H9 c.a (.ins (kC K) c.dx (kfs c (st4.many + 1)))) := ((((frA.trans (Fr.of k6)).trans (Fr.of k7)).trans fr8).trans (Fr.of k9)).trans fr9
      have ex10 : Ext st { st4 with known := st4.known ++ [((i, j), LOf c st i j)], many := st4.many + 1 } := ⟨ex4.parts, ex4.ws, ex4.changes, fun t ht => by
          unfold keys
          rw [List.map_append]
          exact List.mem_append_left _ (ex4.sub t ht), by
          have := ex4.many
          show st4.many + 1 + _ = _ + (st4.known ++ [_]).length
          rw [List.length_append, List.length_singleton]
          omega⟩
      have ok10 : StOk c { st4 with known := st4.known ++ [((i, j), LOf c st i j)], many := st4.many + 1 } := by
        have eL : LOf c { st4 with known := st4.known ++ [((i, j), LOf c st i j)], many := st4.many + 1 } = LOf c st := ex10.LOf
        refine ⟨ok4.ok, ?_⟩
        rw [eL]
        refine ⟨fun e he => ?_, fun e he => ?_, ?_⟩
        · rcases List.mem_append.mp he with he | he
          · exact ok4.kn.tie e he
          · rw [List.mem_singleton.mp he]; exact hj
        · rcases List.mem_append.mp he with he | he
          · have := ok4.kn.val e he
            rw [ex4.LOf] at this
            exact this
          · rw [List.mem_singleton.mp he]
        · show (keys (st4.known ++ [((i, j), LOf c st i j)])).Nodup
          unfold keys
          rw [List.map_append, List.nodup_append]
          exact ⟨ok4.kn.nd, by simp, fun a ha b hb => by
            simp at hb
            subst hb
            exact fun z => hnin4 (z ▸ ha)⟩
      have hin10 : (i, j) ∈ keys (st4.known ++ [((i, j), LOf c st i j)]) := by
        unfold keys
        rw [List.map_append]
        exact List.mem_append_right _ (by simp)
      generalize hS : ({ st4 with known := st4.known ++ [((i, j), LOf c st i j)], many := st4.many + 1 } : KS) = st10 at ka10 ex10 ok10
      have hin : (i, j) ∈ keys st10.known := by rw [← hS]; exact hin10
      generalize upd H9 c.a (.ins (kC K) c.dx (kfs c (st4.many + 1))) = H10 at ka10 frE fr9 ⊢
      obtain ⟨kvs10, g10, g11⟩ := ka10.known
      obtain ⟨v11, p11, h11, h12, h13⟩ := kn_some g11 hin
      have hv := ok10.kn.val _ h11
      rw [ex10.LOf] at hv
      have hv' : p11 = LOf c st i j := hv
      rw [hv'] at h13
      refine bw_nil (b_retv (ev_dgetT hr (er_f 0 rfl ka10.obj C.cl C.na_known rfl) (et_pair (ev_v 1 rfl (.int _)) (ev_v 2 rfl (.int _))) g10 h12 h13) fun v12 H12 k12 r12 => q v12 H12 st10 (frE.trans (Fr.of k12)) (ka10.mono k12) ok10 ex10 (fun t ht => ?_) hin r12)
      rw [← hS] at ht
      have ht' : t ∈ keys (st4.known ++ [((i, j), LOf c st i j)]) := ht
      unfold keys at ht'
      rw [List.map_append] at ht'
      rcases List.mem_append.mp ht' with ht' | ht'
      · rcases hn4 t ht' with z | ⟨k, z1, z2, z3⟩
        · exact .inl z
        · have hne : k ≠ j := by
            unfold butOk at z2
            simpa using z2
          exact .inr (side_sub T.tree hj z1 hne z3)
      · simp at ht'
        subst ht'
        exact .inr (side_self T.tree hj)
  · have hin : (i, j) ∈ keys st.known := by
      by_cases z : (i, j) ∈ keys st.known
      · exact z
      · rw [kn_none hk2 z] at hb
        cases hb
    obtain ⟨v, p, h1, h2, h3⟩ := kn_some hk2 hin
    have hv : p = LOf c st i j := ok.kn.val _ h1
    rw [hv] at h3
    exact b_retv (ev_dgetT hr (er_f 0 rfl (k1 _ _ ka.obj) C.cl C.na_known rfl) (et_pair (ev_v 1 rfl (.int _)) (ev_v 2 rfl (.int _))) (k1 _ _ hk1) h2 (dp_mono k1 h3)) fun v2 H2 k2 r2 => q v2 H2 st (Fr.of (k1.trans k2)) (ka.mono (k1.trans k2)) ok Ext.refl (fun t ht => .inl ht) hin r2
/-- letter and rest_but at every fuel -/
theorem met_lr (C : Ctx K mg) (c : Kc) (S : Kst K c) {root : Nat} {par rk : Nat → Nat} (T : TOk c root par rk) : ∀ f, C8.Met P w K mg base (6 + 2 * f) (kC K) "letter" (spLetter K c f) [] ∧ C8.Met P w K mg base (7 + 2 * f) (kC K) "rest_but" (spRB K c f) []
  | 0 => by
    have m : C8.Met P w K mg base 6 (kC K) "letter" (spLetter K c 0) [] := met_of (k := 5) C.cl C.h_k_letter c_k_letter (fun vs H Q E ⟨_, _, _, h, _⟩ => by rw [h]; rfl) fun cdv A outer s H vs Q E hr ⟨st, i, j, e, ka, ok, hj, hf, q⟩ => by
      have := side_sum T.tree hj
      omega
    exact ⟨m, met_rest_but C c S T (by decide) m⟩
  | f + 1 => by
    have ih := met_lr C c S T f
    have m := met_letter C c S T (f := f) (l := 7 + 2 * f) (by omega) ih.2
    have m2 := met_rest_but C c S T (l := 7 + 2 * f + 1) (by omega) m
    rw [show 6 + 2 * (f + 1) = 7 + 2 * f + 1 by omega, show 7 + 2 * (f + 1) = 7 + 2 * f + 1 + 1 by omega]
    exact ⟨m, m2⟩
/-- rest(i) -/
def spRest (K : PySem.W.Frag) (c : Kc) : Sp := fun vs H Q _ => ∃ st i, vs = [.ref c.a, .int ((i : Nat) : Int)] ∧ KAt K c H st ∧ StOk c st ∧ i < c.nr.length ∧
  ∀ v H' st', Fr [c.a, c.ka] H H' → KAt K c H' st' → StOk c st' → Ext st st' → (∀ k ∈ nbOf c.nr i, (k, i) ∈ keys st'.known) → Dp K H' v (pp (ROf c st i none)) → Q v H'
theorem met_rest (C : Ctx K mg) (c : Kc) (S : Kst K c) {root : Nat} {par rk : Nat → Nat} (T : TOk c root par rk) : C8.Met P w K mg base 32 (kC K) "rest" (spRest K c) [] := by
  refine met_of (k := 31) C.cl C.h_k_rest c_k_rest (fun vs H Q E ⟨_, _, h, _⟩ => by rw [h]; rfl) fun cdv A outer s H vs Q E hr ⟨st, i, e, ka, ok, hi, q⟩ => ?_
  subst e
  have nd := c_k_rest.nd
  have hn12 : c.nr.length ≤ 12 := by rw [T.len]; exact ok.ok.bags
  refine b_skip (b := !(decide ((0 : Int) ≤ (i : Int)) && decide ((i : Int) < (c.bags.length : Nat)))) (tv_not (tv_ev (ev_call (cal_is_number C) hr (by decide) (eva2 (ev_v 1 rfl (.int _)) (Ev.to (ev_lenT C.m_len (ev_f 0 rfl ka.obj C.cl C.na_bags rfl (S.dbags ka))) (by rw [List.length_map]))) ⟨_, _, rfl, rfl⟩))) (by have := T.len; simp; omega) fun H1 k1 => ?_
  refine b_ret (ew_mt (met_lr C c S T 12).2 hr (by decide) (ew_v 0 rfl ⟨rfl, (ka.mono k1).obj, aw_two (ew_v 1 rfl (ew_pe pe_non ⟨st, i, none, rfl, ka.mono k1, ok, hi, fun k hk _ => ?_, fun v H4 st4 fr4 ka4 ok4 ex4 _ hin4 r4 => q v H4 st4 ((Fr.of k1).trans fr4) ka4 ok4 ex4 (fun k hk => hin4 k hk (by simp [butOk])) r4⟩))⟩))
  exact Nat.le_trans (side_few T.tree (T.tree.sym hk)) hn12
def WOf (c : Kc) (st : KS) : Int := (leftP c.wd c.sz (ROf c st 0 none) []).2.getD 0 0
theorem left_nil {wd : Wd} {sz : List Nat} {a : Nat} {p : Part} (hz : SzOk sz) (hp : PartOk sz p) (hb : Bits a p) : (leftP wd sz p []).2[0]? = some ((leftP wd sz p []).2.getD 0 0) := by
  have l := left_ok (wd := wd) (bag := []) hz hp hb
  have e : (leftP wd sz p []).1 = [] := by
    cases h : (leftP wd sz p []).1 with
    | nil => rfl
    | cons x xs =>
      have := (l.names x).mp (by rw [h]; exact List.mem_cons_self)
      obtain ⟨h1, h2 | h2⟩ := this
      · cases h2
      · exact absurd h1 h2
  have f := l.part.full
  rw [e] at f
  rw [List.getD_eq_getElem?_getD, List.getElem?_eq_getElem (by rw [f]; exact Nat.one_pos)]
  rfl
def spWhole (K : PySem.W.Frag) (c : Kc) : Sp := fun vs H Q _ => ∃ st, vs = [.ref c.a] ∧ KAt K c H st ∧ StOk c st ∧ 0 < c.nr.length ∧
  ∀ v H' st', Fr [c.a, c.ka] H H' → KAt K c H' st' → StOk c st' → Ext st st' → Dp K H' v (.int (WOf c st)) → Q v H'
theorem met_whole (C : Ctx K mg) (c : Kc) (S : Kst K c) {root : Nat} {par rk : Nat → Nat} (T : TOk c root par rk) : C8.Met P w K mg base 32 (kC K) "whole" (spWhole K c) [] := by
  refine met_of (k := 31) C.cl C.h_k_whole c_k_whole (fun vs H Q E ⟨_, h, _⟩ => by rw [h]; rfl) fun cdv A outer s H vs Q E hr ⟨st, e, ka, ok, hi, q⟩ => ?_
  subst e
  have nd := c_k_whole.nd
  have hn12 : c.nr.length ≤ 12 := by rw [T.len]; exact ok.ok.bags
  have oo := ok.oo T
  have hrk := restP_ok T.tree (wd := c.wd) (bags := c.bags) oo hi none
  refine b_ret (ew_ix ix_tup (ew_ix ix_tup (ew_call (cal_left_for C) hr (by decide) (aw_cons (Ev.go (ev_f 0 rfl ka.obj C.cl C.na_word rfl (.str _)) fun u1 H2 k2 r1 => aw_cons (Ev.go (ev_f 0 rfl (ka.mono k2).obj C.cl C.na_sizes rfl (S.dsz (ka.mono k2))) fun u2 H3 k3 r2 => aw_cons (ew_mt (met_lr C c S T 12).2 hr (by decide) (ew_v 0 rfl ⟨rfl, ((ka.mono k2).mono k3).obj, aw_two (ew_pe pe_int (ew_pe pe_non ?_))⟩))))))))
  refine ⟨st, 0, none, rfl, (ka.mono k2).mono k3, ok, hi, fun k hk _ => ?_, fun v H4 st4 fr4 ka4 ok4 ex4 hn4 hin4 r4 => aw_one ((ev_tup (ds := []) eva_nil).go fun u4 H5 k5 r5 => ?_)⟩
  · exact Nat.le_trans (side_few T.tree (T.tree.sym hk)) hn12
  · refine ⟨_, _, .cons (by rw [dp_str r1]; exact .str _) (.cons (dp_tp (fr4.tp.trans (tp_same k5)) tup_pns r2) (.cons (dp_mono k5 r4) (.cons r5 .nil))), ⟨c.wd, c.sz, [], ROf c st 0 none, 20100, rfl, ok.ok.sz, hrk.1, hrk.2, rfl⟩, fun v6 H6 k6 r6 => ?_⟩
    refine ew_pe pe_int ?_
    obtain ⟨p1, xs, rfl, g1, g2⟩ := dp_tup r6
    obtain ⟨x1, x2, rfl, g3, g4⟩ := dpa2 g2
    refine ⟨p1, _, 1, x2, rfl, rfl, g1, at_nat (n := 1) rfl, ew_pe pe_int ?_⟩
    obtain ⟨p2, ys, rfl, g5, g6⟩ := dp_tup g4
    have e : (leftP c.wd c.sz (ROf c st 0 none) []).2[0]? = some (WOf c st) := left_nil ok.ok.sz hrk.1 hrk.2
    have hl := dpa_len g6
    obtain ⟨y, hy, ry⟩ := dpa_get (i := 0) (d := .int (WOf c st)) g6 (by rw [List.getElem?_map, e]; rfl)
    refine ⟨p2, ys, 0, y, rfl, rfl, g5, at_nat (n := 0) hy, ?_⟩
    exact q y H6 st4 ((((Fr.of (k2.trans k3)).trans fr4).trans (Fr.of k5)).trans (Fr.of k6)) ((ka4.mono k5).mono k6) ok4 ex4 ry
def spReck (K : PySem.W.Frag) (c : Kc) : Sp := fun vs H Q _ => ∃ st, vs = [.ref c.a] ∧ KAt K c H st ∧ ∀ H', Same H H' → Q (.int (st.many : Int)) H'
theorem met_reckoned (C : Ctx K mg) (c : Kc) : C8.Met P w K mg base 1 (kC K) "reckoned" (spReck K c) [] := by
  refine met_of (k := 0) C.cl C.h_k_reckoned c_k_reckoned (fun vs H Q E ⟨_, h, _⟩ => by rw [h]; rfl) fun cdv A outer s H vs Q E hr ⟨st, e, ka, q⟩ => ?_
  subst e
  exact b_retv (ev_f 0 rfl ka.obj C.cl C.na_many rfl (.int _)) fun v H1 k1 r => by rw [dp_int r]; exact q H1 k1
end
end SO
set_option Elab.async false
set_option linter.all false
set_option maxRecDepth 100000
set_option maxHeartbeats 4000000
/-! So38: touch. -/
namespace SO
open PySem PySem.Spec PyProof.Rows L2
section
variable {X : Cx} {e o : Expr} {σ : L2.St} {H : Hp} {pos p apos cpos : Pos} {x : Str} {Q : VK}
/-- list(d), d a dict with pairs as keys -/
theorem evl_listDT {K : PySem.W.Frag} {kvs : List (List L2.Key × V)} {kn : List (Tie × Part)} {ad : Addr} (hc : X.calm = true) (hm : X.mg "list" = none) (ho : Er X e σ H (.ref ad)) (hd : H ad = some (.dT kvs)) (hp : Paired (KnR K H) kvs kn) (hg : Gl X "list" := by rfl) (he : starEach [e] X.env = (false, eval e X.env) :: starEach [] X.env := by rfl) (hpl : (backTo pos (starEach [] X.env)).any (·.1) = false := by rfl) :
    EvL X (.Call (.Name "list" p) [e] [] pos) σ H ((keys kn).map tieD) := fun H1 k =>
  ew_callTy (call_list_dT hc) hm (by decide +kernel) (aw_one ((ho H1 k).mono fun v H2 ⟨k2, ev⟩ => by
    subst ev
    refine ⟨ad, kvs, rfl, .inl (k2 _ _ (k _ _ hd)), fun q bs hq hb => ⟨k2.trans (same_new hq), q, rfl, none_back k2 hq, _, upd_same, ?_⟩⟩
    have : ∀ {kvs : List (List L2.Key × V)} {kn : List (Tie × Part)} {bs : List Addr} {H3 : Hp}, Same H2 H3 → Paired (KnR K H) kvs kn → IsKeys H2 kvs bs → DpAll X.K H3 (bs.map V.ref) ((keys kn).map tieD) := by
      intro kvs kn bs H3 k3 h1 h2
      clear hp hb hd
      induction h1 generalizing bs with
      | nil => cases h2; exact .nil
      | cons r rs ih =>
        cases h2 with
        | cons hb hbs =>
          rename_i b bs'
          refine .cons ?_ ?_
          · rw [r.1] at hb
            exact .tup (.inl (.inl (k3 _ _ hb))) (.cons (.int _) (.cons (.int _) .nil))
          · exact ih hbs
    exact this (same_new hq) hp hb) he) hg (by decide) (by decide) he hpl
def tyDT (x : V) (H : Hp) : Prop := ∃ p kvs, x = .ref p ∧ H p = some (.dT kvs)
theorem tyDT_ok : TyOk X "dict" tyDT := fun pins σ H s x v I r ⟨p, kvs, e, h⟩ => by
  subst e
  exact tyV_is (T := "dict") I r (.inr (.inr (.inl ⟨rfl, .inr ⟨kvs, h⟩⟩)))
end
theorem knR_drop {K : PySem.W.Frag} {H : Hp} {t : Tie} : ∀ {kvs : List (List L2.Key × V)} {kn : List (Tie × Part)}, Paired (KnR K H) kvs kn → Paired (KnR K H) (dropK kvs (tk t)) (kn.filter fun e => !decide (e.1 = t))
  | _, _, .nil => .nil
  | _, _, .cons (a := kv) (b := e) r rs => by
    have ih := knR_drop (t := t) rs
    unfold dropK at *
    by_cases h : e.1 = t
    · rw [List.filter_cons_of_neg (by rw [r.1, h]; simp), List.filter_cons_of_neg (by simp [h])]
      exact ih
    · rw [List.filter_cons_of_pos (by rw [r.1]; simp; exact fun z => h (tk_inj z)), List.filter_cons_of_pos (by simp [h])]
      exact .cons r ih
structure KnT (nb : Nat → List Nat) (kn : List (Tie × Part)) : Prop where
  tie : ∀ e ∈ kn, e.1.2 ∈ nb e.1.1
  nd : (keys kn).Nodup
theorem KnT.filter {nb : Nat → List Nat} {kn : List (Tie × Part)} (h : KnT nb kn) (p : Tie × Part → Bool) : KnT nb (kn.filter p) := ⟨fun e he => h.tie e (List.mem_filter.mp he).1, h.nd.sublist (List.filter_sublist.map _)⟩
def tchd (c : Kc) (bags : List Nat) (t : Tie) : Bool := anyIn bags (sideOf c.nr t.1 t.2)
def touchK (c : Kc) (st : KS) (bags : List Nat) : KS := { st with known := st.known.filter fun e => !tchd c bags e.1 }
/-- a list of whole numbers stands where only other kinds change -/
theorem dp_ints_fr {K : PySem.W.Frag} {D : List Addr} {H H' : Hp} {v : V} {ns : List Nat} (h : Dp K H v (.list (ns.map pn))) (k : Fr D H H') (n : ∀ d ∈ D, ∀ xs, ¬Rd H d (.lst xs)) : Dp K H' v (.list (ns.map pn)) := by
  rw [map_pn] at h ⊢
  obtain ⟨b, xs, rfl, h1, h2⟩ := dp_lst h
  have e := dpa_ints h2
  subst e
  refine .lst ?_ dpa_of_ints
  rcases h1 with h1 | h1
  · have hb : b ∉ D := fun z => n b z _ h1
    rcases h1 with h1 | ⟨o, h1⟩
    · exact .inl (.inl (k.same _ _ hb h1))
    · exact .inl (.inr ⟨o, k.same _ _ hb h1⟩)
  · exact .inr h1
def spTouch (K : PySem.W.Frag) (c : Kc) : Sp := fun vs H Q _ => ∃ st bags vb, vs = [.ref c.a, vb] ∧ Dp K H vb (.list (bags.map pn)) ∧ KAt K c H st ∧ KnT (nbOf c.nr) st.known ∧ c.nr.length ≤ 12 ∧
  ∀ H', Fr [c.ka] H H' → KAt K c H' (touchK c st bags) → Q .non H'
theorem fr_one {H : Hp} {a : Addr} {o : HO} (h : ∀ xs, ¬Rd H a (.tup xs)) : Fr [a] H (upd H a o) := ⟨fun b u hb hu => by rw [upd_ne (fun z => hb (by rw [z]; simp))]; exact hu, fun b xs h' => by
  have hb : b ≠ a := fun z => h xs (z ▸ h')
  rcases h' with h' | ⟨o, h'⟩
  · exact .inl (by rw [upd_ne hb]; exact h')
  · exact .inr ⟨o, by rw [upd_ne hb]; exact h'⟩⟩
theorem not_rd {H : Hp} {a : Addr} {u o : HO} (h : H a = some u) (n1 : u ≠ o) (n2 : ∀ ob, u ≠ .frz ob o) : ¬Rd H a o := fun z => by
  rcases z with z | ⟨ob, z⟩
  · rw [h] at z; exact n1 (Option.some.inj z)
  · rw [h] at z; exact n2 ob (Option.some.inj z)
section
variable {K : PySem.W.Frag} {c : Kc} {H : Hp} {st : KS}
theorem KAt.neK (h : KAt K c H st) : c.ka ≠ c.a ∧ c.ka ≠ c.pa ∧ c.ka ≠ c.wa ∧ c.ka ≠ c.ca := by
  obtain ⟨kvs, h1, _⟩ := h.known
  obtain ⟨xs, h2⟩ := h.parts.some
  obtain ⟨ys, h3⟩ := h.changes.some
  exact ⟨ne_of h1 h.obj (fun z => nomatch z), ne_of h1 h2 (fun z => nomatch z), ne_of h1 h.worths (fun z => nomatch z), ne_of h1 h3 (fun z => nomatch z)⟩
/-- other letters are known -/
theorem KAt.putKn (h : KAt K c H st) (S : Kst K c) {kvs : List (List L2.Key × V)} {kn : List (Tie × Part)} (hp : Paired (KnR K H) kvs kn) : KAt K c (upd H c.ka (.dT kvs)) { st with known := kn } ∧ Fr [c.ka] H (upd H c.ka (.dT kvs)) := by
  obtain ⟨n1, n2, n3, n4⟩ := h.neK
  obtain ⟨kvs0, h1, _⟩ := h.known
  have f : Fr [c.ka] H (upd H c.ka (.dT kvs)) := fr_one fun xs => not_rd h1 (fun z => nomatch z) fun ob z => nomatch z
  refine ⟨⟨by rw [upd_ne (Ne.symm n1)]; exact h.obj, ls_fr h.parts f (by simp; exact Ne.symm n2) pp_tups, by rw [upd_ne (Ne.symm n3)]; exact h.worths, ⟨kvs, upd_same, knR_tp f.tp hp⟩, ls_fr h.changes f (by simp; exact Ne.symm n4) chg_tups, h.wl.fr f fun d hd => .inl (by rw [List.mem_singleton.mp hd]; exact S.subK)⟩, f⟩
end
section
variable {P : Program} {w : World} {K : PySem.W.Frag} {mg : Str → Option Value} {base : Heap}
theorem met_touch (C : Ctx K mg) (c : Kc) (S : Kst K c) {root : Nat} {par rk : Nat → Nat} (T : TOk c root par rk) : C8.Met P w K mg base 2 (kC K) "touch" (spTouch K c) [] := by
  refine met_of (k := 1) C.cl C.h_k_touch c_k_touch (fun vs H Q E ⟨_, _, _, h, _⟩ => by rw [h]; rfl) fun cdv A outer s H vs Q E hr ⟨st, bags, vb, e, rb, ka, kt, hn, q⟩ => ?_
  subst e
  have nd := c_k_touch.nd
  obtain ⟨kvs, hk1, hk2⟩ := ka.known
  have nro := nrOk hn T.tree
  refine b_forN (g_two 2 3 rfl nd) rfl (evl_listDT (K := K) rfl C.m_list (er_f 0 rfl ka.obj C.cl C.na_known rfl) hk1 hk2) fun ql xs H1 nl k1 hx hd => ⟨fun m σ' H' => ∃ o2 o3, σ' = [some (.ref c.a), some vb, o2, o3, none] ∧ Fr [c.ka] H1 H' ∧ KAt K c H' { st with known := st.known.filter fun e => !(decide (e.1 ∈ (keys st.known).take m) && tchd c bags e.1) },
    ⟨none, none, rfl, Fr.refl, ?_⟩, fun m σ' H' ⟨_, _, _, fr, _⟩ => fr.same _ _ (fun z => ?_) hx, ?_, ?_⟩
  · have : (st.known.filter fun e => !(decide (e.1 ∈ (keys st.known).take 0) && tchd c bags e.1)) = st.known := List.filter_eq_self.mpr fun e he => by simp
    rw [this]
    exact ka.mono k1
  · rw [List.mem_singleton.mp z] at nl
    rw [nl] at hk1
    cases hk1
  · rintro m d v σ' H' hd2 hv rv ⟨o2, o3, rfl, fr, ka'⟩
    rw [List.getElem?_map] at hd2
    obtain ⟨t, ht, rfl⟩ := Option.map_eq_some_iff.mp hd2
    have hmem := List.mem_of_getElem? ht
    obtain ⟨e, he, rfl⟩ := List.mem_map.mp hmem
    have hnb := kt.tie e he
    have hi := ((T.tree.nbs _ _).mp hnb).1
    have htk : (keys st.known).take (m + 1) = (keys st.known).take m ++ [e.1] := by rw [List.take_succ, ht]; rfl
    have hnin : e.1 ∉ (keys st.known).take m := fun z => by
      obtain ⟨j, hj, ej⟩ := List.mem_take_iff_getElem.mp z
      obtain ⟨hm, e2⟩ := List.getElem?_eq_some_iff.mp ht
      have h1 := List.pairwise_iff_getElem.mp kt.nd j m (by omega) hm (by omega)
      exact h1 (ej.trans e2.symm)
    have frH : Fr [c.ka] H H' := (Fr.of k1).trans fr
    have rb' : Dp K H' vb (.list (bags.map pn)) := dp_ints_fr rb frH fun d hd xs => by
      rw [List.mem_singleton.mp hd]
      exact not_rd hk1 (fun z => nomatch z) fun ob z => nomatch z
    refine g2_go (dp_tp fr.tp rfl rv) fun w1 w2 q1 q2 => ?_
    rw [dp_int q1, dp_int q2]
    have sfew := (sideOf_nm nro hi (j := e.1.2)).few
    refine b_when (b := (sideOf c.nr e.1.1 e.1.2).any fun b => decide (b ∈ bags)) (tv_ev (ev_anyM rfl C.m_any (EvL.ev (evl_lc (lcv_L (xs := sideOf c.nr e.1.1 e.1.2) (enc := pn) (f := fun b => .bool (decide (b ∈ bags))) [("bag", 4)] 4 rfl nd (EvL.ev (evl_call (cal_side_of C) hr (by decide) (eva3 (ev_f 0 rfl ka'.obj C.cl C.na_near rfl (S.dnear ka')) (ev_v 2 rfl (.int _)) (ev_v 3 rfl (.int _))) ⟨c.nr, e.1.1, e.1.2, rfl, nro, hi, rfl⟩)) (blkOk_by (N := n_k_touch) (sc := defScope s_k_touch) (by decide +kernel)) (by omega) (fun _ _ => rfl) fun a ha v H5 k5 r5 => ?_))))) (fun hb H2 k2 => ?_) fun hb H2 k2 => bw_nil ⟨_, _, rfl, fr.trans (Fr.of k2), ?_⟩
    · intro s' H0 C' cl fp
      exact ev_inL (ev_v 4 rfl r5) (ev_v 1 rfl (dp_mono k5 rb'))
    · have ka2 := ka'.mono k2
      obtain ⟨kvs2, g1, g2⟩ := ka2.known
      have hin : e.1 ∈ keys (st.known.filter fun e => !(decide (e.1 ∈ (keys st.known).take m) && tchd c bags e.1)) := List.mem_map.mpr ⟨e, List.mem_filter.mpr ⟨he, by rw [decide_eq_false hnin]; rfl⟩, rfl⟩
      obtain ⟨v5, p5, _, h6, _⟩ := kn_some g2 hin
      refine b_expr (ew_m tyDT_ok PySem.F.plainAttrs_dict PySem.F.slot_dict_pop (mt_pop1T (room_in hr)) (ew_f 0 rfl ka2.obj C.cl C.na_known rfl ⟨⟨c.ka, kvs2, rfl, g1⟩, aw_one (Et.go (et_pair (ev_v 2 rfl (.int _)) (ev_v 3 rfl (.int _))) fun b H3 k3 r3 => ⟨c.ka, kvs2, tk (e.1.1, e.1.2), b, v5, rfl, rfl, k3 _ _ g1, r3, h6, ?_⟩)⟩))
      have ka3 := ka2.mono k3
      obtain ⟨k4, f4⟩ := ka3.putKn S (knR_drop (t := e.1) (knR_tp (tp_same k3) g2))
      refine bw_nil (bw_nil ⟨_, _, rfl, ((fr.trans (Fr.of k2)).trans (Fr.of k3)).trans f4, ?_⟩)
      have e1 : ((st.known.filter fun e => !(decide (e.1 ∈ (keys st.known).take m) && tchd c bags e.1)).filter fun u => !decide (u.1 = e.1)) = st.known.filter fun e => !(decide (e.1 ∈ (keys st.known).take (m + 1)) && tchd c bags e.1) := by
        rw [List.filter_filter, htk]
        apply List.filter_congr
        intro u hu
        have ht1 : tchd c bags e.1 = true := hb
        by_cases z : u.1 = e.1
        · simp [z, ht1]
        · simp [z]
      rw [e1] at k4
      exact k4
    · have e1 : (st.known.filter fun e => !(decide (e.1 ∈ (keys st.known).take m) && tchd c bags e.1)) = st.known.filter fun e => !(decide (e.1 ∈ (keys st.known).take (m + 1)) && tchd c bags e.1) := by
        rw [htk]
        apply List.filter_congr
        intro u hu
        have ht1 : tchd c bags e.1 = false := hb
        by_cases z : u.1 = e.1
        · simp [z, ht1]
        · simp [z]
      rw [← e1]
      exact ka'.mono k2
  · rintro σ' H' ⟨o2, o3, rfl, fr, ka'⟩
    refine bw_nil (q H' ((Fr.of k1).trans fr) ?_)
    rw [List.length_map, List.take_length] at ka'
    have e1 : (st.known.filter fun e => !(decide (e.1 ∈ keys st.known) && tchd c bags e.1)) = st.known.filter fun e => !tchd c bags e.1 := by
      apply List.filter_congr
      intro u hu
      rw [decide_eq_true (show u.1 ∈ keys st.known from List.mem_map.mpr ⟨u, hu, rfl⟩), Bool.true_and]
    rw [e1] at ka'
    exact ka'
end
end SO
set_option Elab.async false
set_option linter.all false
set_option maxRecDepth 100000
set_option maxHeartbeats 4000000
/-! So39: lay, fix. -/
namespace SO
open PySem PySem.Spec PyProof.Rows L2
section
variable {X : Cx} {e o : Expr} {σ : L2.St} {H : Hp} {pos p apos cpos pos2 : Pos} {x : Str} {Q : VK}
theorem tv_isN {b : Option Nat} {j} (h : Ev X e σ H (optD b)) : Tv X (.Compare e [.Is] [.Constant .none j pos2] pos) σ H b.isNone := fun H1 k =>
  tw_pt (pt_cmp (pc_isN pe_ew)) (show EW X e σ H1 _ from (h H1 k).mono fun v H2 ⟨k2, r⟩ => by
    cases b with
    | none => rw [dp_non r]; exact ⟨_, rfl, k2, rfl⟩
    | some m => rw [dp_int r]; exact ⟨_, rfl, k2, rfl⟩)
end
theorem KAt.neP {K : PySem.W.Frag} {c : Kc} {H : Hp} {st : KS} (h : KAt K c H st) (S : Kst K c) : c.pa ≠ c.a ∧ c.pa ≠ c.ka ∧ c.pa ≠ c.wa ∧ c.pa ≠ c.ca := by
  obtain ⟨kvs, h1, _⟩ := h.known
  obtain ⟨xs, h2⟩ := h.parts.some
  exact ⟨ne_of h2 h.obj (fun z => nomatch z), ne_of h2 h1 (fun z => nomatch z), ne_of h2 h.worths (fun z => nomatch z), S.nePC⟩
theorem KAt.putP {K : PySem.W.Frag} {c : Kc} {H : Hp} {st : KS} (h : KAt K c H st) (S : Kst K c) {xs : List V} {ps : List Part} (hp : DpAll K H xs (ps.map pp)) : KAt K c (upd H c.pa (.lst xs)) { st with parts := ps } ∧ Fr [c.pa] H (upd H c.pa (.lst xs)) := by
  obtain ⟨n1, n2, n3, n4⟩ := h.neP S
  obtain ⟨kvs, h1, hk⟩ := h.known
  obtain ⟨xs0, h2⟩ := h.parts.some
  have f : Fr [c.pa] H (upd H c.pa (.lst xs)) := fr_one fun xs => not_rd h2 (fun z => nomatch z) fun ob z => nomatch z
  refine ⟨⟨by rw [upd_ne (Ne.symm n1)]; exact h.obj, ⟨xs, upd_same, dpa_tp f.tp pp_tups hp⟩, by rw [upd_ne (Ne.symm n3)]; exact h.worths, ⟨kvs, by rw [upd_ne (Ne.symm n2)]; exact h1, knR_tp f.tp hk⟩, ls_fr h.changes f (by simp; exact Ne.symm n4) chg_tups, h.wl.fr f fun d hd => .inl (by rw [List.mem_singleton.mp hd]; exact S.subP)⟩, f⟩
theorem KAt.neW {K : PySem.W.Frag} {c : Kc} {H : Hp} {st : KS} (h : KAt K c H st) : c.wa ≠ c.a ∧ c.wa ≠ c.ka ∧ c.wa ≠ c.pa ∧ c.wa ≠ c.ca := by
  obtain ⟨kvs, h1, _⟩ := h.known
  obtain ⟨xs, h2⟩ := h.parts.some
  obtain ⟨ys, h3⟩ := h.changes.some
  exact ⟨ne_of h.worths h.obj (fun z => nomatch z), ne_of h.worths h1 (fun z => nomatch z), ne_of h.worths h2 (fun z => nomatch z), ne_of h.worths h3 (fun z => nomatch z)⟩
theorem KAt.putW {K : PySem.W.Frag} {c : Kc} {H : Hp} {st : KS} (h : KAt K c H st) (S : Kst K c) (ws : List (Nat × Nat)) : KAt K c (upd H c.wa (.dK (wsV ws))) { st with ws := ws } ∧ Fr [c.wa] H (upd H c.wa (.dK (wsV ws))) := by
  obtain ⟨n1, n2, n3, n4⟩ := h.neW
  obtain ⟨kvs, h1, hk⟩ := h.known
  have f : Fr [c.wa] H (upd H c.wa (.dK (wsV ws))) := fr_one fun xs => not_rd h.worths (fun z => nomatch z) fun ob z => nomatch z
  refine ⟨⟨by rw [upd_ne (Ne.symm n1)]; exact h.obj, ls_fr h.parts f (by simp; exact Ne.symm n3) pp_tups, upd_same, ⟨kvs, by rw [upd_ne (Ne.symm n2)]; exact h1, knR_tp f.tp hk⟩, ls_fr h.changes f (by simp; exact Ne.symm n4) chg_tups, h.wl.fr f fun d hd => .inl (by rw [List.mem_singleton.mp hd]; exact S.subW)⟩, f⟩
theorem ixN_at {n j : Nat} (hj : j < n) : ixN n (j : Int) = some j := by
  unfold ixN
  rw [if_pos (by omega), if_pos (by omega)]
  rfl
def setP (ps : List Part) (k : Nat) (ws : List Int) : List Part := ps.set k ((ps.getD k ([], [])).1, ws)
def layK (c : Kc) (st : KS) (k : Nat) (ws : List Int) : KS := touchK c { st with parts := setP st.parts k ws } [c.laid.getD k 0]
def spLay (K : PySem.W.Frag) (c : Kc) : Sp := fun vs H Q _ => ∃ st k ws vw, vs = [.ref c.a, .int ((k : Nat) : Int), vw] ∧ Dp K H vw (pis ws) ∧ KAt K c H st ∧ KnT (nbOf c.nr) st.known ∧ c.nr.length ≤ 12 ∧ k < st.parts.length ∧ st.parts.length = c.laid.length ∧
  ∀ H', Fr [c.ka, c.pa] H H' → KAt K c H' (layK c st k ws) → Q .non H'
theorem getD_part {ps : List Part} {k : Nat} (h : k < ps.length) : ps[k]? = some (ps.getD k ([], [])) := by
  rw [List.getD_eq_getElem?_getD, List.getElem?_eq_getElem h]; rfl
section
variable {P : Program} {w : World} {K : PySem.W.Frag} {mg : Str → Option Value} {base : Heap}
theorem met_lay (C : Ctx K mg) (c : Kc) (S : Kst K c) {root : Nat} {par rk : Nat → Nat} (T : TOk c root par rk) : C8.Met P w K mg base 3 (kC K) "lay" (spLay K c) [] := by
  refine met_of (k := 2) C.cl C.h_k_lay c_k_lay (fun vs H Q E ⟨_, _, _, _, h, _⟩ => by rw [h]; rfl) fun cdv A outer s H vs Q E hr ⟨st, k, ws, vw, e, rw', ka, kt, hn, hk, hl, q⟩ => ?_
  subst e
  have nd := c_k_lay.nd
  refine b_setL (Ev.go (d := pp ((st.parts.getD k ([], [])).1, ws)) (Ev.to (ev_tup (eva2 (ev_ixT (ev_ixL (ev_f 0 rfl ka.obj C.cl C.na_parts rfl ka.parts.dp) (ev_v 1 rfl (.int _)) (at_map (getD_part hk))) ev_int (at_nat (n := 0) rfl)) (ev_v 2 rfl rw'))) rfl) fun v H1 k1 r1 => ew_f 0 rfl (ka.mono k1).obj C.cl C.na_parts rfl (ew_v 1 rfl ?_))
  have ka1 := ka.mono k1
  obtain ⟨xs, h1, h2⟩ := ka1.parts
  have hxl := dpa_len h2
  rw [List.length_map] at hxl
  refine ⟨c.pa, xs, k, k, rfl, rfl, h1, ixN_at (by omega), ?_⟩
  have hset : DpAll K H1 (xs.set k v) ((setP st.parts k ws).map pp) := by
    unfold setP
    rw [List.map_set]
    exact dpa_set r1 k h2
  obtain ⟨ka2, f2⟩ := ka1.putP S hset
  generalize upd H1 c.pa (.lst (xs.set k v)) = H2 at ka2 f2 ⊢
  refine b_expr (ew_mt (met_touch C c S T) hr (by decide) (ew_v 0 rfl ⟨rfl, ka2.obj, aw_one (EvL.go (evl_lst (eva1 (ev_ixL (ev_f 0 rfl ka2.obj C.cl C.na_laid rfl (S.dlaid ka2)) (ev_v 1 rfl (.int _)) (at_map (getD_len (by omega)))))) fun q1 H3 n3 k3 l3 => ⟨_, [c.laid.getD k 0], _, rfl, l3.dp, ka2.mono k3, kt, hn, fun H4 f4 ka4 => bw_nil (q H4 ?_ ka4)⟩)⟩))
  have a1 : Fr [c.ka, c.pa] H H3 := ((Fr.of k1).trans (f2.mono (by simp))).trans (Fr.of k3)
  exact a1.trans (f4.mono (by simp))
def putW (ws : List (Nat × Nat)) (n u : Nat) : List (Nat × Nat) := if (ws.any fun e => decide (e.1 = n)) = true then ws.map (fun e => if e.1 = n then (e.1, u) else e) else ws ++ [(n, u)]
def dropW (ws : List (Nat × Nat)) (n : Nat) : List (Nat × Nat) := ws.filter fun e => decide (e.1 ≠ n)
theorem wsV_put (ws : List (Nat × Nat)) (n u : Nat) : putK (wsV ws) (Sum.inl (n : Int)) (V.int (u : Int)) = wsV (putW ws n u) := by
  unfold putK putW wsV
  have e : ((ws.map fun e => ((Sum.inl (e.1 : Int), V.int (e.2 : Int)) : L2.Key × V)).any fun kv => decide (kv.1 = Sum.inl (n : Int))) = ws.any fun e => decide (e.1 = n) := by
    rw [List.any_map]
    congr 1
    funext e
    simp
    omega
  rw [e]
  split
  · rw [List.map_map, List.map_map]
    apply List.map_congr_left
    intro e _
    by_cases h : e.1 = n
    · simp [h]
    · simp [h]
      omega
  · rw [List.map_append]
    rfl
theorem wsV_drop (ws : List (Nat × Nat)) (n : Nat) : dropK (wsV ws) (Sum.inl (n : Int)) = wsV (dropW ws n) := by
  unfold dropK dropW wsV
  rw [List.filter_map]
  congr 1
  apply List.filter_congr
  intro e _
  by_cases h : e.1 = n
  · simp [h]
  · simp [h]
    omega
theorem lookup_ne {e : Nat × Nat} {ws : List (Nat × Nat)} {m : Nat} (h : m ≠ e.1) : (e :: ws).lookup m = ws.lookup m := by
  rw [List.lookup_cons, beq_eq_false_iff_ne.mpr h]
theorem lookup_eq {e : Nat × Nat} {ws : List (Nat × Nat)} {m : Nat} (h : m = e.1) : (e :: ws).lookup m = some e.2 := by
  rw [List.lookup_cons, beq_iff_eq.mpr h]
theorem lookup_map (n u m : Nat) : ∀ ws : List (Nat × Nat), (ws.map fun e => if e.1 = n then (e.1, u) else e).lookup m = (ws.lookup m).map fun x => if m = n then u else x
  | [] => rfl
  | e :: ws => by
    have ih := lookup_map n u m ws
    rw [List.map_cons]
    by_cases hm : m = e.1
    · rw [lookup_eq hm]
      by_cases he : e.1 = n
      · rw [if_pos he, lookup_eq (e := (e.1, u)) hm]
        simp [hm, he]
      · rw [if_neg he, lookup_eq hm]
        simp [hm, he]
    · rw [lookup_ne hm]
      by_cases he : e.1 = n
      · rw [if_pos he, lookup_ne (e := (e.1, u)) hm]
        exact ih
      · rw [if_neg he, lookup_ne hm]
        exact ih
theorem lookup_any (n : Nat) : ∀ ws : List (Nat × Nat), (ws.any fun e => decide (e.1 = n)) = (ws.lookup n).isSome
  | [] => rfl
  | e :: ws => by
    rw [List.any_cons, lookup_any n ws]
    by_cases he : n = e.1
    · rw [lookup_eq he, decide_eq_true he.symm]
      rfl
    · rw [lookup_ne he, decide_eq_false (Ne.symm he)]
      rfl
theorem lookup_snoc (n u m : Nat) : ∀ ws : List (Nat × Nat), (ws ++ [(n, u)]).lookup m = match ws.lookup m with
    | some x => some x
    | none => if m = n then some u else none
  | [] => by
    by_cases h : m = n
    · rw [List.nil_append, lookup_eq h]
      simp [h]
    · rw [List.nil_append, lookup_ne h]
      simp [h]
  | e :: ws => by
    have ih := lookup_snoc n u m ws
    rw [List.cons_append]
    by_cases hm : m = e.1
    · rw [lookup_eq hm, lookup_eq hm]
    · rw [lookup_ne hm, lookup_ne hm]
      exact ih
theorem lookup_put (ws : List (Nat × Nat)) (n u m : Nat) : (putW ws n u).lookup m = if m = n then some u else ws.lookup m := by
  unfold putW
  rw [lookup_any]
  by_cases h : (ws.lookup n).isSome = true
  · rw [if_pos h, lookup_map]
    by_cases hm : m = n
    · subst hm
      rw [if_pos rfl]
      cases e : ws.lookup m with
      | none => rw [e] at h; cases h
      | some x => simp
    · rw [if_neg hm]
      cases ws.lookup m <;> simp [hm]
  · rw [if_neg h, lookup_snoc]
    by_cases hm : m = n
    · subst hm
      cases e : ws.lookup m with
      | none => rfl
      | some x => rw [e] at h; exact absurd rfl h
    · rw [if_neg hm, if_neg hm]
      cases ws.lookup m <;> rfl
theorem lookup_drop (n m : Nat) : ∀ ws : List (Nat × Nat), (dropW ws n).lookup m = if m = n then none else ws.lookup m
  | [] => by simp [dropW]
  | e :: ws => by
    have ih := lookup_drop n m ws
    unfold dropW at *
    by_cases he : e.1 = n
    · rw [List.filter_cons_of_neg (by simp [he]), ih]
      by_cases hm : m = n
      · rw [if_pos hm, if_pos hm]
      · rw [if_neg hm, if_neg hm, lookup_ne (by rw [he]; exact hm)]
    · rw [List.filter_cons_of_pos (by simp [he])]
      by_cases hm : m = e.1
      · rw [lookup_eq hm, if_neg (by rw [hm]; exact he), lookup_eq hm]
      · rw [lookup_ne hm, ih, lookup_ne hm]
end
end SO
set_option Elab.async false
set_option linter.all false
set_option maxRecDepth 100000
set_option maxHeartbeats 4000000
/-! So40: fix, put, settle, free, back. -/
namespace SO
open PySem PySem.Spec PyProof.Rows L2
def bagsWith (bags : List (List Nat)) (n : Nat) : List Nat := (bags.zipIdx.filter fun a => decide (n ∈ a.1)).map fun a => a.2
def setW (ws : List (Nat × Nat)) (n : Nat) (u : Option Nat) : List (Nat × Nat) := match u with
  | none => dropW ws n
  | some u => putW ws n u
def fixK (c : Kc) (st : KS) (n : Nat) (u : Option Nat) : KS := touchK c { st with ws := setW st.ws n u } (bagsWith c.bags n)
def spFix (K : PySem.W.Frag) (c : Kc) : Sp := fun vs H Q _ => ∃ st n u vu, vs = [.ref c.a, .int ((n : Nat) : Int), vu] ∧ Dp K H vu (optD u) ∧ KAt K c H st ∧ KnT (nbOf c.nr) st.known ∧ c.nr.length ≤ 12 ∧ c.bags.length ≤ 12 ∧ (∀ b ∈ c.bags, b.length ≤ 1000) ∧ (u = none → (held st.ws n).isSome = true) ∧ st.ws.length ≤ 1000 ∧
  ∀ H', Fr [c.ka, c.wa] H H' → KAt K c H' (fixK c st n u) → Q .non H'
theorem KAt.putC {K : PySem.W.Frag} {c : Kc} {H : Hp} {st : KS} (h : KAt K c H st) (S : Kst K c) {xs : List V} {cs : List Chg} (hp : DpAll K H xs (cs.map chgD)) : KAt K c (upd H c.ca (.lst xs)) { st with changes := cs } ∧ Fr [c.ca] H (upd H c.ca (.lst xs)) := by
  obtain ⟨kvs, h1, hk⟩ := h.known
  obtain ⟨xs0, h2⟩ := h.changes.some
  have n1 : c.ca ≠ c.a := ne_of h2 h.obj (fun z => nomatch z)
  have n2 : c.ca ≠ c.ka := ne_of h2 h1 (fun z => nomatch z)
  have n3 : c.ca ≠ c.wa := ne_of h2 h.worths (fun z => nomatch z)
  have n4 : c.ca ≠ c.pa := Ne.symm S.nePC
  have f : Fr [c.ca] H (upd H c.ca (.lst xs)) := fr_one fun xs => not_rd h2 (fun z => nomatch z) fun ob z => nomatch z
  refine ⟨⟨by rw [upd_ne (Ne.symm n1)]; exact h.obj, ls_fr h.parts f (by simp; exact Ne.symm n4) pp_tups, by rw [upd_ne (Ne.symm n3)]; exact h.worths, ⟨kvs, by rw [upd_ne (Ne.symm n2)]; exact h1, knR_tp f.tp hk⟩, ⟨xs, upd_same, dpa_tp f.tp chg_tups hp⟩, h.wl.fr f fun d hd => .inl (by rw [List.mem_singleton.mp hd]; exact S.subC)⟩, f⟩
section
variable {P : Program} {w : World} {K : PySem.W.Frag} {mg : Str → Option Value} {base : Heap}
theorem met_fix (C : Ctx K mg) (c : Kc) (S : Kst K c) {root : Nat} {par rk : Nat → Nat} (T : TOk c root par rk) : C8.Met P w K mg base 3 (kC K) "fix" (spFix K c) [] := by
  refine met_of (k := 2) C.cl C.h_k_fix c_k_fix (fun vs H Q E ⟨_, _, _, _, h, _⟩ => by rw [h]; rfl) fun cdv A outer s H vs Q E hr ⟨st, n, u, vu, e, ru, ka, kt, hn, hbl, hb, hu, hw, q⟩ => ?_
  subst e
  have nd := c_k_fix.nd
  refine b_ifv (b := u.isNone) (tv_isN (ev_v 2 rfl ru)) (fun hb1 H1 k1 => ?_) (fun hb1 H1 k1 => ?_)
  · have hun : u = none := by cases u with
      | none => rfl
      | some x => cases hb1
    subst hun
    have hs := hu rfl
    have ka1 := ka.mono k1
    obtain ⟨v0, hv0⟩ := Option.isSome_iff_exists.mp hs
    refine b_expr (ew_pe (pe_dpop1 pe_ew pe_ew ⟨rfl, rfl, rfl, rfl⟩) (show EW _ _ _ _ _ from ew_f 0 rfl ka1.obj C.cl C.na_worths rfl ⟨c.wa, rfl, .inl ⟨_, .inl ka1.worths⟩, ew_v 1 rfl ⟨wsV st.ws, Sum.inl (n : Int), .int (v0 : Int), ka1.worths, rfl, ?_, ?_⟩⟩))
    · rw [wsV_val, show st.ws.lookup n = some v0 from hv0]; rfl
    · rw [wsV_drop]
      obtain ⟨ka2, f2⟩ := ka1.putW S (dropW st.ws n)
      generalize upd H1 c.wa (.dK (wsV (dropW st.ws n))) = H2 at ka2 f2 ⊢
      refine bw_nil (b_expr (ew_mt (met_touch C c S T) hr (by decide) (ew_v 0 rfl ⟨rfl, ka2.obj, aw_one (EvL.go (EvL.to (evl_lc (lcv_two (xs := c.bags.zipIdx) (enc := fun a => pn a.2) (enc2 := fun a => pns a.1) (f := fun a => pn a.2) (c := fun a => decide (n ∈ a.1)) (β := Nat) [("i", 3), ("bag", 4)] 3 4 rfl nd (pi_enumT C.m_enumerate pa_aw) (src_conv (src_enumT (ev_f 0 rfl ka2.obj C.cl C.na_bags rfl (S.dbags ka2))) (by rw [List.length_map, List.length_zipIdx]) fun m x H' h => by
        rw [List.zipIdx_map, List.map_map] at h
        exact h) (blkOk_by (N := n_k_fix) (sc := defScope s_k_fix) (by decide +kernel)) (fun _ _ _ _ _ => g_two 3 4 rfl nd) pts_blk (by rw [List.length_zipIdx]; omega) (fun _ _ _ => rfl) (fun a ha v u H5 k5 q1 q2 Q q s' H0 C' cl fp => Tv.go (tv_inT (ev_v 1 rfl (.int _)) (ev_v 4 rfl q2)) q) (fun a ha v u H5 k5 q1 q2 hc s' H0 C' cl fp => ev_v 3 rfl q1))) (es := (bagsWith c.bags n).map pn) (by unfold bagsWith; rw [List.map_map]; rfl)) fun q1 H3 n3 k3 l3 => ⟨_, bagsWith c.bags n, _, rfl, l3.dp, ka2.mono k3, kt, hn, fun H4 f4 ka4 => bw_nil (q H4 ?_ ka4)⟩)⟩)))
      exact (((Fr.of k1).trans (f2.mono (by simp))).trans (Fr.of k3)).trans (f4.mono (by simp))
  · cases u with
    | none => cases hb1
    | some u =>
      have ka1 := ka.mono k1
      have eu := dp_int ru
      refine b_dput hr (Ev.go (ev_v 2 rfl (dp_mono k1 ru)) fun v H2 k2 r2 => ew_f 0 rfl (ka1.mono k2).obj C.cl C.na_worths rfl (ew_v 1 rfl ⟨c.wa, _, rfl, DPut.k (k := Sum.inl (n : Int)) (ka1.mono k2).worths (by rw [List.length_map]; exact Nat.lt_of_le_of_lt hw (by decide)), ?_⟩))
      rw [dp_int r2, show (st.ws.map fun e => (Sum.inl (e.1 : Int), V.int (e.2 : Int))) = wsV st.ws from rfl, wsV_put]
      obtain ⟨ka2, f2⟩ := (ka1.mono k2).putW S (putW st.ws n u)
      generalize upd H2 c.wa (.dK (wsV (putW st.ws n u))) = H2' at ka2 f2 ⊢
      refine bw_nil (b_expr (ew_mt (met_touch C c S T) hr (by decide) (ew_v 0 rfl ⟨rfl, ka2.obj, aw_one (EvL.go (EvL.to (evl_lc (lcv_two (xs := c.bags.zipIdx) (enc := fun a => pn a.2) (enc2 := fun a => pns a.1) (f := fun a => pn a.2) (c := fun a => decide (n ∈ a.1)) (β := Nat) [("i", 3), ("bag", 4)] 3 4 rfl nd (pi_enumT C.m_enumerate pa_aw) (src_conv (src_enumT (ev_f 0 rfl ka2.obj C.cl C.na_bags rfl (S.dbags ka2))) (by rw [List.length_map, List.length_zipIdx]) fun m x H' h => by
        rw [List.zipIdx_map, List.map_map] at h
        exact h) (blkOk_by (N := n_k_fix) (sc := defScope s_k_fix) (by decide +kernel)) (fun _ _ _ _ _ => g_two 3 4 rfl nd) pts_blk (by rw [List.length_zipIdx]; omega) (fun _ _ _ => rfl) (fun a ha v u H5 k5 q1 q2 Q q s' H0 C' cl fp => Tv.go (tv_inT (ev_v 1 rfl (.int _)) (ev_v 4 rfl q2)) q) (fun a ha v u H5 k5 q1 q2 hc s' H0 C' cl fp => ev_v 3 rfl q1))) (es := (bagsWith c.bags n).map pn) (by unfold bagsWith; rw [List.map_map]; rfl)) fun q1 H3 n3 k3 l3 => ⟨_, bagsWith c.bags n, _, rfl, l3.dp, ka2.mono k3, kt, hn, fun H4 f4 ka4 => bw_nil (q H4 ?_ ka4)⟩)⟩)))
      exact ((((Fr.of k1).trans (Fr.of k2)).trans (f2.mono (by simp))).trans (Fr.of k3)).trans (f4.mono (by simp))
end
end SO
set_option Elab.async false
set_option linter.all false
set_option maxRecDepth 100000
set_option maxHeartbeats 4000000
/-! So41: put, settle, free, back. -/
namespace SO
open PySem PySem.Spec PyProof.Rows L2
theorem fl_chg {n : Nat} (g : Chg) : Fl (n + 2) (chgD g) := by
  cases g with
  | part k ws =>
    refine fl_tup fun d hd => ?_
    simp only [List.mem_cons, List.not_mem_nil, or_false] at hd
    rcases hd with rfl | rfl | rfl
    · exact fl_str (by decide +kernel)
    · exact fl_int
    · exact fl_ints
  | name k u =>
    refine fl_tup fun d hd => ?_
    simp only [List.mem_cons, List.not_mem_nil, or_false] at hd
    rcases hd with rfl | rfl | rfl
    · exact fl_str (by decide +kernel)
    · exact fl_int
    · cases u
      · exact fl_non
      · exact fl_int
theorem fl_chgs {n : Nat} {gs : List Chg} : Fl (n + 3) (.list (gs.map chgD)) := fl_lst fun d hd => by
  obtain ⟨g, _, rfl⟩ := List.mem_map.mp hd
  exact fl_chg g
def putS (c : Kc) (st : KS) (k : Nat) (ws : List Int) : KS := layK c { st with changes := st.changes ++ [.part k (st.parts.getD k ([], [])).2] } k ws
def settleS (c : Kc) (st : KS) (n u : Nat) : KS := fixK c { st with changes := st.changes ++ [.name n (held st.ws n)] } n (some u)
def freeS (c : Kc) (st : KS) (n : Nat) : KS := fixK c { st with changes := st.changes ++ [.name n (held st.ws n)] } n none
def backS (c : Kc) (st : KS) (cs : List Chg) : Chg → KS
  | .part k ws => layK c { st with changes := cs } k ws
  | .name n u => fixK c { st with changes := cs } n u
/-- what the changes ask -/
structure MOk (c : Kc) (st : KS) : Prop where
  sz : SzOk c.sz
  part : ∀ p ∈ st.parts, PartOk c.sz p
  laid : st.parts.length = c.laid.length
  kt : KnT (nbOf c.nr) st.known
  nr : c.nr.length ≤ 12
  bags : c.bags.length ≤ 12
  bag : ∀ b ∈ c.bags, b.length ≤ 1000
  ws : st.ws.length ≤ 1000
  chg : st.changes.length ≤ 1000
def anyOk (wd : Wd) (ws : List Int) : Prop := wd = .any → ∀ w ∈ ws, w = 0 ∨ w = 1
def spPut (K : PySem.W.Frag) (c : Kc) : Sp := fun vs H Q _ => ∃ st k ws vw, vs = [.ref c.a, .int ((k : Nat) : Int), vw] ∧ Dp K H vw (pis ws) ∧ KAt K c H st ∧ MOk c st ∧ k < st.parts.length ∧ PartOk c.sz ((st.parts.getD k ([], [])).1, ws) ∧ small12 ws ∧ anyOk c.wd ws ∧
  ∀ H', Fr c.own H H' → KAt K c H' (putS c st k ws) → Q .non H'
def spSettle (K : PySem.W.Frag) (c : Kc) : Sp := fun vs H Q _ => ∃ st n u, vs = [.ref c.a, .int ((n : Nat) : Int), .int ((u : Nat) : Int)] ∧ KAt K c H st ∧ MOk c st ∧ n < c.sz.length ∧ u < c.sz.getD n 0 ∧
  ∀ H', Fr c.own H H' → KAt K c H' (settleS c st n u) → Q .non H'
def spFree (K : PySem.W.Frag) (c : Kc) : Sp := fun vs H Q _ => ∃ st n, vs = [.ref c.a, .int ((n : Nat) : Int)] ∧ KAt K c H st ∧ MOk c st ∧ n < c.sz.length ∧ (held st.ws n).isSome = true ∧
  ∀ H', Fr c.own H H' → KAt K c H' (freeS c st n) → Q .non H'
/-- what undoing asks -/
def bkOk (st : KS) : Chg → Prop
  | .part k _ => k < st.parts.length
  | .name n u => u = none → (held st.ws n).isSome = true
def spBack (K : PySem.W.Frag) (c : Kc) : Sp := fun vs H Q _ => ∃ st cs g, vs = [.ref c.a] ∧ KAt K c H st ∧ MOk c st ∧ st.changes = cs ++ [g] ∧ bkOk st g ∧
  ∀ H', Fr c.own H H' → KAt K c H' (backS c st cs g) → Q .non H'
theorem own_sub {c : Kc} {D : List Addr} {H H' : Hp} (h : Fr D H H') (k : ∀ d ∈ D, d = c.a ∨ d = c.pa ∨ d = c.wa ∨ d = c.ka ∨ d = c.ca) : Fr c.own H H' := h.mono fun d hd => by
  have := k d hd
  simp only [Kc.own, List.mem_cons, List.not_mem_nil, or_false]
  exact this
section
variable {X : Cx} {e o : Expr} {σ : L2.St} {H : Hp} {sts : List Stmt} {D : Ends} {pos p apos cpos spos : Pos} {x : Str} {d : D0} {c : Kc} {st : KS} {f : Str}
/-- o.append(e), o any list of the heap -/
theorem b_appendE {q : Addr} {ds : List D0} (ho : Er X o σ H (.ref q)) (hq : Ls X.K H q ds) (he : Ev X e σ H d) (hl : ds.length < 100000) (k : ∀ H1 xs, Same H H1 → H1 q = some (.lst xs) → DpAll X.K H1 xs (ds ++ [d]) ∨ True → ∀ v ys, xs = ys → Dp X.K H1 v d → DpAll X.K H1 xs ds → BW X sts D σ (upd H1 q (.lst (xs ++ [v]))))
    (hbase : attributeBase o "append" X.env (eval o X.env) = eval o X.env := by rfl)
    (hfew : ((backTo cpos (starEach [e] X.env)).all (fun x => !x.1) && (backToKw cpos (keywordEach [] X.env)).all (fun x => x.1.isSome)
      && decide ([e].length + ([] : List Keyword).length + (if ([] : List Keyword).isEmpty then 0 else 1) < 30)) = true := by rfl)
    (hline : (apos.endLine == cpos.line) = true := by rfl) (hs1 : starEach [e] X.env = (false, eval e X.env) :: starEach [] X.env := by rfl) (hplain : (backTo cpos (starEach [] X.env)).any (·.1) = false := by rfl)
    (hsw : swapsWith (.Call (.Attribute o "append" apos) [e] [] cpos) none spos.line X.env = pure false := by rfl) :
    BW X (.Expr (.Call (.Attribute o "append" apos) [e] [] cpos) spos :: sts) D σ H := by
  refine b_expr ?_ hsw
  refine ew_m (id := "list.append") tyL_ok PySem.F.plainAttrs_list PySem.F.slot_list_append mt_append ?_ (hbase := hbase) (hfew := hfew) (hline := hline) (hs := hs1) (hplain := hplain)
  refine (ho H (Same.refl H)).mono fun u H1 ⟨k1, eu⟩ => ?_
  subst eu
  obtain ⟨xs, h1, h2⟩ := ls_mono hq k1
  refine ⟨⟨q, xs, rfl, h1⟩, (eva1 he hs1 H1 k1).mono fun vs H2 ⟨k2, r2⟩ => ?_⟩
  obtain ⟨v, rfl, r⟩ := dpa1 r2
  exact ⟨q, xs, v, rfl, rfl, k2 _ _ h1, by rw [dpa_len h2]; exact Nat.lt_of_lt_of_le hl (by decide), k H2 xs (k1.trans k2) (k2 _ _ h1) (.inr trivial) v xs rfl r (dpa_mono k2 h2)⟩
/-- a name, a whole number, a thing: three names -/
def g3 (K : PySem.W.Frag) (i j l : Nat) : TG := gTup K 3 (gCons (gName i) (gCons (gName j) (gCons (gName l) gNil)))
theorem g_three {x y z : Str} {k : Nat} {px py pz : Pos} (i j l : Nat) (hc : X.calm = true) (hN : X.N.Nodup) (hi : X.N[i]? = some x := by rfl) (hj : X.N[j]? = some y := by rfl) (hl : X.N[l]? = some z := by rfl) (hx : Loc X.env.scope x := by first | exact Or.inl rfl | exact Or.inr rfl) (hy : Loc X.env.scope y := by first | exact Or.inl rfl | exact Or.inr rfl) (hz : Loc X.env.scope z := by first | exact Or.inl rfl | exact Or.inr rfl)
    (hf : X.fn x = true ∨ X.env.scope.names.lookup x = some .local := by first | exact .inl rfl | exact .inr rfl) (hf2 : X.fn y = true ∨ X.env.scope.names.lookup y = some .local := by first | exact .inl rfl | exact .inr rfl) (hf3 : X.fn z = true ∨ X.env.scope.names.lookup z = some .local := by first | exact .inl rfl | exact .inr rfl) :
    PG X (.Tuple [.Name x px, .Name y py, .Name z pz] k pos) (g3 X.K i j l) := pg_tup hc (pgs_cons (pg_name hN hi hx hf) (pgs_cons (pg_name hN hj hy hf2) (pgs_cons (pg_name hN hl hz hf3) pgs_nil)))
theorem g3_go {K : PySem.W.Frag} {i j l : Nat} {v : V} {d1 d2 d3 : D0} {Q : L2.St → Hp → Prop} (h : Dp K H v (.tuple [d1, d2, d3])) (q : ∀ v1 v2 v3, Dp K H v1 d1 → Dp K H v2 d2 → Dp K H v3 d3 → Q (((σ.set i (some v1)).set j (some v2)).set l (some v3)) H) : g3 K i j l v σ H Q := by
  obtain ⟨a, xs, rfl, h1, h2⟩ := dp_tup h
  obtain ⟨v1, v2, v3, rfl, r1, r2, r3⟩ := dpa3 h2
  exact ⟨a, _, rfl, h1, rfl, v1, _, rfl, v2, _, rfl, v3, _, rfl, rfl, q v1 v2 v3 r1 r2 r3⟩
end
section
variable {P : Program} {w : World} {K : PySem.W.Frag} {mg : Str → Option Value} {base : Heap}
theorem met_put (C : Ctx K mg) (c : Kc) (S : Kst K c) {root : Nat} {par rk : Nat → Nat} (T : TOk c root par rk) : C8.Met P w K mg base 4 (kC K) "put" (spPut K c) [] := by
  refine met_of (k := 3) C.cl C.h_k_put c_k_put (fun vs H Q E ⟨_, _, _, _, h, _⟩ => by rw [h]; rfl) fun cdv A outer s H vs Q E hr ⟨st, k, ws, vw, e, rw', ka, mo, hk, hp, hs, hany, q⟩ => ?_
  subst e
  have nd := c_k_put.nd
  have hpk := getD_part hk
  have pr := hp.rise.nm.prod mo.sz
  have full := hp.full
  refine b_skip (b := !(decide ((0 : Int) ≤ (k : Int)) && decide ((k : Int) < (st.parts.length : Nat)))) (tv_not (tv_ev (ev_call (cal_is_number C) hr (by decide) (eva2 (ev_v 1 rfl (.int _)) (Ev.to (ev_lenL C.m_len (ev_f 0 rfl ka.obj C.cl C.na_parts rfl ka.parts.dp)) (by rw [List.length_map]))) ⟨_, _, rfl, rfl⟩))) (by simp; omega) fun H1 k1 => ?_
  have ka1 := ka.mono k1
  refine b_skip (b := !true) (tv_not (tv_ev (ev_call (cal_are_worths C) hr (by decide) (eva3 (ev_f 0 rfl ka1.obj C.cl C.na_sizes rfl (S.dsz ka1)) (ev_ixT (ev_ixL (ev_f 0 rfl ka1.obj C.cl C.na_parts rfl ka1.parts.dp) (ev_v 1 rfl (.int _)) (at_map hpk)) ev_int (at_nat (n := 0) rfl)) (ev_v 2 rfl (dp_mono k1 rw'))) ⟨c.sz, _, ws, rfl, mo.sz, hp, hs, rfl⟩))) rfl fun H2 k2 => ?_
  have ka2 := ka1.mono k2
  have k12 := k1.trans k2
  refine b_skip (b := decide (c.wd = .any) && !(ws.all fun w => decide (w ∈ [(0 : Int), 1]))) (tv_wv (wv_and (Tv.to (tv_eqS (ev_f 0 rfl ka2.obj C.cl C.na_word rfl (.str _)) ev_str) (by cases c.wd <;> decide)) fun _ => wv_and1 (tv_not (tv_ev (ev_allM rfl C.m_all (EvL.ev (evl_lc (lcv_T (xs := ws) (enc := PyData.int) (f := fun w => .bool (decide (w ∈ [(0 : Int), 1]))) [("worth", 3)] 3 rfl nd (ev_v 2 rfl (dp_mono k12 rw')) (blkOk_by (N := n_k_put) (sc := defScope s_k_put) (by decide +kernel)) (by have : ws.length = _ := full; omega) (fun _ _ => rfl) fun a ha v H5 k5 r5 => ?_)))))))) ?_ fun H3 k3 => ?_
  · intro s' H0 C' cl fp
    exact ev_inTI (ys := [0, 1]) (ev_v 3 rfl r5) (ev_tup (eva2 ev_int ev_int))
  · by_cases h : c.wd = .any
    · have := hany h
      rw [decide_eq_true h, Bool.true_and, Bool.not_eq_false', List.all_eq_true]
      intro w hw
      exact decide_eq_true (by simpa using this w hw)
    · rw [decide_eq_false h, Bool.false_and]
  · have ka3 := ka2.mono k3
    have k13 := k12.trans k3
    refine b_appendE (d := chgD (.part k (st.parts.getD k ([], [])).2)) (er_f 0 rfl ka3.obj C.cl C.na_changes rfl) ka3.changes (Ev.to (ev_tup (eva3 ev_str (ev_v 1 rfl (.int _)) (ev_ixT (ev_ixL (ev_f 0 rfl ka3.obj C.cl C.na_parts rfl ka3.parts.dp) (ev_v 1 rfl (.int _)) (at_map hpk)) ev_int (at_nat (n := 1) rfl)))) rfl) (by rw [List.length_map]; have := mo.chg; omega) fun H4 xs k4 hx _ v _ _ rv hd => ?_
    have ka4 := ka3.mono k4
    obtain ⟨ka5, f5⟩ := ka4.putC S (xs := xs ++ [v]) (cs := st.changes ++ [.part k (st.parts.getD k ([], [])).2]) (by rw [List.map_append]; exact dpa_app hd (.cons rv .nil))
    generalize upd H4 c.ca (.lst (xs ++ [v])) = H5 at ka5 f5 ⊢
    have k14 := k13.trans k4
    refine b_expr (ew_mt (met_lay C c S T) hr (by decide) (ew_v 0 rfl ⟨rfl, ka5.obj, aw_two (ew_v 1 rfl (ew_v 2 rfl ⟨_, k, ws, vw, rfl, dp_tp f5.tp tup_pis (dp_mono k14 rw'), ka5, mo.kt, mo.nr, hk, mo.laid, fun H6 f6 ka6 => bw_nil (q H6 ?_ ka6)⟩))⟩))
    exact ((Fr.of k14).trans (own_sub f5 (by simp))).trans (own_sub f6 (by simp))
theorem met_settle (C : Ctx K mg) (c : Kc) (S : Kst K c) {root : Nat} {par rk : Nat → Nat} (T : TOk c root par rk) : C8.Met P w K mg base 4 (kC K) "settle" (spSettle K c) [] := by
  refine met_of (k := 3) C.cl C.h_k_settle c_k_settle (fun vs H Q E ⟨_, _, _, h, _⟩ => by rw [h]; rfl) fun cdv A outer s H vs Q E hr ⟨st, n, u, e, ka, mo, hn, hu, q⟩ => ?_
  subst e
  have nd := c_k_settle.nd
  refine b_skip (b := !(decide ((0 : Int) ≤ (n : Int)) && decide ((n : Int) < (c.sz.length : Nat)))) (tv_not (tv_ev (ev_call (cal_is_number C) hr (by decide) (eva2 (ev_v 1 rfl (.int _)) (Ev.to (ev_lenT C.m_len (ev_f 0 rfl ka.obj C.cl C.na_sizes rfl (S.dsz ka))) (by rw [List.length_map]))) ⟨_, _, rfl, rfl⟩))) (by simp; omega) fun H1 k1 => ?_
  have ka1 := ka.mono k1
  refine b_skip (b := !(decide ((0 : Int) ≤ (u : Int)) && decide ((u : Int) < (c.sz.getD n 0 : Nat)))) (tv_not (tv_ev (ev_call (cal_is_number C) hr (by decide) (eva2 (ev_v 2 rfl (.int _)) (ev_ixT (ev_f 0 rfl ka1.obj C.cl C.na_sizes rfl (S.dsz ka1)) (ev_v 1 rfl (.int _)) (at_pns (getD_at hn)))) ⟨_, _, rfl, rfl⟩))) (by simp at hu ⊢; omega) fun H2 k2 => ?_
  have ka2 := ka1.mono k2
  refine b_appendE (d := chgD (.name n (held st.ws n))) (er_f 0 rfl ka2.obj C.cl C.na_changes rfl) ka2.changes (Ev.to (d1 := .tuple [.str "name", pn n, optD (held st.ws n)]) (ev_tup (eva3 ev_str (ev_v 1 rfl (.int _)) fun H3 k3 => ew_pe (pe_dget2 (room_in hr) pe_ew pe_ew pe_ew ⟨rfl, rfl, rfl, rfl⟩) (show EW _ _ _ _ _ from ew_f 0 rfl (ka2.mono k3).obj C.cl C.na_worths rfl ⟨c.wa, rfl, .inl ⟨_, .inl (ka2.mono k3).worths⟩, ew_v 1 rfl (ew_pe pe_non ⟨_, DGet.k (k := Sum.inl (n : Int)) (ka2.mono k3).worths, Same.refl _, ?_⟩)⟩))) rfl) (by rw [List.length_map]; have := mo.chg; omega) fun H4 xs k4 hx _ v _ _ rv hd => ?_
  · rw [show (st.ws.map fun e => (Sum.inl (e.1 : Int), V.int (e.2 : Int))) = wsV st.ws from rfl, wsV_val]
    unfold held
    cases st.ws.lookup n with
    | none => exact .non
    | some x => exact .int _
  · have ka4 := ka2.mono k4
    obtain ⟨ka5, f5⟩ := ka4.putC S (xs := xs ++ [v]) (cs := st.changes ++ [.name n (held st.ws n)]) (by rw [List.map_append]; exact dpa_app hd (.cons rv .nil))
    generalize upd H4 c.ca (.lst (xs ++ [v])) = H5 at ka5 f5 ⊢
    refine b_expr (ew_mt (met_fix C c S T) hr (by decide) (ew_v 0 rfl ⟨rfl, ka5.obj, aw_two (ew_v 1 rfl (ew_v 2 rfl ⟨_, n, some u, _, rfl, .int _, ka5, mo.kt, mo.nr, mo.bags, mo.bag, (fun z => by cases z), mo.ws, fun H6 f6 ka6 => bw_nil (q H6 ?_ ka6)⟩))⟩))
    exact ((Fr.of ((k1.trans k2).trans k4)).trans (own_sub f5 (by simp))).trans (own_sub f6 (by simp))
theorem met_free (C : Ctx K mg) (c : Kc) (S : Kst K c) {root : Nat} {par rk : Nat → Nat} (T : TOk c root par rk) : C8.Met P w K mg base 4 (kC K) "free" (spFree K c) [] := by
  refine met_of (k := 3) C.cl C.h_k_free c_k_free (fun vs H Q E ⟨_, _, h, _⟩ => by rw [h]; rfl) fun cdv A outer s H vs Q E hr ⟨st, n, e, ka, mo, hn, hs, q⟩ => ?_
  subst e
  have nd := c_k_free.nd
  obtain ⟨u, hu⟩ := Option.isSome_iff_exists.mp hs
  have hval : valV (wsV st.ws) (Sum.inl (n : Int)) = some (V.int (u : Int)) := by rw [wsV_val, show st.ws.lookup n = some u from hu]; rfl
  refine b_skip (b := !(decide ((0 : Int) ≤ (n : Int)) && decide ((n : Int) < (c.sz.length : Nat))) || !(valV (wsV st.ws) (Sum.inl (n : Int))).isSome) (tv_wv (wv_or (tv_not (tv_ev (ev_call (cal_is_number C) hr (by decide) (eva2 (ev_v 1 rfl (.int _)) (Ev.to (ev_lenT C.m_len (ev_f 0 rfl ka.obj C.cl C.na_sizes rfl (S.dsz ka))) (by rw [List.length_map]))) ⟨_, _, rfl, rfl⟩))) fun _ => wv_or1 (tv_dnotinK hr (ev_v 1 rfl (.int _)) (er_f 0 rfl ka.obj C.cl C.na_worths rfl) ka.worths))) (by rw [hval]; simp; omega) fun H1 k1 => ?_
  have ka1 := ka.mono k1
  refine b_appendE (d := chgD (.name n (held st.ws n))) (er_f 0 rfl ka1.obj C.cl C.na_changes rfl) ka1.changes (Ev.to (d1 := .tuple [.str "name", pn n, optD (held st.ws n)]) (ev_tup (eva3 ev_str (ev_v 1 rfl (.int _)) (ev_dgetK hr (er_f 0 rfl ka1.obj C.cl C.na_worths rfl) (ev_v 1 rfl (.int _)) ka1.worths hval (by rw [hu]; exact .int _)))) rfl) (by rw [List.length_map]; have := mo.chg; omega) fun H4 xs k4 hx _ v _ _ rv hd => ?_
  have ka4 := ka1.mono k4
  obtain ⟨ka5, f5⟩ := ka4.putC S (xs := xs ++ [v]) (cs := st.changes ++ [.name n (held st.ws n)]) (by rw [List.map_append]; exact dpa_app hd (.cons rv .nil))
  generalize upd H4 c.ca (.lst (xs ++ [v])) = H5 at ka5 f5 ⊢
  refine b_expr (ew_mt (met_fix C c S T) hr (by decide) (ew_v 0 rfl ⟨rfl, ka5.obj, aw_two (ew_v 1 rfl (ew_pe pe_non ⟨_, n, none, _, rfl, .non, ka5, mo.kt, mo.nr, mo.bags, mo.bag, fun _ => hs, mo.ws, fun H6 f6 ka6 => bw_nil (q H6 ?_ ka6)⟩))⟩))
  exact ((Fr.of (k1.trans k4)).trans (own_sub f5 (by simp))).trans (own_sub f6 (by simp))
theorem met_back (C : Ctx K mg) (c : Kc) (S : Kst K c) {root : Nat} {par rk : Nat → Nat} (T : TOk c root par rk) : C8.Met P w K mg base 4 (kC K) "back" (spBack K c) [] := by
  refine met_of (k := 3) C.cl C.h_k_back c_k_back (fun vs H Q E ⟨_, _, _, h, _⟩ => by rw [h]; rfl) fun cdv A outer s H vs Q E hr ⟨st, cs, g, e, ka, mo, hc, hb, q⟩ => ?_
  subst e
  have nd := c_k_back.nd
  refine b_skip (b := false) (Tv.to (tv_eqD (n := 3) hr (ev_f 0 rfl ka.obj C.cl C.na_changes rfl ka.changes.dp) (EvL.ev (evl_lst eva_nil)) fl_chgs (fl_lst fun d hd => by cases hd)) (by rw [eqv_nil, List.isEmpty_map, hc]; cases cs <;> rfl)) rfl fun H1 k1 => ?_
  have ka1 := ka.mono k1
  obtain ⟨xs, hx, hd⟩ := ka1.changes
  rw [hc, List.map_append] at hd
  have hlx := dpa_len hd
  obtain ⟨y, hy, ry⟩ := dpa_get (i := cs.length) (d := chgD g) hd (by rw [List.getElem?_append_right (by rw [List.length_map]; exact Nat.le_refl _), List.length_map, Nat.sub_self]; rfl)
  rw [List.length_append, List.length_map] at hlx
  simp only [List.map_cons, List.map_nil, List.length_singleton] at hlx
  have hdl : DpAll K H1 xs.dropLast (cs.map chgD) := by
    have := dpa_dropLast hd
    rwa [show [g].map chgD = [chgD g] from rfl, List.dropLast_concat] at this
  obtain ⟨ka2, f2⟩ := ka1.putC S hdl
  cases g with
  | part k ws =>
    refine b_asg (g_three 1 2 3 rfl nd) (ew_m0 (id := "list.pop") tyL_ok PySem.F.plainAttrs_list PySem.F.slot_list_pop mt_pop (ew_f 0 rfl ka1.obj C.cl C.na_changes rfl ⟨⟨c.ca, xs, rfl, hx⟩, c.ca, xs, y, rfl, rfl, hx, by rw [hlx, Nat.add_sub_cancel]; exact hy, ?_⟩))
    have ry2 := dp_tp f2.tp chg_tup ry
    generalize upd H1 c.ca (.lst xs.dropLast) = H2 at ka2 f2 ry2 ⊢
    refine g3_go ry2 fun w1 w2 w3 q1 q2 q3 => ?_
    rw [dp_int q2]
    refine b_ifv (b := true) (Tv.to (tv_eqS (ev_v 1 rfl q1) ev_str) (by decide)) (fun _ H3 k3 => ?_) (fun z => by cases z)
    refine b_expr (ew_mt (met_lay C c S T) hr (by decide) (ew_v 0 rfl ⟨rfl, (ka2.mono k3).obj, aw_two (ew_v 2 rfl (ew_v 3 rfl ⟨_, k, ws, w3, rfl, dp_mono k3 q3, ka2.mono k3, mo.kt, mo.nr, hb, mo.laid, fun H6 f6 ka6 => bw_nil (bw_nil (q H6 ?_ ka6))⟩))⟩))
    exact (((Fr.of k1).trans (own_sub f2 (by simp))).trans (Fr.of k3)).trans (own_sub f6 (by simp))
  | name n u =>
    refine b_asg (g_three 1 2 3 rfl nd) (ew_m0 (id := "list.pop") tyL_ok PySem.F.plainAttrs_list PySem.F.slot_list_pop mt_pop (ew_f 0 rfl ka1.obj C.cl C.na_changes rfl ⟨⟨c.ca, xs, rfl, hx⟩, c.ca, xs, y, rfl, rfl, hx, by rw [hlx, Nat.add_sub_cancel]; exact hy, ?_⟩))
    have ry2 := dp_tp f2.tp chg_tup ry
    generalize upd H1 c.ca (.lst xs.dropLast) = H2 at ka2 f2 ry2 ⊢
    refine g3_go ry2 fun w1 w2 w3 q1 q2 q3 => ?_
    rw [dp_int q2]
    refine b_ifv (b := false) (Tv.to (tv_eqS (ev_v 1 rfl q1) ev_str) (by decide)) (fun z => by cases z) (fun _ H3 k3 => ?_)
    refine b_expr (ew_mt (met_fix C c S T) hr (by decide) (ew_v 0 rfl ⟨rfl, (ka2.mono k3).obj, aw_two (ew_v 2 rfl (ew_v 3 rfl ⟨_, n, u, w3, rfl, dp_mono k3 q3, ka2.mono k3, mo.kt, mo.nr, mo.bags, mo.bag, hb, mo.ws, fun H6 f6 ka6 => bw_nil (bw_nil (q H6 ?_ ka6))⟩))⟩))
    exact (((Fr.of k1).trans (own_sub f2 (by simp))).trans (Fr.of k3)).trans (own_sub f6 (by simp))
end
end SO
set_option Elab.async false
set_option linter.all false
set_option maxRecDepth 100000
set_option maxHeartbeats 4000000
/-! So42: lists of new lists; a keeper made. -/
namespace SO
open PySem PySem.Spec PyProof.Rows L2
/-- a list of lists of numbers, all new -/
structure LL (H0 H : Hp) (q : Addr) (ls : List (List Nat)) (bs : List Addr) : Prop where
  at_ : H q = some (.lst (bs.map V.ref))
  each : Paired (fun b (l : List Nat) => H0 b = none ∧ b ≠ q ∧ H b = some (.lst ((zs l).map V.int))) bs ls
theorem LL.dp {K : PySem.W.Frag} {H0 H : Hp} {q : Addr} {ls : List (List Nat)} {bs : List Addr} (h : LL H0 H q ls bs) {H' : Hp} (hq : H' q = H q) (hb : ∀ b ∈ bs, H' b = H b) : Dp K H' (.ref q) (nearsD ls) := by
  refine .lst (SqL.of (hq.trans h.at_)) ?_
  have : ∀ {bs : List Addr} {ls : List (List Nat)}, Paired (fun b (l : List Nat) => H0 b = none ∧ b ≠ q ∧ H b = some (.lst ((zs l).map V.int))) bs ls → (∀ b ∈ bs, H' b = H b) → DpAll K H' (bs.map V.ref) (ls.map fun l => .list (l.map pn)) := by
    intro bs ls h hb
    induction h with
    | nil => exact .nil
    | cons r rs ih =>
      rename_i b l bs' ls'
      refine .cons ?_ (ih fun x hx => hb x (List.mem_cons_of_mem _ hx))
      show Dp K H' (V.ref b) (.list (l.map pn))
      rw [map_pn]
      exact .lst (SqL.of ((hb b List.mem_cons_self).trans r.2.2)) dpa_of_ints
  exact this h.each hb
theorem paired_snoc {α β : Type} {F : α → β → Prop} {xs : List α} {ys : List β} {a : α} {b : β} (h : Paired F xs ys) (r : F a b) : Paired F (xs ++ [a]) (ys ++ [b]) := h.snoc r
section
variable {X : Cx} {σ : L2.St} {H : Hp} {elt e : Expr} {scope : Scope} {x : Str} {px p p' : Pos}
theorem lcw_LL {n : Nat} {fn : Nat → List Nat} (own : List (Str × Nat)) (j : Nat) (hc : X.calm = true) (hN : X.N.Nodup) (hm : X.mg "range" = none) (hi : Ev X e σ H (pn n)) (ok : BlkOk X.N X.env.scope scope own) (hl : n ≤ 100000)
    (he : ∀ a, a < n → ∀ H1, Same H H1 → Blk X scope fun Y => EvL Y elt ((wipe σ (own.map (·.2))).set j (some (.int (a : Int)))) H1 ((fn a).map pn)) {Q : VK}
    (q : ∀ l H2 bs, H l = none → Same H H2 → LL H H2 l ((List.range n).map fn) bs → Q (.ref l) H2)
    (hg : Blk X scope fun Y => PG Y (.Name x px) (gName j) := by exact fun _ _ _ _ _ => g_name _ (by assumption)) (hw : ∀ v, wipe ((wipe σ (own.map (·.2))).set j (some v)) (own.map (·.2)) = wipe σ (own.map (·.2)) := by intro _; rfl)
    (hgl : Gl X "range" := by rfl) (hst : starEach [e] X.env = (false, eval e X.env) :: starEach [] X.env := by rfl) (hf : ∀ x, foldedSetIterable (.Call (.Name "range" p) [e] [] p') X.env x = pure x := by intro _; rfl) : LcW X elt (.Name x px) (.Call (.Name "range" p) [e] [] p') [] scope σ H Q := by
  refine ⟨own, _, gName j, tYes, teB X scope elt, ⟨hc, hN, pi_range1 hgl hm pa_aw hst, ok, hg, pts0_blk, pe_blk, hf⟩, ?_⟩
  refine src_R hi (by omega) hst H (Same.refl H) _ fun J H2 k2 hJ Dl hD => ?_
  have hD0 : H Dl = none := none_back k2 hD
  refine ⟨fun i m H' => m = n - i ∧ i ≤ n ∧ Same H2 H' ∧ ∃ bs, LL H H' Dl ((List.range i).map fn) bs, ⟨n, by simp, Nat.zero_le _, same_new hD, [], ⟨upd_same, .nil⟩⟩, ?_⟩
  rintro i m H' ⟨rfl, hi', sm, bs, ll⟩
  by_cases hlt : i < n
  · obtain ⟨go, yl⟩ := (hJ H' sm).2 i hlt
    refine .inr ⟨go, fun H'' => Same H2 H'' ∧ ∃ bs, LL H H'' Dl ((List.range (i + 1)).map fn) bs, fun H'' ⟨p1, p2⟩ => ⟨n - (i + 1), by omega, rfl, hlt, p1, p2⟩, fun u Hy hy => ?_⟩
    obtain ⟨ky, y⟩ := yl u Hy hy
    subst y
    show gName j (.int (i : Int)) _ Hy _
    refine ⟨hw _, ?_⟩
    refine iteT (B := Same H2 Hy ∧ ∃ bs, LL H Hy Dl ((List.range (i + 1)).map fn) bs) fun s H0 C cl fp => ?_
    refine (he i hlt Hy ((k2.trans sm).trans ky) s H0 C cl fp Hy (Same.refl _)).mono fun v H4 ⟨k4, b, ev, nb, ys, h4, h5⟩ => ?_
    subst ev
    have kk : Same H' H4 := ky.trans k4
    rw [map_pn] at h5
    have e5 := dpa_ints h5
    subst e5
    have hDl : H4 Dl = some (.lst (bs.map V.ref)) := kk _ _ ll.at_
    have nbD : b ≠ Dl := fun z => by
      rw [z, ky _ _ ll.at_] at nb
      cases nb
    have hl2 : bs.length = i := by
      have := paired_len ll.each
      rw [this, List.length_map, List.length_range]
    refine ⟨_, hDl, ?_, fun c o hc => ?_, bs ++ [b], by rw [upd_same, List.map_append]; rfl, ?_⟩
    · rw [List.length_map, hl2]
      exact Nat.lt_of_lt_of_le hlt (Nat.le_trans hl (by decide))
    · have ne : c ≠ Dl := ne_of_none hc hD
      rw [upd_ne ne]
      exact kk _ _ (sm _ _ hc)
    · rw [List.range_succ, List.map_append]
      refine paired_snoc (L2.Paired.mapP ll.each fun c l ⟨h1, ne, h2⟩ => ⟨h1, ne, by rw [upd_ne ne]; exact kk _ _ h2⟩) ⟨none_back ((k2.trans sm).trans ky) nb, nbD, ?_⟩
      rw [upd_ne nbD]; exact h4
  · have e : i = n := by omega
    subst e
    exact .inl ⟨(hJ H' sm).1, q Dl H' bs hD0 (k2.trans sm) ll⟩
end
def nearsOf (t : TreeD) : List (List Nat) := (List.range t.1.length).map (near t.2)
def laidOf (ps : List Part) (t : TreeD) : List Nat := ps.map fun p => bagOf t.1 p.1
theorem mask_mono {M M' : List Addr} {H H' : Hp} (k : ∀ b o, b ∉ M → H b = some o → b ∉ M' ∧ H' b = some o) : Same (mask M H) (mask M' H') := fun b o hb => by
  unfold mask at hb ⊢
  split at hb
  · cases hb
  · obtain ⟨h1, h2⟩ := k b o (by assumption) hb
    rw [if_neg h1]
    exact h2
def ks0 (ps : List Part) : KS := ⟨ps, [], [], 0, []⟩
structure InitOk (sz : List Nat) (ps : List Part) (t : TreeD) : Prop where
  szl : sz.length ≤ 12
  few : ps.length ≤ 12
  part : ∀ p ∈ ps, p.1.length ≤ 100
  tree : BagTree sz (ps.map (·.1)) t
def spInit (K : PySem.W.Frag) (M0 : List Addr) : Sp := fun vs H Q _ => ∃ x dx wd sz ps t vsh vtr, vs = [.ref x, .str (Wd.str wd), vsh, vtr] ∧ H x = some (.ins (kC K) dx []) ∧ x ∉ M0 ∧ (∀ m ∈ M0, H m ≠ none) ∧ Dp K (mask (x :: M0) H) vsh (sheetD sz ps) ∧ Dp K (mask (x :: M0) H) vtr (treeD t) ∧ InitOk sz ps t ∧
  ∀ H' (c : Kc), c.a = x → c.wd = wd → c.sz = sz → c.bags = t.1 → c.nr = nearsOf t → c.laid = laidOf ps t → c.M = c.own ++ M0 → c.B = H' → Kst K c → KAt K c H' (ks0 ps) → Fr [x] H H' → (∀ d ∈ c.own, d ≠ x → H d = none) → Q .non H'
section
variable {X : Cx} {e : Expr} {σ : L2.St} {H : Hp} {sts : List Stmt} {D : Ends} {pos p pos' : Pos} {f : Str}
theorem b_fldx (n : Nat) {a C dx : Addr} {fs : List (Str × V)} {x : Str} (h : EW X e σ H fun y H1 => H1 a = some (.ins C dx fs) ∧ BW X sts D σ (upd H1 a (.ins C dx (putF f y fs)))) (hs0 : σ[n]? = some (some (.ref a))) (cl : Cls X.K C) (na : NoAttr X.K C f) (hl : fs.length < 1000) (hN : X.N[n]? = some x := by rfl) (hv : Vis X.env.scope x := by first | exact Or.inl rfl | exact Or.inr (Or.inl rfl) | exact Or.inr (Or.inr rfl)) (hdb : (x == ("__debug__" : Str)) = false := by decide)
    (hcd : (x == ("__classdict__" : Str)) = false := by decide) (hs : swapsWith e (some (.Attribute (.Name x p) f pos')) pos.line X.env = pure false := by rfl) : BW X (.Assign [.Attribute (.Name x p) f pos'] e pos :: sts) D σ H :=
  b_fld (h.mono fun y H1 ⟨h1, h2⟩ => ew_v n hs0 ⟨a, C, dx, fs, rfl, h1, cl, na, hl, h2⟩ hN hv hdb hcd) hs
end
theorem fr_obj {x : Addr} {H : Hp} {C dx : Addr} {fs : List (Str × V)} {o : HO} (h : H x = some (.ins C dx fs)) : Fr [x] H (upd H x o) := fr_one fun xs => not_rd h (fun z => nomatch z) fun ob z => nomatch z
section
variable {P : Program} {w : World} {K : PySem.W.Frag} {mg : Str → Option Value} {base : Heap}
theorem er_ixT {X : Cx} {a b : Expr} {σ : L2.St} {H : Hp} {pos : Pos} {p : Addr} {xs : List V} {i : Nat} {v : V} (ha : Er X a σ H (.ref p)) (hq : SqT X.K H p xs) (hb : Ev X b σ H (.int (i : Int))) (hv : xs[i]? = some v) (hs : PlainIx b := by exact fun _ _ => rfl) : Er X (.Subscript a b pos) σ H v := fun H1 k =>
  ew_ix ix_tup ((ha H1 k).mono fun u H2 ⟨k2, eu⟩ => (hb H2 (k.trans k2)).mono fun y H3 ⟨k3, r⟩ => by
    subst eu
    exact ⟨p, xs, i, v, rfl, dp_int r, sqT_mono ((k.trans k2).trans k3) hq, at_nat hv, k2.trans k3, rfl⟩) hs
theorem Er.go {X : Cx} {e : Expr} {σ : L2.St} {H : Hp} {v : V} {Q : VK} (h : Er X e σ H v) (k : ∀ H1, Same H H1 → Q v H1) : EW X e σ H Q := (h H (Same.refl H)).mono fun u H1 ⟨k1, eu⟩ => by rw [eu]; exact k H1 k1
end
end SO
set_option Elab.async false
set_option linter.all false
set_option maxRecDepth 100000
set_option maxHeartbeats 4000000
/-! So43: __init__. -/
namespace SO
open PySem PySem.Spec PyProof.Rows L2
theorem LL.fr {H0 H H' : Hp} {q x : Addr} {ls : List (List Nat)} {bs : List Addr} (h : LL H0 H q ls bs) (k : Fr [x] H H') (hq : q ≠ x) (hx : H0 x ≠ none) : LL H0 H' q ls bs := ⟨k.same _ _ (by simp; exact hq) h.at_, L2.Paired.mapP h.each fun b l ⟨h1, h2, h3⟩ => ⟨h1, h2, k.same _ _ (by simp; exact fun z => hx (z ▸ h1)) h3⟩⟩
theorem LL.new {H0 H : Hp} {q : Addr} {ls : List (List Nat)} {bs : List Addr} (h : LL H0 H q ls bs) : ∀ b ∈ bs, H0 b = none ∧ H b ≠ none := by
  have : ∀ {bs : List Addr} {ls : List (List Nat)}, Paired (fun b (l : List Nat) => H0 b = none ∧ b ≠ q ∧ H b = some (.lst ((zs l).map V.int))) bs ls → ∀ b ∈ bs, H0 b = none ∧ H b ≠ none := by
    intro bs ls h
    induction h with
    | nil => intro b hb; cases hb
    | cons r rs ih =>
      intro b hb
      rcases List.mem_cons.mp hb with rfl | hb
      · exact ⟨r.1, by rw [r.2.2]; exact fun z => nomatch z⟩
      · exact ih b hb
  exact this h.each
section
variable {P : Program} {w : World} {K : PySem.W.Frag} {mg : Str → Option Value} {base : Heap}
theorem mak_of {x m q : Str} {ar : Arguments} {bd : List Stmt} {sc : Scope} {C f : Addr} {N ps : List Str} {k : Nat} {sp : Sp} (M : Mk K C f) (hx : mg x = some (.ref C)) (h : ∃ fd, FunD K m q ar bd sc [] [] f fd ∧ Meth K C m f ∧ Binds K fd ps []) (S : FnScope N ps sc) (len : ∀ vs H Q E, sp vs H Q E → vs.length = ps.length)
    (body : ∀ (cdv : Value) (A : Around) (outer : List Env) (s : Shared) (H : Hp) (vs : List V) (Q : VK) (E : XK), Room k (A.deeper (envOfC q sc s.heap.objs.size f cdv)) → sp vs H Q E →
      BW (cx P w K mg base N q sc f cdv A outer s H E) bd { nx := fun _ H' => Q .non H', rt := Q } (start N vs) H) : C8.Mak P w K mg base (k + 1) x C sp [] := by
  obtain ⟨fd, F, hm, b⟩ := h
  exact ⟨f, fd, ps, [], M, F.ok S len fun cdv A outer s H vs Q E hr hsp => ⟨_, pss_bw.nox, body cdv A outer s H vs Q E hr hsp⟩, hx, b, .nil⟩
theorem ew_mk {X : Cx} {e : Expr} {es : List Expr} {σ : L2.St} {H : Hp} {p pos : Pos} {x : Str} {C : Addr} {sp : Sp} {k j : Nat} {Q : VK} (c : C8.Mak X.prog X.w X.K X.mg X.base k x C sp []) (hr : Room j X.A) (hk : k + 1 ≤ j) (h : AW X (e :: es) σ H fun vs H1 => ∀ a dx, H1 a = none → H1 dx = none → dx ≠ a → sp (.ref a :: vs) (upd (upd H1 dx (.own a)) a (.ins C dx [])) (fun v H2 => v = .non ∧ Q (.ref a) H2) E0)
    (hg : Gl X x := by rfl) (hdb : (x == ("__debug__" : Str)) = false := by decide) (he : starEach (e :: es) X.env = (false, eval e X.env) :: starEach es X.env := by rfl) (hpl : (backTo pos (starEach es X.env)).any (·.1) = false := by rfl) : EW X (.Call (.Name x p) (e :: es) [] pos) σ H Q :=
  ew_pe (C8.pe_mk c hr hk hg pa_aw hdb he hpl) (show AW X (e :: es) σ H _ from h.mono fun vs H1 h a dx h1 h2 h3 => by rw [List.append_nil]; exact h a dx h1 h2 h3)
theorem mak_keeper (C : Ctx K mg) (M0 : List Addr) : C8.Mak P w K mg base 5 "Keeper" (kC K) (spInit K M0) [] := by
  refine mak_of (k := 4) C.mkr C.m_Keeper C.h_k_init c_k_init (fun vs H Q E ⟨_, _, _, _, _, _, _, _, h, _⟩ => by rw [h]; rfl) fun cdv A outer s H vs Q E hr ⟨x, dx, wd, sz, ps, t, vsh, vtr, e, ob0, hxM, hM0, rsh, rtr, io, q⟩ => ?_
  subst e
  have nd := c_k_init.nd
  have tl := io.tree.len
  have tm := io.tree.ties.many
  obtain ⟨sa, xs1, rfl, sq1, dl1⟩ := dp_tup rsh
  obtain ⟨vsz, vps, rfl, rsz, rps⟩ := dpa2 dl1
  obtain ⟨ta, xs2, rfl, sq2, dl2⟩ := dp_tup rtr
  obtain ⟨vbags, vties, rfl, rbags, rties⟩ := dpa2 dl2
  -- what is seen of the given data in any heap on the way
  have see : ∀ {Hk : Hp}, Fr [x] H Hk → Same (mask (x :: M0) H) Hk := fun {Hk} fr b o hb => by
    unfold mask at hb
    split at hb
    · cases hb
    · rename_i hn
      exact fr.same b o (by simp at hn ⊢; exact hn.1) hb
  refine b_skip (b := !true) (tv_not (tv_ev (ev_call (cal_is_bag_tree C) hr (by decide) (eva2 (ev_v 2 rfl (dp_mono (see Fr.refl) rsh)) (ev_v 3 rfl (dp_mono (see Fr.refl) rtr))) ⟨sz, ps, t, rfl, io.szl, by have := io.few; omega, io.part, io.tree, rfl⟩))) rfl fun H1 k1 => ?_
  have f1 : Fr [x] H H1 := Fr.of k1
  have ob1 := k1 _ _ ob0
  -- word
  refine b_fldx 0 (ew_v 1 rfl ⟨ob1, ?_⟩) rfl C.cl C.na_word (show (0 : Nat) < 1000 by decide)
  have f2 : Fr [x] H _ := f1.trans (fr_obj ob1 (o := .ins (kC K) dx (putF "word" (.str wd.str) [])))
  have ob2 : (upd H1 x (.ins (kC K) dx (putF "word" (.str wd.str) []))) x = some (.ins (kC K) dx (putF "word" (.str wd.str) [])) := upd_same
  generalize upd H1 x (.ins (kC K) dx (putF "word" (.str wd.str) [])) = H2 at f2 ob2 ⊢
  -- sizes
  refine b_fldx 0 (Er.go (er_ixT (i := 0) (er_v 2 rfl) ((sqT_mono (see f2) sq1)) ev_int rfl) fun H3 k3 => ⟨k3 _ _ ob2, ?_⟩) rfl C.cl C.na_sizes (show (1 : Nat) < 1000 by decide)
  have f3 : Fr [x] H _ := (f2.trans (Fr.of k3)).trans (fr_obj (k3 _ _ ob2) (o := .ins (kC K) dx (putF "sizes" vsz (putF "word" (.str wd.str) []))))
  have ob3 : (upd H3 x (.ins (kC K) dx (putF "sizes" vsz (putF "word" (.str wd.str) [])))) x = some (.ins (kC K) dx (putF "sizes" vsz (putF "word" (.str wd.str) []))) := upd_same
  generalize upd H3 x (.ins (kC K) dx (putF "sizes" vsz (putF "word" (.str wd.str) []))) = H4 at f3 ob3 ⊢
  -- parts
  refine b_fldx 0 (EvL.go (evl_listT C.m_list (ev_ixT (i := 1) (ev_v 2 rfl (dp_mono (see f3) rsh)) ev_int (at_nat (n := 1) rfl))) fun pa H5 npa k5 lpa => ⟨k5 _ _ ob3, ?_⟩) rfl C.cl C.na_parts (show (2 : Nat) < 1000 by decide)
  have npx : pa ≠ x := fun z => by rw [z, ob3] at npa; cases npa
  have f5 : Fr [x] H5 _ := fr_obj (k5 _ _ ob3) (o := .ins (kC K) dx (putF "parts" (.ref pa) (putF "sizes" vsz (putF "word" (.str wd.str) []))))
  have f6 : Fr [x] H _ := (f3.trans (Fr.of k5)).trans f5
  have ob6 : (upd H5 x (.ins (kC K) dx (putF "parts" (.ref pa) (putF "sizes" vsz (putF "word" (.str wd.str) []))))) x = some (.ins (kC K) dx (putF "parts" (.ref pa) (putF "sizes" vsz (putF "word" (.str wd.str) [])))) := upd_same
  have lpa6 := ls_fr lpa f5 (by simp; exact npx) pp_tups
  have npaH : H pa = none := by
    cases e : H pa with
    | none => rfl
    | some o => rw [f3.same _ _ (by simp; exact npx) e] at npa; cases npa
  generalize upd H5 x (.ins (kC K) dx (putF "parts" (.ref pa) (putF "sizes" vsz (putF "word" (.str wd.str) [])))) = H6 at f5 f6 ob6 lpa6 ⊢
  -- bags
  refine b_fldx 0 (Er.go (er_ixT (i := 0) (er_v 3 rfl) ((sqT_mono (see f6) sq2)) ev_int rfl) fun H7 k7 => ⟨k7 _ _ ob6, ?_⟩) rfl C.cl C.na_bags (show (3 : Nat) < 1000 by decide)
  have f7 : Fr [x] H6 _ := (Fr.of k7).trans (fr_obj (k7 _ _ ob6) (o := .ins (kC K) dx (putF "bags" vbags (putF "parts" (.ref pa) (putF "sizes" vsz (putF "word" (.str wd.str) []))))))
  have f8 : Fr [x] H _ := f6.trans f7
  have ob8 : (upd H7 x (.ins (kC K) dx (putF "bags" vbags (putF "parts" (.ref pa) (putF "sizes" vsz (putF "word" (.str wd.str) [])))))) x = some (.ins (kC K) dx (putF "bags" vbags (putF "parts" (.ref pa) (putF "sizes" vsz (putF "word" (.str wd.str) []))))) := upd_same
  have lpa8 := ls_fr lpa6 f7 (by simp; exact npx) pp_tups
  generalize upd H7 x (.ins (kC K) dx (putF "bags" vbags (putF "parts" (.ref pa) (putF "sizes" vsz (putF "word" (.str wd.str) []))))) = H8 at f7 f8 ob8 lpa8 ⊢
  -- near
  refine b_fldx 0 (ew_lc (lcw_LL (n := t.1.length) (fn := near t.2) [("i", 4)] 4 rfl nd C.m_range ((ev_lenT C.m_len (ev_ixT (i := 0) (ev_v 3 rfl (dp_mono (see f8) rtr)) ev_int (at_nat (n := 0) rfl))).to (by rw [List.length_map])) (blkOk_by (N := n_k_init) (sc := defScope s_k_init) (by decide +kernel)) (by omega) (fun a ha H9 k9 s' H0 C' cl fp => evl_call (cal_near_of C) hr (by decide) (eva2 (ev_ixT (i := 1) (ev_v 3 rfl (dp_mono ((see f8).trans k9) rtr)) ev_int (at_nat (n := 1) rfl)) (ev_v 4 rfl (.int _))) ⟨t.2, a, rfl, by omega, rfl⟩) fun qn H9 bs nqn k9 ll => ⟨k9 _ _ ob8, ?_⟩)) rfl C.cl C.na_near (show (4 : Nat) < 1000 by decide)
  have nqx : qn ≠ x := fun z => by rw [z, ob8] at nqn; cases nqn
  have f9 : Fr [x] H9 _ := fr_obj (k9 _ _ ob8) (o := .ins (kC K) dx (putF "near" (.ref qn) (putF "bags" vbags (putF "parts" (.ref pa) (putF "sizes" vsz (putF "word" (.str wd.str) []))))))
  have f10 : Fr [x] H _ := (f8.trans (Fr.of k9)).trans f9
  have ob10 : (upd H9 x (.ins (kC K) dx (putF "near" (.ref qn) (putF "bags" vbags (putF "parts" (.ref pa) (putF "sizes" vsz (putF "word" (.str wd.str) []))))))) x = some (.ins (kC K) dx (putF "near" (.ref qn) (putF "bags" vbags (putF "parts" (.ref pa) (putF "sizes" vsz (putF "word" (.str wd.str) [])))))) := upd_same
  have lpa10 := ls_fr (ls_mono lpa8 k9) f9 (by simp; exact npx) pp_tups
  have ll10 := ll.fr f9 nqx (by rw [ob8]; exact fun z => nomatch z)
  have hpa8 : H8 pa ≠ none := by obtain ⟨ys, h⟩ := lpa8.some; rw [h]; exact fun z => nomatch z
  have f89 : Fr [x] H8 _ := (Fr.of k9).trans f9
  generalize upd H9 x (.ins (kC K) dx (putF "near" (.ref qn) (putF "bags" vbags (putF "parts" (.ref pa) (putF "sizes" vsz (putF "word" (.str wd.str) [])))))) = H10 at f9 f10 ob10 lpa10 ll10 f89 ⊢
  -- laid
  refine b_fldx 0 (EvL.go (ds := (laidOf ps t).map pn) (EvL.to (evl_lc (lcv_T (xs := ps) (enc := pp) (f := fun p => pn (bagOf t.1 p.1)) [("part", 5)] 5 rfl nd (ev_ixT (i := 1) (ev_v 2 rfl (dp_mono (see f10) rsh)) ev_int (at_nat (n := 1) rfl)) (blkOk_by (N := n_k_init) (sc := defScope s_k_init) (by decide +kernel)) (by have := io.few; omega) (fun _ _ => rfl) fun a ha v H11 k11 r11 s' H0 C' cl fp => ev_call (cal_bag_of C) hr (by decide) (eva2 (ev_v 3 rfl (dp_mono ((see f10).trans k11) rtr)) (ev_ixT (i := 0) (ev_v 5 rfl r11) ev_int (at_nat (n := 0) rfl))) ⟨t, a.1, rfl, by omega, by have := io.part a ha; omega, io.tree.parts a.1 (List.mem_map.mpr ⟨a, ha, rfl⟩), rfl⟩)) (by unfold laidOf; rw [List.map_map]; rfl)) fun ql H11 nql k11 lql => ⟨k11 _ _ ob10, ?_⟩) rfl C.cl C.na_laid (show (5 : Nat) < 1000 by decide)
  have nlx : ql ≠ x := fun z => by rw [z, ob10] at nql; cases nql
  have f11 : Fr [x] H11 _ := fr_obj (k11 _ _ ob10) (o := .ins (kC K) dx (putF "laid" (.ref ql) (putF "near" (.ref qn) (putF "bags" vbags (putF "parts" (.ref pa) (putF "sizes" vsz (putF "word" (.str wd.str) [])))))))
  have f12 : Fr [x] H _ := (f10.trans (Fr.of k11)).trans f11
  have ob12 : (upd H11 x (.ins (kC K) dx (putF "laid" (.ref ql) (putF "near" (.ref qn) (putF "bags" vbags (putF "parts" (.ref pa) (putF "sizes" vsz (putF "word" (.str wd.str) [])))))))) x = some (.ins (kC K) dx (putF "laid" (.ref ql) (putF "near" (.ref qn) (putF "bags" vbags (putF "parts" (.ref pa) (putF "sizes" vsz (putF "word" (.str wd.str) []))))))) := upd_same
  have f1012 : Fr [x] H10 _ := (Fr.of k11).trans f11
  have lql12 := ls_fr lql f11 (by simp; exact nlx) pns_tup
  generalize upd H11 x (.ins (kC K) dx (putF "laid" (.ref ql) (putF "near" (.ref qn) (putF "bags" vbags (putF "parts" (.ref pa) (putF "sizes" vsz (putF "word" (.str wd.str) []))))))) = H12 at f11 f12 ob12 f1012 lql12 ⊢
  -- worths
  refine b_fldx (fs := putF "laid" (.ref ql) (putF "near" (.ref qn) (putF "bags" vbags (putF "parts" (.ref pa) (putF "sizes" vsz (putF "word" (.str wd.str) [])))))) 0 (ew_pe pe_dnewK fun wa nwa => ⟨by rw [upd_ne (Ne.symm (fun z => by rw [z, ob12] at nwa; cases nwa))]; exact ob12, ?_⟩) rfl C.cl C.na_worths (show (6 : Nat) < 1000 by decide)
  have nwx : wa ≠ x := fun z => by rw [z, ob12] at nwa; cases nwa
  have ob12' : (upd H12 wa (.dK [])) x = some (.ins (kC K) dx (putF "laid" (.ref ql) (putF "near" (.ref qn) (putF "bags" vbags (putF "parts" (.ref pa) (putF "sizes" vsz (putF "word" (.str wd.str) []))))))) := by rw [upd_ne (Ne.symm nwx)]; exact ob12
  have f13 : Fr [x] H12 _ := (Fr.of (same_new nwa)).trans (fr_obj ob12' (o := .ins (kC K) dx (putF "worths" (.ref wa) (putF "laid" (.ref ql) (putF "near" (.ref qn) (putF "bags" vbags (putF "parts" (.ref pa) (putF "sizes" vsz (putF "word" (.str wd.str) [])))))))))
  have ob13 : (upd (upd H12 wa (.dK [])) x (.ins (kC K) dx (putF "worths" (.ref wa) (putF "laid" (.ref ql) (putF "near" (.ref qn) (putF "bags" vbags (putF "parts" (.ref pa) (putF "sizes" vsz (putF "word" (.str wd.str) []))))))))) x = some (.ins (kC K) dx (putF "worths" (.ref wa) (putF "laid" (.ref ql) (putF "near" (.ref qn) (putF "bags" vbags (putF "parts" (.ref pa) (putF "sizes" vsz (putF "word" (.str wd.str) [])))))))) := upd_same
  have wa13 : (upd (upd H12 wa (.dK [])) x (.ins (kC K) dx (putF "worths" (.ref wa) (putF "laid" (.ref ql) (putF "near" (.ref qn) (putF "bags" vbags (putF "parts" (.ref pa) (putF "sizes" vsz (putF "word" (.str wd.str) []))))))))) wa = some (.dK []) := by rw [upd_ne nwx, upd_same]
  generalize upd (upd H12 wa (.dK [])) x (.ins (kC K) dx (putF "worths" (.ref wa) (putF "laid" (.ref ql) (putF "near" (.ref qn) (putF "bags" vbags (putF "parts" (.ref pa) (putF "sizes" vsz (putF "word" (.str wd.str) [])))))))) = H13 at f13 ob13 wa13 ⊢
  -- known
  have f0_13 : Fr [x] H H13 := f12.trans f13
  refine b_fldx (fs := putF "worths" (.ref wa) (putF "laid" (.ref ql) (putF "near" (.ref qn) (putF "bags" vbags (putF "parts" (.ref pa) (putF "sizes" vsz (putF "word" (.str wd.str) []))))))) 0 (ew_pe pe_dnewT fun kn nkn => ⟨by rw [upd_ne (Ne.symm (fun z => by rw [z, ob13] at nkn; cases nkn))]; exact ob13, ?_⟩) rfl C.cl C.na_known (show (7 : Nat) < 1000 by decide)
  have nkx : kn ≠ x := fun z => by rw [z, ob13] at nkn; cases nkn
  have nkw : kn ≠ wa := fun z => by rw [z, wa13] at nkn; cases nkn
  have ob13' : (upd H13 kn (.dT [])) x = some (.ins (kC K) dx (putF "worths" (.ref wa) (putF "laid" (.ref ql) (putF "near" (.ref qn) (putF "bags" vbags (putF "parts" (.ref pa) (putF "sizes" vsz (putF "word" (.str wd.str) [])))))))) := by rw [upd_ne (Ne.symm nkx)]; exact ob13
  have f14 : Fr [x] H13 _ := (Fr.of (same_new nkn)).trans (fr_obj ob13' (o := .ins (kC K) dx (putF "known" (.ref kn) (putF "worths" (.ref wa) (putF "laid" (.ref ql) (putF "near" (.ref qn) (putF "bags" vbags (putF "parts" (.ref pa) (putF "sizes" vsz (putF "word" (.str wd.str) []))))))))))
  have ob14 : (upd (upd H13 kn (.dT [])) x (.ins (kC K) dx (putF "known" (.ref kn) (putF "worths" (.ref wa) (putF "laid" (.ref ql) (putF "near" (.ref qn) (putF "bags" vbags (putF "parts" (.ref pa) (putF "sizes" vsz (putF "word" (.str wd.str) [])))))))))) x = some (.ins (kC K) dx (putF "known" (.ref kn) (putF "worths" (.ref wa) (putF "laid" (.ref ql) (putF "near" (.ref qn) (putF "bags" vbags (putF "parts" (.ref pa) (putF "sizes" vsz (putF "word" (.str wd.str) []))))))))) := upd_same
  have kn14 : (upd (upd H13 kn (.dT [])) x (.ins (kC K) dx (putF "known" (.ref kn) (putF "worths" (.ref wa) (putF "laid" (.ref ql) (putF "near" (.ref qn) (putF "bags" vbags (putF "parts" (.ref pa) (putF "sizes" vsz (putF "word" (.str wd.str) [])))))))))) kn = some (.dT []) := by rw [upd_ne nkx, upd_same]
  generalize upd (upd H13 kn (.dT [])) x (.ins (kC K) dx (putF "known" (.ref kn) (putF "worths" (.ref wa) (putF "laid" (.ref ql) (putF "near" (.ref qn) (putF "bags" vbags (putF "parts" (.ref pa) (putF "sizes" vsz (putF "word" (.str wd.str) []))))))))) = H14 at f14 ob14 kn14 ⊢
  -- many
  refine b_fldx 0 (ew_pe pe_int ⟨ob14, ?_⟩) rfl C.cl C.na_many (show (8 : Nat) < 1000 by decide)
  have f15 : Fr [x] H14 _ := fr_obj ob14 (o := .ins (kC K) dx (putF "many" (.int 0) (putF "known" (.ref kn) (putF "worths" (.ref wa) (putF "laid" (.ref ql) (putF "near" (.ref qn) (putF "bags" vbags (putF "parts" (.ref pa) (putF "sizes" vsz (putF "word" (.str wd.str) []))))))))))
  have ob15 : (upd H14 x (.ins (kC K) dx (putF "many" (.int 0) (putF "known" (.ref kn) (putF "worths" (.ref wa) (putF "laid" (.ref ql) (putF "near" (.ref qn) (putF "bags" vbags (putF "parts" (.ref pa) (putF "sizes" vsz (putF "word" (.str wd.str) []))))))))))) x = some (.ins (kC K) dx (putF "many" (.int 0) (putF "known" (.ref kn) (putF "worths" (.ref wa) (putF "laid" (.ref ql) (putF "near" (.ref qn) (putF "bags" vbags (putF "parts" (.ref pa) (putF "sizes" vsz (putF "word" (.str wd.str) [])))))))))) := upd_same
  generalize upd H14 x (.ins (kC K) dx (putF "many" (.int 0) (putF "known" (.ref kn) (putF "worths" (.ref wa) (putF "laid" (.ref ql) (putF "near" (.ref qn) (putF "bags" vbags (putF "parts" (.ref pa) (putF "sizes" vsz (putF "word" (.str wd.str) [])))))))))) = H15 at f15 ob15 ⊢
  -- changes
  refine b_fldx 0 (EvL.go (evl_lst eva_nil) fun ca H16 nca k16 lca => ⟨k16 _ _ ob15, ?_⟩) rfl C.cl C.na_changes (show (9 : Nat) < 1000 by decide)
  have ncx : ca ≠ x := fun z => by rw [z, ob15] at nca; cases nca
  have f16 : Fr [x] H16 _ := fr_obj (k16 _ _ ob15) (o := .ins (kC K) dx (putF "changes" (.ref ca) (putF "many" (.int 0) (putF "known" (.ref kn) (putF "worths" (.ref wa) (putF "laid" (.ref ql) (putF "near" (.ref qn) (putF "bags" vbags (putF "parts" (.ref pa) (putF "sizes" vsz (putF "word" (.str wd.str) [])))))))))))
  have ob17 : (upd H16 x (.ins (kC K) dx (putF "changes" (.ref ca) (putF "many" (.int 0) (putF "known" (.ref kn) (putF "worths" (.ref wa) (putF "laid" (.ref ql) (putF "near" (.ref qn) (putF "bags" vbags (putF "parts" (.ref pa) (putF "sizes" vsz (putF "word" (.str wd.str) [])))))))))))) x = some (.ins (kC K) dx (putF "changes" (.ref ca) (putF "many" (.int 0) (putF "known" (.ref kn) (putF "worths" (.ref wa) (putF "laid" (.ref ql) (putF "near" (.ref qn) (putF "bags" vbags (putF "parts" (.ref pa) (putF "sizes" vsz (putF "word" (.str wd.str) []))))))))))) := upd_same
  have lca17 := ls_fr lca f16 (by simp; exact ncx) rfl
  generalize upd H16 x (.ins (kC K) dx (putF "changes" (.ref ca) (putF "many" (.int 0) (putF "known" (.ref kn) (putF "worths" (.ref wa) (putF "laid" (.ref ql) (putF "near" (.ref qn) (putF "bags" vbags (putF "parts" (.ref pa) (putF "sizes" vsz (putF "word" (.str wd.str) []))))))))))) = H17 at f16 ob17 lca17 ⊢
  -- all together
  have g15 : Fr [x] H15 H17 := (Fr.of k16).trans f16
  have g14 : Fr [x] H14 H17 := f15.trans g15
  have g13 : Fr [x] H13 H17 := f14.trans g14
  have g12 : Fr [x] H12 H17 := f13.trans g13
  have g10 : Fr [x] H10 H17 := f1012.trans g12
  have g8 : Fr [x] H8 H17 := f89.trans g10
  have fA : Fr [x] H H17 := f12.trans g12
  have none_of : ∀ {Hk : Hp} {b : Addr}, Fr [x] H Hk → b ≠ x → Hk b = none → H b = none := fun {Hk b} fr hb hn => by
    cases e : H b with
    | none => rfl
    | some o => rw [fr.same _ _ (by simp; exact hb) e] at hn; cases hn
  have nwaH := none_of f12 nwx nwa
  have nknH := none_of f0_13 nkx nkn
  have ncaH := none_of ((f0_13.trans f14).trans f15) ncx nca
  have pa17 : Ls K H17 pa (ps.map pp) := ls_fr lpa10 g10 (by simp; exact npx) pp_tups
  have ne_of2 : ∀ {Hk : Hp} {a b : Addr}, Hk a ≠ none → Hk b = none → a ≠ b := fun {Hk a b} h1 h2 z => h1 (z ▸ h2)
  have some_of : ∀ {Hk Hl : Hp} {b : Addr}, Fr [x] Hk Hl → b ≠ x → Hk b ≠ none → Hl b ≠ none := fun {Hk Hl b} fr hb hn => by
    cases e : Hk b with
    | none => exact absurd e hn
    | some o => rw [fr.same _ _ (by simp; exact hb) e]; exact fun z => nomatch z
  have hpa10 := some_of f89 npx hpa8
  have hpa12 := some_of f1012 npx hpa10
  have hpa13 := some_of f13 npx hpa12
  have hpa15 := some_of (f14.trans f15) npx hpa13
  have hpac : pa ≠ ca := ne_of2 hpa15 nca
  have hM : ∀ m ∈ M0, ∀ {Hk : Hp}, Fr [x] H Hk → Hk m ≠ none := fun m hm {Hk} fr => some_of fr (fun z => hxM (z ▸ hm)) (hM0 m hm)
  let c : Kc := { a := x, dx := dx, pa := pa, wa := wa, ka := kn, ca := ca, wd := wd, sz := sz, bags := t.1, nr := nearsOf t, laid := laidOf ps t, vsz := vsz, vbags := vbags, vnear := .ref qn, vlaid := .ref ql, M := [x, pa, wa, kn, ca] ++ M0, B := H17 }
  have old : ∀ v d, Dp K (mask (x :: M0) H) v d → Dp K (mask c.M c.B) v d := fun v d r => dp_mono (mask_mono fun b o hb ho => by
    have hbx : b ≠ x := fun z => hb (by rw [z]; simp)
    refine ⟨fun z => ?_, fA.same _ _ (by simp; exact hbx) ho⟩
    rcases List.mem_append.mp z with z | z
    · simp only [List.mem_cons, List.not_mem_nil, or_false] at z
      rcases z with z | z | z | z | z
      · exact hbx z
      · rw [z, npaH] at ho; cases ho
      · rw [z, nwaH] at ho; cases ho
      · rw [z, nknH] at ho; cases ho
      · rw [z, ncaH] at ho; cases ho
    · exact hb (List.mem_cons_of_mem _ z)) r
  -- an address that is new from Hk on, known before wa came, is not among what changes
  have newA : ∀ {b : Addr}, H8 b = none → H12 b ≠ none → b ≠ x → b ∉ c.M := fun {b} h1 h2 hbx z => by
    rcases List.mem_append.mp z with z | z
    · simp only [List.mem_cons, List.not_mem_nil, or_false] at z
      rcases z with z | z | z | z | z
      · exact hbx z
      · exact hpa8 (z ▸ h1)
      · exact h2 (z ▸ nwa)
      · exact some_of f13 hbx h2 (z ▸ nkn)
      · exact some_of (f13.trans (f14.trans f15)) hbx h2 (z ▸ nca)
    · exact hM b z f8 h1
  have qn12 : H12 qn ≠ none := by rw [(ll10.fr f1012 nqx (by rw [ob8]; exact fun z => nomatch z)).at_]; exact fun z => nomatch z
  have ll17 := ll10.fr g10 nqx (by rw [ob8]; exact fun z => nomatch z)
  have ll12 := ll10.fr f1012 nqx (by rw [ob8]; exact fun z => nomatch z)
  have hx8 : H8 x ≠ none := by rw [ob8]; exact fun z => nomatch z
  have inM : ∀ {b : Addr}, b ∉ c.M → (mask c.M c.B) b = H17 b := fun {b} hb => by
    unfold mask
    rw [if_neg hb]
  have snear : Dp K (mask c.M c.B) (.ref qn) (nearsD (nearsOf t)) := ll17.dp (inM (newA nqn qn12 nqx)) fun b hb => by
    obtain ⟨h1, h2⟩ := ll12.new b hb
    exact inM (newA h1 h2 (fun z => hx8 (z ▸ h1)))
  have lql17 := ls_fr lql12 g12 (by simp; exact nlx) pns_tup
  have nql8 : H8 ql = none := by
    cases e : H8 ql with
    | none => rfl
    | some o => rw [f89.same _ _ (by simp; exact nlx) e] at nql; cases nql
  have ql12 : H12 ql ≠ none := by obtain ⟨ys, h⟩ := lql12.some; rw [h]; exact fun z => nomatch z
  have slaid : Dp K (mask c.M c.B) (.ref ql) (.list ((laidOf ps t).map pn)) := by
    obtain ⟨ys, h1, h2⟩ := lql17
    rw [map_pn] at h2 ⊢
    have e := dpa_ints h2
    subst e
    exact .lst (SqL.of ((inM (newA nql8 ql12 nlx)).trans h1)) dpa_of_ints
  refine bw_nil (q H17 c rfl rfl rfl rfl rfl rfl rfl rfl ⟨old _ _ rsz, old _ _ rbags, snear, slaid, by simp [c], by simp [c], by simp [c], by simp [c], by simp [c], hpac⟩ ⟨ob17, pa17, g13.same _ _ (by simp; exact nwx) wa13, ⟨[], g14.same _ _ (by simp; exact nkx) kn14, .nil⟩, lca17, fun b o _ h => h⟩ fA fun d hd hdx => ?_)
  simp only [Kc.own, c, List.mem_cons, List.not_mem_nil, or_false] at hd
  rcases hd with z | z | z | z | z
  · exact absurd z hdx
  · rw [z]; exact npaH
  · rw [z]; exact nwaH
  · rw [z]; exact nknH
  · rw [z]; exact ncaH
end
end SO
set_option Elab.async false
set_option linter.all false
set_option maxRecDepth 100000
set_option maxHeartbeats 4000000
/-! So44: the tape: prime, fresh, draw. -/
namespace SO
open PySem PySem.Spec PyProof.Rows L2
structure Tc where
  t : Addr
  cc : Addr
  cells : List Int
  B : Hp
/-- the tape: at most n cells were used -/
structure TAt (K : PySem.W.Frag) (c : Tc) (H : Hp) (n : Nat) : Prop where
  ex : ∃ (a : Nat) (s : Int), H c.t = some (.lst [.ref c.cc, .int (a : Int), .int s]) ∧ a ≤ n
  cells : SqL K (mask [c.t] c.B) c.cc (c.cells.map V.int)
  wl : Wl [c.t] c.B H
theorem TAt.le {K : PySem.W.Frag} {c : Tc} {H : Hp} {n m : Nat} (h : TAt K c H n) (k : n ≤ m) : TAt K c H m := by
  obtain ⟨a, s, h1, h2⟩ := h.ex
  exact ⟨⟨a, s, h1, Nat.le_trans h2 k⟩, h.cells, h.wl⟩
theorem TAt.mono {K : PySem.W.Frag} {c : Tc} {H H' : Hp} {n : Nat} (h : TAt K c H n) (k : Same H H') : TAt K c H' n := by
  obtain ⟨a, s, h1, h2⟩ := h.ex
  exact ⟨⟨a, s, k _ _ h1, h2⟩, h.cells, fun b o n e => k _ _ (h.wl b o n e)⟩
theorem TAt.fr {K : PySem.W.Frag} {c : Tc} {H H' : Hp} {n : Nat} {D : List Addr} (h : TAt K c H n) (k : Fr D H H') (ht : c.t ∉ D) (hd : ∀ d ∈ D, c.B d = none) : TAt K c H' n := by
  obtain ⟨a, s, h1, h2⟩ := h.ex
  exact ⟨⟨a, s, k.same _ _ ht h1, h2⟩, h.cells, h.wl.fr k fun d hd' => .inr (hd d hd')⟩
theorem TAt.sq {K : PySem.W.Frag} {c : Tc} {H : Hp} {n : Nat} (h : TAt K c H n) : SqL K H c.cc (c.cells.map V.int) := h.wl.same.seq h.cells
theorem TAt.put {K : PySem.W.Frag} {c : Tc} {H : Hp} {n m : Nat} (h : TAt K c H n) {a : Nat} {s : Int} (ha : a ≤ m) : TAt K c (upd H c.t (.lst [.ref c.cc, .int (a : Int), .int s])) m ∧ Fr [c.t] H (upd H c.t (.lst [.ref c.cc, .int (a : Int), .int s])) := by
  obtain ⟨a0, s0, h1, h2⟩ := h.ex
  have f : Fr [c.t] H (upd H c.t (.lst [.ref c.cc, .int (a : Int), .int s])) := fr_one fun xs => not_rd h1 (fun z => nomatch z) fun ob z => nomatch z
  exact ⟨⟨⟨a, s, upd_same, ha⟩, h.cells, h.wl.fr f fun d hd => .inl hd⟩, f⟩
section
variable {P : Program} {w : World} {K : PySem.W.Frag} {mg : Str → Option Value} {base : Heap}
def primes : List Nat := [2147483647, 2147483629, 2147483587, 2147483579, 2147483563, 2147483549, 2147483543, 2147483497, 2147483489]
def primeAt (a : Nat) : Nat := primes.getD (a % 9) 0
theorem primeAt_ok (a : Nat) : 2 ≤ primeAt a ∧ primeAt a < 4294967296 := by
  unfold primeAt
  have h : a % 9 < 9 := Nat.mod_lt _ (by decide)
  have : ∀ i, i < 9 → 2 ≤ primes.getD i 0 ∧ primes.getD i 0 < 4294967296 := by decide
  exact this _ h
def rPrime (ds : List D0) (d : D0) : Prop := ∃ a : Nat, ds = [pn a] ∧ d = pn (primeAt a)
theorem cal_g_prime (C : Ctx K mg) : C8.Cal P w K mg base 1 "_law_gprime" (spP K rPrime) [] := by
  refine cal_of (k := 0) C.h_g_prime c_g_prime (spP_len fun ds d ⟨_, h, _⟩ => by rw [h]; rfl) fun cdv A outer s H vs Q E hr ⟨ds, d, r, ⟨a, e1, e2⟩, q⟩ => ?_
  subst e1; subst e2
  obtain ⟨v1, rfl, r1⟩ := dpa1 r
  have nd := c_g_prime.nd
  refine b_setl (ds := (primes.take 7).map pn) 1 nd (EvL.to (evl_lst (eva_cons ev_int (eva_cons ev_int (eva_cons ev_int (eva4 ev_int ev_int ev_int ev_int))))) rfl) fun q1 H1 n1 k1 l1 => ?_
  refine b_retv (d := pn (primeAt a)) (ev_ixL (EvL.ev (ds := primes.map pn) (EvL.to (evl_catV 1 rfl l1 (evl_lst (eva2 ev_int ev_int)) (by decide)) rfl)) (ev_mod (ev_v 0 rfl (dp_mono k1 r1)) ev_int (by decide)) ?_) fun v H2 k2 r2 => q v H2 (k1.trans k2) r2
  have e : (a : Int) % 9 = ((a % 9 : Nat) : Int) := rfl
  rw [e]
  refine at_map (x := primeAt a) ?_
  have h : a % 9 < primes.length := Nat.mod_lt _ (by decide)
  unfold primeAt
  rw [List.getD_eq_getElem?_getD, List.getElem?_eq_getElem h]
  rfl
def spFresh (K : PySem.W.Frag) (c : Tc) : Sp := fun vs H Q _ => ∃ n, vs = [.ref c.t] ∧ TAt K c H n ∧ n < 1000000 ∧ ∀ z H', Fr [c.t] H H' → TAt K c H' (n + 1) → Q (.int z) H'
theorem natAbs_lt_pow {i : Int} {m b : Nat} (h0 : 0 ≤ i) (h : i < (m : Int)) (hm : m ≤ 2 ^ b) : i.natAbs < 2 ^ b := by omega
theorem cal_g_fresh (C : Ctx K mg) (c : Tc) : C8.Cal P w K mg base 2 "_law_gfresh" (spFresh K c) [] := by
  refine cal_of (k := 1) C.h_g_fresh c_g_fresh (fun vs H Q E ⟨_, h, _⟩ => by rw [h]; rfl) fun cdv A outer s H vs Q E hr ⟨n, e, ta, hn, q⟩ => ?_
  subst e
  have nd := c_g_fresh.nd
  obtain ⟨a, s0, h1, ha⟩ := ta.ex
  have dpt : ∀ {Hk : Hp} {a s : _}, Hk c.t = some (.lst [.ref c.cc, .int a, .int s]) → SqL K Hk c.cc (c.cells.map V.int) → Dp K Hk (.ref c.t) (.list [.list (c.cells.map PyData.int), .int a, .int s]) := fun {Hk a s} h1 h2 => .lst (SqL.of h1) (.cons (.lst h2 dpa_of_ints) (.cons (.int _) (.cons (.int _) .nil)))
  refine b_setv (d := pn a) 1 nd (ev_ixL (ev_v 0 rfl (dpt h1 ta.sq)) ev_int (at_nat (n := 1) rfl)) fun v1 H1 k1 r1 => ?_
  rw [dp_int r1]
  refine b_setL (Ev.go (d := pn (a + 1)) (Ev.to (ev_add (ev_v 1 rfl (.int _)) ev_int) rfl) fun v2 H2 k2 r2 => ew_v 0 rfl (ew_pe pe_int ?_))
  rw [dp_int r2]
  have ta2 := (ta.mono k1).mono k2
  refine ⟨c.t, _, 1, 1, rfl, rfl, k2 _ _ (k1 _ _ h1), rfl, ?_⟩
  obtain ⟨ta3, f3⟩ := ta2.put (m := n + 1) (a := a + 1) (s := s0) (by omega)
  have h3 : (upd H2 c.t (.lst [.ref c.cc, .int ((a + 1 : Nat) : Int), .int s0])) c.t = some (.lst [.ref c.cc, .int ((a + 1 : Nat) : Int), .int s0]) := upd_same
  show BW _ _ _ _ (upd H2 c.t (.lst [.ref c.cc, .int ((a + 1 : Nat) : Int), .int s0]))
  generalize upd H2 c.t (.lst [.ref c.cc, .int ((a + 1 : Nat) : Int), .int s0]) = H3 at ta3 f3 h3 ⊢
  have fA : Fr [c.t] H H3 := (Fr.of (k1.trans k2)).trans f3
  have len : ∀ {Hk : Hp}, Same H3 Hk → ∀ {σ : L2.St}, σ[0]? = some (some (V.ref c.t)) → True := fun _ _ _ => trivial
  refine b_setv (d := .int (7 * (a : Int) + 3)) 2 nd (ev_add (ev_mul ev_int (ev_v 1 rfl (.int _)) (cmul_k (by decide) (by omega))) ev_int) fun v4 H4 k4 r4 => ?_
  rw [dp_int r4]
  have dp4 := dpt (k4 _ _ h3) (ta3.mono k4).sq
  -- behind the choice of the cell
  have rest : ∀ (z : Int) H5, Same H4 H5 → BW (cx P w K mg base n_g_fresh (Str.ofString "_law_gfresh") (defScope s_g_fresh) (He.ga K (Str.ofString "_law_gfresh")) cdv A outer s H E) ((defBody s_g_fresh).drop 4) { nx := fun _ H' => Q .non H', rt := Q } [some (.ref c.t), some (.int (a : Int)), some (.int z), none, none, none] H5 := by
    intro z H5 k5
    have k35 := k4.trans k5
    have dp5 := dpt (k35 _ _ h3) (ta3.mono k35).sq
    have fin : ∀ (z : Int) H', Same H5 H' → Q (.int z) H' := fun z H' k => q z H' (fA.trans (Fr.of (k35.trans k))) (ta3.mono (k35.trans k))
    refine b_when (b := decide ((a : Int) < ((c.cells.map PyData.int).length : Nat)) && decide ((10 : Int) ^ 18 ≤ z)) (tv_wv (wv_and (tv_lt (ev_v 1 rfl (.int _)) (ev_lenL C.m_len (ev_ixL (ev_v 0 rfl dp5) ev_int (at_nat (n := 0) rfl)))) fun _ => wv_and1 (tv_ge (ev_v 2 rfl (.int _)) (ev_pow ev_int ev_int ⟨by decide, by decide, by decide⟩)))) (fun _ H6 k6 => ?_) fun _ H6 k6 => ?_
    · exact b_retv (ev_v 2 rfl (.int _)) fun v H7 k7 r7 => by rw [dp_int r7]; exact fin _ _ (k6.trans k7)
    · have m0 := Int.emod_nonneg z (show (2147483477 : Int) ≠ 0 by decide)
      have m1 := Int.emod_lt_of_pos z (show (0 : Int) < 2147483477 by decide)
      have mm : z % 2147483477 * ((a : Int) + 1) ≤ 2147483477 * 1000001 := Int.mul_le_mul (Int.le_of_lt m1) (by omega) (by omega) (by decide)
      have mm0 : 0 ≤ z % 2147483477 * ((a : Int) + 1) := Int.mul_nonneg m0 (by omega)
      obtain ⟨p1, p2⟩ := primeAt_ok a
      obtain ⟨p3, p4⟩ := primeAt_ok (a + 4)
      obtain ⟨p5, p6⟩ := primeAt_ok (a + 7)
      refine b_setv (d := .int ((z % 2147483477 * ((a : Int) + 1) + 104729 * (a : Int) + 17) ^ 5 % (primeAt a : Nat))) 3 nd (ev_mod (ev_pow (ev_add (ev_add (ev_mul (ev_mod (ev_v 2 rfl (.int _)) ev_int (by decide)) (ev_add (ev_v 1 rfl (.int _)) ev_int) (cmul_small (Nat.lt_trans (show (z % 2147483477).natAbs < 2 ^ 32 by omega) (by decide +kernel)) (Nat.lt_trans (show ((a : Int) + 1).natAbs < 2 ^ 32 by omega) (by decide +kernel)))) (ev_mul ev_int (ev_v 1 rfl (.int _)) (cmul_k (by decide) (by omega)))) ev_int) ev_int ⟨by decide, by decide, by omega⟩) (ev_call (cal_g_prime C) hr (by decide) (eva1 (ev_v 1 rfl (.int _))) ⟨a, rfl, rfl⟩) (by omega)) fun v7 H7 k7 r7 => ?_
      rw [dp_int r7]
      generalize hone : (z % 2147483477 * ((a : Int) + 1) + 104729 * (a : Int) + 17) ^ 5 % (primeAt a : Nat) = one
      have o0 : 0 ≤ one := by rw [← hone]; exact Int.emod_nonneg _ (by omega)
      have o1 : one < 4294967296 := by
        have := Int.emod_lt_of_pos ((z % 2147483477 * ((a : Int) + 1) + 104729 * (a : Int) + 17) ^ 5) (show (0 : Int) < (primeAt a : Nat) by omega)
        omega
      have oo : one * ((a : Int) + 3) ≤ 4294967296 * 1000003 := Int.mul_le_mul (Int.le_of_lt o1) (by omega) (by omega) (by decide)
      have oo0 : 0 ≤ one * ((a : Int) + 3) := Int.mul_nonneg o0 (by omega)
      have m2 := Int.emod_nonneg z (show (65537 : Int) ≠ 0 by decide)
      have m3 := Int.emod_lt_of_pos z (show (0 : Int) < 65537 by decide)
      refine b_setv (d := .int ((one * ((a : Int) + 3) + z % 65537 + 1) ^ 3 % (primeAt (a + 4) : Nat))) 4 nd (ev_mod (ev_pow (ev_add (ev_add (ev_mul (ev_v 3 rfl (.int _)) (ev_add (ev_v 1 rfl (.int _)) ev_int) (cmul_small (Nat.lt_trans (show one.natAbs < 2 ^ 33 by omega) (by decide +kernel)) (Nat.lt_trans (show ((a : Int) + 3).natAbs < 2 ^ 32 by omega) (by decide +kernel)))) (ev_mod (ev_v 2 rfl (.int _)) ev_int (by decide))) ev_int) ev_int ⟨by decide, by decide, by omega⟩) (ev_call (cal_g_prime C) hr (by decide) (eva1 (d := pn (a + 4)) (Ev.to (ev_add (ev_v 1 rfl (.int _)) ev_int) rfl)) ⟨a + 4, rfl, rfl⟩) (by omega)) fun v8 H8 k8 r8 => ?_
      rw [dp_int r8]
      generalize htwo : (one * ((a : Int) + 3) + z % 65537 + 1) ^ 3 % (primeAt (a + 4) : Nat) = two
      have t0 : 0 ≤ two := by rw [← htwo]; exact Int.emod_nonneg _ (by omega)
      have t1 : two < 4294967296 := by
        have := Int.emod_lt_of_pos ((one * ((a : Int) + 3) + z % 65537 + 1) ^ 3) (show (0 : Int) < (primeAt (a + 4) : Nat) by omega)
        omega
      have tb : two.natAbs < 2 ^ 10000 := Nat.lt_trans (show two.natAbs < 2 ^ 33 by omega) (by decide +kernel)
      refine b_setv (d := .int ((two * two + one) % (primeAt (a + 7) : Nat))) 5 nd (ev_mod (ev_add (ev_mul (ev_v 4 rfl (.int _)) (ev_v 4 rfl (.int _)) (cmul_small tb tb)) (ev_v 3 rfl (.int _))) (ev_call (cal_g_prime C) hr (by decide) (eva1 (d := pn (a + 7)) (Ev.to (ev_add (ev_v 1 rfl (.int _)) ev_int) rfl)) ⟨a + 7, rfl, rfl⟩) (by omega)) fun v9 H9 k9 r9 => ?_
      rw [dp_int r9]
      generalize hthree : (two * two + one) % (primeAt (a + 7) : Nat) = three
      have h0 : 0 ≤ three := by rw [← hthree]; exact Int.emod_nonneg _ (by omega)
      have h1 : three < 4294967296 := by
        have := Int.emod_lt_of_pos (two * two + one) (show (0 : Int) < (primeAt (a + 7) : Nat) by omega)
        omega
      refine b_retv (ev_add (ev_mul (ev_add (ev_mul (ev_v 5 rfl (.int _)) ev_int (cmul_small (Nat.lt_trans (show three.natAbs < 2 ^ 33 by omega) (by decide +kernel)) (by decide +kernel))) (ev_v 4 rfl (.int _))) ev_int (cmul_small (Nat.lt_trans (show (three * 2147483647 + two).natAbs < 2 ^ 80 by omega) (by decide +kernel)) (by decide +kernel))) (ev_v 3 rfl (.int _))) fun v10 H10 k10 r10 => ?_
      rw [dp_int r10]
      exact fin _ _ ((((k6.trans k7).trans k8).trans k9).trans k10)
  refine b_ifv (b := decide ((a : Int) < ((c.cells.map PyData.int).length : Nat))) (tv_lt (ev_v 1 rfl (.int _)) (ev_lenL C.m_len (ev_ixL (ev_v 0 rfl dp4) ev_int (at_nat (n := 0) rfl)))) (fun hb H5 k5 => ?_) fun hb H5 k5 => ?_
  · have hlt : a < c.cells.length := by
      have := of_decide_eq_true hb
      rw [List.length_map] at this
      omega
    have dp5 := dpt ((k4.trans k5) _ _ h3) (ta3.mono (k4.trans k5)).sq
    refine b_setv (d := .int (c.cells.getD a 0)) 2 nd (ev_ixL (ev_ixL (ev_v 0 rfl dp5) ev_int (at_nat (n := 0) rfl)) (ev_v 1 rfl (.int _)) (at_map (x := c.cells.getD a 0) (by rw [List.getD_eq_getElem?_getD, List.getElem?_eq_getElem hlt]; rfl))) fun v6 H6 k6 r6 => ?_
    rw [dp_int r6]
    exact bw_nil (rest _ H6 (k5.trans k6))
  · have dp5 := dpt ((k4.trans k5) _ _ h3) (ta3.mono (k4.trans k5)).sq
    refine b_when (b := decide ((0 : Int) < ((c.cells.map PyData.int).length : Nat))) (tv_gt (ev_lenL C.m_len (ev_ixL (ev_v 0 rfl dp5) ev_int (at_nat (n := 0) rfl))) ev_int) (fun hb2 H6 k6 => ?_) fun hb2 H6 k6 => bw_nil (rest _ H6 (k5.trans k6))
    have hpos : 0 < c.cells.length := by
      have := of_decide_eq_true hb2
      rw [List.length_map] at this
      omega
    have hlt : a % c.cells.length < c.cells.length := Nat.mod_lt _ hpos
    have dp6 := dpt (((k4.trans k5).trans k6) _ _ h3) (ta3.mono ((k4.trans k5).trans k6)).sq
    have m0 := Int.emod_nonneg (c.cells.getD (a % c.cells.length) 0) (show (1000003 : Int) ≠ 0 by decide)
    have m1 := Int.emod_lt_of_pos (c.cells.getD (a % c.cells.length) 0) (show (0 : Int) < 1000003 by decide)
    refine b_setv (d := .int (c.cells.getD (a % c.cells.length) 0 % 1000003 * ((a : Int) + 1) + (a : Int))) 2 nd (ev_add (ev_mul (ev_mod (ev_ixL (i := ((a % c.cells.length : Nat) : Int)) (ev_ixL (ev_v 0 rfl dp6) ev_int (at_nat (n := 0) rfl)) (Ev.to (ev_mod (ev_v 1 rfl (.int _)) (Ev.to (ev_lenL C.m_len (ev_ixL (ev_v 0 rfl dp6) ev_int (at_nat (n := 0) rfl))) (by rw [List.length_map])) (by omega)) rfl) (at_map (x := c.cells.getD (a % c.cells.length) 0) (by rw [List.getD_eq_getElem?_getD, List.getElem?_eq_getElem hlt]; rfl))) ev_int (by decide)) (ev_add (ev_v 1 rfl (.int _)) ev_int) (cmul_k (by omega) (by omega))) (ev_v 1 rfl (.int _))) fun v7 H7 k7 r7 => ?_
    rw [dp_int r7]
    exact bw_nil (bw_nil (rest _ H7 ((k5.trans k6).trans k7)))
end
end SO
set_option Elab.async false
set_option linter.all false
set_option maxRecDepth 100000
set_option maxHeartbeats 4000000
/-! So45: draw; comprehensions over a range whose element changes things; word, worths. -/
namespace SO
open PySem PySem.Spec PyProof.Rows L2
section
variable {X : Cx} {σ : L2.St} {H : Hp} {elt e : Expr} {scope : Scope} {x : Str} {px p p' : Pos}
structure RngZ (X : Cx) (scope : Scope) (elt : Expr) (σ' : Nat → L2.St) (H : Hp) (n : Nat) (E : List Addr) (Z : Nat → List D0 → Hp → Prop) : Prop where
  z0 : Z 0 [] H
  st : ∀ i ds H1 H2 D, H D = none → Z i ds H1 → Fr [D] H1 H2 → Z i ds H2
  e : ∀ d ∈ E, H d ≠ none
  turn : ∀ i ds H1, i < n → Z i ds H1 → Blk X scope fun Y => EW Y elt (σ' i) H1 fun v H2 => ∃ d, tupOnly d = true ∧ Z (i + 1) (ds ++ [d]) H2 ∧ Dp X.K H2 v d ∧ Fr E H1 H2
theorem lcw_rng (own : List (Str × Nat)) (j : Nat) (hc : X.calm = true) (hN : X.N.Nodup) (hm : X.mg "range" = none) (ok : BlkOk X.N X.env.scope scope own) {Q : VK}
    (hi : EW X e σ H fun v H1 => ∃ n : Nat, v = .int (n : Int) ∧ n ≤ 100000 ∧ ∃ E Z, RngZ X scope elt (fun a => (wipe σ (own.map (·.2))).set j (some (.int (a : Int)))) H1 n E Z ∧ ∀ q H2 ds, H1 q = none → Z n ds H2 → ds.length = n → tupOnlyL ds = true → Ls X.K H2 q ds → Q (.ref q) H2)
    (hg : Blk X scope fun Y => PG Y (.Name x px) (gName j) := by exact fun _ _ _ _ _ => g_name _ (by assumption)) (hw : ∀ v, wipe ((wipe σ (own.map (·.2))).set j (some v)) (own.map (·.2)) = wipe σ (own.map (·.2)) := by intro _; rfl)
    (hgl : Gl X "range" := by rfl) (hst : starEach [e] X.env = (false, eval e X.env) :: starEach [] X.env := by rfl) (hf : ∀ x, foldedSetIterable (.Call (.Name "range" p) [e] [] p') X.env x = pure x := by intro _; rfl) : LcW X elt (.Name x px) (.Call (.Name "range" p) [e] [] p') [] scope σ H Q := by
  refine ⟨own, _, gName j, tYes, teB X scope elt, ⟨hc, hN, pi_range1 hgl hm pa_aw hst, ok, hg, pts0_blk, pe_blk, hf⟩, ?_⟩
  show AW X [e] σ H _
  refine aw_one (hi.mono fun v H1 ⟨n, ev, hn, E, Z, hz, q⟩ => ?_) hst
  subst ev
  refine ⟨n, rfl, by omega, by omega, fun Dl hD => ?_⟩
  have en : (n : Int).toNat = n := Int.toNat_natCast n
  rw [en]
  have nE : Dl ∉ E := fun z => hz.e Dl z hD
  refine ⟨fun i m H' => m = n - i ∧ i ≤ n ∧ ∃ ds, Z i ds H' ∧ ds.length = i ∧ tupOnlyL ds = true ∧ Ls X.K H' Dl ds, ⟨n, by simp, Nat.zero_le _, [], hz.st _ _ _ _ Dl hD hz.z0 (Fr.of (same_new hD)), rfl, rfl, [], upd_same, .nil⟩, ?_⟩
  rintro i m H' ⟨rfl, hi', ds, zz, hl, ht, ys, hx, hd⟩
  by_cases hlt : i < n
  · refine .inr ⟨hlt, fun H'' => ∃ ds, Z (i + 1) ds H'' ∧ ds.length = i + 1 ∧ tupOnlyL ds = true ∧ Ls X.K H'' Dl ds, fun H'' p => ⟨n - (i + 1), by omega, rfl, hlt, p⟩, fun u Hy hy => ?_⟩
    obtain ⟨rfl, rfl⟩ := hy
    rw [Int.zero_add]
    show gName j (.int (i : Int)) _ Hy _
    refine ⟨hw _, ?_⟩
    refine iteT (B := ∃ ds, Z (i + 1) ds Hy ∧ ds.length = i + 1 ∧ tupOnlyL ds = true ∧ Ls X.K Hy Dl ds) fun s H0 C cl fp => ?_
    refine (hz.turn i ds Hy hlt zz s H0 C cl fp).mono fun v H4 ⟨d, td, z4, r4, f4⟩ => ?_
    have hx4 : H4 Dl = some (.lst ys) := f4.same _ _ nE hx
    have kb : SameB Dl H4 (upd H4 Dl (.lst (ys ++ [v]))) := sameB_upd
    have tp := kb.tp hx4
    refine ⟨ys, hx4, ?_, ds ++ [d], hz.st _ _ _ _ Dl hD z4 (Fr.ofB kb ⟨_, hx4⟩ (by simp)), by rw [List.length_append, hl]; rfl, ?_, ys ++ [v], upd_same, dpa_app (dpa_tp (f4.tp.trans tp) ht hd) (.cons (dp_tp tp td r4) .nil)⟩
    · rw [dpa_len hd, hl]
      exact Nat.lt_of_lt_of_le hlt (Nat.le_trans hn (by decide))
    · refine tupOnlyL_iff.mpr fun u hu => ?_
      rcases List.mem_append.mp hu with h | h
      · exact tupOnlyL_iff.mp ht u h
      · rw [List.mem_singleton.mp h]; exact td
  · have e : i = n := by omega
    subst e
    exact .inl ⟨Nat.le_refl _, q Dl H' ds hD zz hl ht ⟨ys, hx, hd⟩⟩
end
section
variable {P : Program} {w : World} {K : PySem.W.Frag} {mg : Str → Option Value} {base : Heap}
def spDraw (K : PySem.W.Frag) (c : Tc) : Sp := fun vs H Q _ => ∃ n m : Nat, vs = [.ref c.t, .int (m : Int)] ∧ 0 < m ∧ m < 2 ^ 64 ∧ TAt K c H n ∧ n < 1000000 ∧ ∀ (i : Nat) H', i < m → Fr [c.t] H H' → TAt K c H' (n + 1) → Q (.int (i : Int)) H'
theorem cal_g_draw (C : Ctx K mg) (c : Tc) : C8.Cal P w K mg base 3 "_law_gdraw" (spDraw K c) [] := by
  refine cal_of (k := 2) C.h_g_draw c_g_draw (fun vs H Q E ⟨_, _, h, _⟩ => by rw [h]; rfl) fun cdv A outer s H vs Q E hr ⟨n, m, e, hm, hm2, ta, hn, q⟩ => ?_
  subst e
  have nd := c_g_draw.nd
  have dpt : ∀ {Hk : Hp} {a s : _}, Hk c.t = some (.lst [.ref c.cc, .int a, .int s]) → SqL K Hk c.cc (c.cells.map V.int) → Dp K Hk (.ref c.t) (.list [.list (c.cells.map PyData.int), .int a, .int s]) := fun {Hk a s} h1 h2 => .lst (SqL.of h1) (.cons (.lst h2 dpa_of_ints) (.cons (.int _) (.cons (.int _) .nil)))
  have hdiv : ∀ z : Int, CDivW z (m : Int) := fun z => ⟨by omega, by
    rw [Int.natAbs_natCast]
    have := (Nat.log2_lt (by omega : m ≠ 0)).mpr hm2
    omega⟩
  have rest : ∀ H5, Fr [c.t] H H5 → TAt K c H5 (n + 1) → BW (cx P w K mg base n_g_draw (Str.ofString "_law_gdraw") (defScope s_g_draw) (He.ga K (Str.ofString "_law_gdraw")) cdv A outer s H E) ((defBody s_g_draw).drop 1) { nx := fun _ H' => Q .non H', rt := Q } [some (.ref c.t), some (.int (m : Int)), none] H5 := by
    intro H5 f5 ta5
    obtain ⟨a, s0, h1, ha⟩ := ta5.ex
    refine b_setv (d := .int (s0 % (m : Int))) 2 nd (ev_mod (ev_ixL (ev_v 0 rfl (dpt h1 ta5.sq)) ev_int (at_nat (n := 2) rfl)) (ev_v 1 rfl (.int _)) (by omega)) fun v6 H6 k6 r6 => ?_
    rw [dp_int r6]
    have ta6 := ta5.mono k6
    refine b_setL (Ev.go (d := .int (s0 / (m : Int))) (ev_div (ev_ixL (ev_v 0 rfl (dpt (k6 _ _ h1) ta6.sq)) ev_int (at_nat (n := 2) rfl)) (ev_v 1 rfl (.int _)) (hdiv _)) fun v7 H7 k7 r7 => ew_v 0 rfl (ew_pe pe_int ?_))
    rw [dp_int r7]
    have ta7 := ta6.mono k7
    refine ⟨c.t, _, 2, 2, rfl, rfl, k7 _ _ (k6 _ _ h1), rfl, ?_⟩
    obtain ⟨ta8, f8⟩ := ta7.put (m := n + 1) (a := a) (s := s0 / (m : Int)) ha
    show BW _ _ _ _ (upd H7 c.t (.lst [.ref c.cc, .int (a : Int), .int (s0 / (m : Int))]))
    generalize upd H7 c.t (.lst [.ref c.cc, .int (a : Int), .int (s0 / (m : Int))]) = H8 at ta8 f8 ⊢
    refine b_retv (ev_v 2 rfl (.int _)) fun v9 H9 k9 r9 => ?_
    rw [dp_int r9]
    have e0 : 0 ≤ s0 % (m : Int) := Int.emod_nonneg _ (by omega)
    have e1 : s0 % (m : Int) < m := Int.emod_lt_of_pos _ (by omega)
    obtain ⟨i, hi⟩ := Int.eq_ofNat_of_zero_le e0
    rw [hi]
    exact q i H9 (by omega) ((f5.trans (Fr.of (k6.trans k7))).trans (f8.trans (Fr.of k9))) (ta8.mono k9)
  obtain ⟨a, s0, h1, ha⟩ := ta.ex
  refine b_when (b := decide (s0 < (m : Int))) (tv_lt (ev_ixL (ev_v 0 rfl (dpt h1 ta.sq)) ev_int (at_nat (n := 2) rfl)) (ev_v 1 rfl (.int _))) (fun _ H1 k1 => ?_) fun _ H1 k1 => rest H1 (Fr.of k1) ((ta.mono k1).le (by omega))
  refine b_setL (ew_call (cal_g_fresh C c) hr (by decide) (aw_one (ew_v 0 rfl ⟨n, rfl, ta.mono k1, hn, fun z H2 f2 ta2 => ew_v 0 rfl (ew_pe pe_int ?_)⟩)))
  obtain ⟨a2, s2, h2, ha2⟩ := ta2.ex
  refine ⟨c.t, _, 2, 2, rfl, rfl, h2, rfl, ?_⟩
  obtain ⟨ta3, f3⟩ := ta2.put (m := n + 1) (a := a2) (s := z) ha2
  exact bw_nil (rest _ (((Fr.of k1).trans f2).trans f3) ta3)
/-- gdraw(tape, e) -/
theorem ew_draw {X : Cx} {a e : Expr} {σ : L2.St} {H : Hp} {p pos : Pos} {c : Tc} {n m j : Nat} {Q : VK} (cl : C8.Cal X.prog X.w X.K X.mg X.base 3 "_law_gdraw" (spDraw X.K c) []) (hr : Room j X.A) (hk : 3 ≤ j) (ha : EW X a σ H fun u H1 => u = .ref c.t ∧ H1 = H) (he : Ev X e σ H (pn m)) (hm : 0 < m) (hm2 : m < 2 ^ 64) (ta : TAt X.K c H n) (hn : n < 1000000)
    (q : ∀ (i : Nat) H', i < m → Fr [c.t] H H' → TAt X.K c H' (n + 1) → Q (.int (i : Int)) H') (hg : Gl X "_law_gdraw" := by rfl) (hs1 : starEach [e] X.env = (false, eval e X.env) :: starEach [] X.env := by rfl) (hs2 : starEach [a, e] X.env = (false, eval a X.env) :: starEach [e] X.env := by rfl) (hpl : (backTo pos (starEach [e] X.env)).any (·.1) = false := by rfl) : EW X (.Call (.Name "_law_gdraw" p) [a, e] [] pos) σ H Q :=
  ew_call cl hr hk (aw_cons (ha.mono fun u H1 ⟨eu, eh⟩ => by
    subst eu; subst eh
    exact aw_one (he.go fun v H2 k2 r2 => by
      rw [dp_int r2]
      exact ⟨n, m, rfl, hm, hm2, ta.mono k2, hn, fun i H3 hi f3 t3 => q i H3 hi ((Fr.of k2).trans f3) t3⟩) hs1) hs2) hg (by decide) hs2 hpl
def spWord (K : PySem.W.Frag) (c : Tc) : Sp := fun vs H Q _ => ∃ n, vs = [.ref c.t] ∧ TAt K c H n ∧ n < 900000 ∧ ∀ (wd : Wd) H', Fr [c.t] H H' → TAt K c H' (n + 1) → Q (.str wd.str) H'
theorem cal_g_word (C : Ctx K mg) (c : Tc) : C8.Cal P w K mg base 4 "_law_gword" (spWord K c) [] := by
  refine cal_of (k := 3) C.h_g_word c_g_word (fun vs H Q E ⟨_, h, _⟩ => by rw [h]; rfl) fun cdv A outer s H vs Q E hr ⟨n, e, ta, hn, q⟩ => ?_
  subst e
  refine b_ret (ew_ix ix_list (EvL.go (evl_lst (eva_cons ev_str (eva4 ev_str ev_str ev_str ev_str))) fun ql H1 n1 k1 l1 => ew_draw (cal_g_draw C c) hr (by decide) (ew_v 0 rfl ⟨rfl, rfl⟩) ev_int (by decide) (by decide) (ta.mono k1) (by omega) fun i H2 hi f2 t2 => ?_))
  obtain ⟨xs, h1, h2⟩ := l1
  have hq2 : ql ≠ c.t := fun z => by
    obtain ⟨a, s0, h, _⟩ := ta.ex
    rw [z, h] at n1
    cases n1
  have hd : ∃ wd : Wd, xs[i]? = some (.str wd.str) := by
    obtain ⟨v1, t1, rfl⟩ : ∃ v t, xs = v :: t := by cases h2; exact ⟨_, _, rfl⟩
    have h3 := dpa_len h2
    have : ∃ wd : Wd, ([.str "sum", .str "most", .str "least", .str "wide", .str "any"] : List D0)[i]? = some (.str wd.str) := by
      have hi5 : i < 5 := hi
      match i, hi5 with
      | 0, _ => exact ⟨.sum, rfl⟩
      | 1, _ => exact ⟨.most, rfl⟩
      | 2, _ => exact ⟨.least, rfl⟩
      | 3, _ => exact ⟨.wide, rfl⟩
      | 4, _ => exact ⟨.any, rfl⟩
    obtain ⟨wd, hw⟩ := this
    obtain ⟨v, hv, rv⟩ := dpa_get h2 hw
    rw [dp_str rv] at hv
    exact ⟨wd, hv⟩
  obtain ⟨wd, hw⟩ := hd
  exact ⟨ql, xs, i, .str wd.str, rfl, rfl, SqL.of (f2.same _ _ (by simp; exact hq2) h1), at_nat hw, q wd H2 ((Fr.of k1).trans f2) t2⟩
end
end SO
set_option Elab.async false
set_option linter.all false
set_option maxRecDepth 100000
set_option maxHeartbeats 4000000
/-! So46: worths drawn. -/
namespace SO
open PySem PySem.Spec PyProof.Rows L2
theorem TAt.new {K : PySem.W.Frag} {c : Tc} {H0 H H' : Hp} {n0 n : Nat} {d : Addr} (h0 : TAt K c H0 n0) (h : TAt K c H n) (k : Fr [d] H H') (hn : H0 d = none) : TAt K c H' n := by
  obtain ⟨a, s, h1, _⟩ := h0.ex
  have ht : c.t ≠ d := fun z => by rw [z, hn] at h1; cases h1
  refine h.fr k (by simp; exact ht) fun x hx => ?_
  rw [List.mem_singleton.mp hx]
  cases e : c.B d with
  | none => rfl
  | some o =>
    have := h0.wl d o (by simp; exact Ne.symm ht) e
    rw [hn] at this
    cases this
section
variable {X : Cx} {σ : L2.St} {H : Hp} {elt e : Expr} {scope : Scope} {x : Str} {px p p' p2 pos pos2 : Pos}
/-- tuple([.. for x in range(e)]), the element changing things -/
theorem ew_tupRng (own : List (Str × Nat)) (j : Nat) (hc : X.calm = true) (hN : X.N.Nodup) (hm : X.mg "range" = none) (hmt : X.mg "tuple" = none) (ok : BlkOk X.N X.env.scope scope own) {Q : VK}
    (hi : EW X e σ H fun v H1 => ∃ n : Nat, v = .int (n : Int) ∧ n ≤ 100000 ∧ ∃ E Z, RngZ X scope elt (fun a => (wipe σ (own.map (·.2))).set j (some (.int (a : Int)))) H1 n E Z ∧ ∀ q H2 ds, H1 q = none → Z n ds H2 → ds.length = n → (∀ H3 v, Same H2 H3 → Dp X.K H3 v (.tuple ds) → Q v H3))
    (hg : Blk X scope fun Y => PG Y (.Name x px) (gName j) := by exact fun _ _ _ _ _ => g_name _ (by assumption)) (hw : ∀ v, wipe ((wipe σ (own.map (·.2))).set j (some v)) (own.map (·.2)) = wipe σ (own.map (·.2)) := by intro _; rfl)
    (hgl : Gl X "range" := by rfl) (hgt : Gl X "tuple" := by rfl) (hst : starEach [e] X.env = (false, eval e X.env) :: starEach [] X.env := by rfl) (hf : ∀ x, foldedSetIterable (.Call (.Name "range" p) [e] [] p') X.env x = pure x := by intro _; rfl)
    (he : starEach [.ListComp elt [⟨.Name x px, .Call (.Name "range" p) [e] [] p', [], 0⟩] scope pos2] X.env = (false, eval (.ListComp elt [⟨.Name x px, .Call (.Name "range" p) [e] [] p', [], 0⟩] scope pos2) X.env) :: starEach [] X.env := by rfl) (hpl : (backTo pos (starEach [] X.env)).any (·.1) = false := by rfl) :
    EW X (.Call (.Name "tuple" p2) [.ListComp elt [⟨.Name x px, .Call (.Name "range" p) [e] [] p', [], 0⟩] scope pos2] [] pos) σ H Q :=
  ew_callTy call_tuple_of hmt (by decide +kernel) (aw_one (ew_lc (lcw_rng own j hc hN hm ok (hi.mono fun v H1 ⟨n, ev, hn, E, Z, hz, q⟩ => ⟨n, ev, hn, E, Z, hz, fun l H2 ds hl zz len ht ⟨ys, h1, h2⟩ => ⟨l, ys, rfl, .inl ⟨SqL.of h1, fun t ht => q l H2 ds hl zz len _ _ (same_new ht) (.tup (SqT.of upd_same) (dpa_mono (same_new ht) h2))⟩⟩⟩) hg hw hgl hst hf)) he) hgt (by decide) (by decide) he hpl
end
section
variable {P : Program} {w : World} {K : PySem.W.Frag} {mg : Str → Option Value} {base : Heap}
/-- worths so far -/
def Wz (K : PySem.W.Frag) (c : Tc) (H1 : Hp) (n : Nat) (ok : Int → Prop) : Nat → List D0 → Hp → Prop := fun i ds H' => ∃ ws : List Int, ds = ws.map PyData.int ∧ ws.length = i ∧ (∀ w ∈ ws, ok w) ∧ TAt K c H' (n + i) ∧ Fr [c.t] H1 H'
theorem wz_ok {X : Cx} {scope : Scope} {elt : Expr} {σ' : Nat → L2.St} {H1 : Hp} {c : Tc} {n m : Nat} {ok : Int → Prop} (t0 : TAt X.K c H1 n)
    (h : ∀ i H2, i < m → Fr [c.t] H1 H2 → TAt X.K c H2 (n + i) → Blk X scope fun Y => EW Y elt (σ' i) H2 fun v H3 => ∃ w : Int, v = .int w ∧ ok w ∧ Fr [c.t] H2 H3 ∧ TAt X.K c H3 (n + i + 1)) : RngZ X scope elt σ' H1 m [c.t] (Wz X.K c H1 n ok) := by
  refine ⟨⟨[], rfl, rfl, (fun w hw => by cases hw), t0, Fr.refl⟩, ?_, fun d hd => ?_, ?_⟩
  · rintro i ds Ha Hb D hD ⟨ws, e1, e2, e3, e4, e5⟩ fr
    exact ⟨ws, e1, e2, e3, t0.new e4 fr hD, e5.drop fr hD⟩
  · rw [List.mem_singleton.mp hd]
    obtain ⟨a, s, h1, _⟩ := t0.ex
    rw [h1]
    exact fun z => nomatch z
  · rintro i ds H2 hi ⟨ws, e1, e2, e3, e4, e5⟩ s H0 C cl fp
    refine (h i H2 hi e5 e4 s H0 C cl fp).mono fun v H3 ⟨w, ev, hw, f3, t3⟩ => ⟨.int w, rfl, ⟨ws ++ [w], by rw [e1, List.map_append]; rfl, by rw [List.length_append, e2]; rfl, fun x hx => ?_, t3, e5.trans f3⟩, by rw [ev]; exact .int w, f3⟩
    rcases List.mem_append.mp hx with hx | hx
    · exact e3 x hx
    · rw [List.mem_singleton.mp hx]; exact hw
def spWorths (K : PySem.W.Frag) (c : Tc) : Sp := fun vs H Q _ => ∃ (n : Nat) (wd : Wd) (many : Nat), vs = [.ref c.t, .str wd.str, .int (many : Int)] ∧ many ≤ 100 ∧ TAt K c H n ∧ n < 900000 ∧
  ∀ v (ws : List Int) H', Fr [c.t] H H' → TAt K c H' (n + 1 + many) → ws.length = many → small12 ws → anyOk wd ws → Dp K H' v (pis ws) → Q v H'
theorem cal_g_worths (C : Ctx K mg) (c : Tc) : C8.Cal P w K mg base 4 "_law_gworths" (spWorths K c) [] := by
  refine cal_of (k := 3) C.h_g_worths c_g_worths (fun vs H Q E ⟨_, _, _, h, _⟩ => by rw [h]; rfl) fun cdv A outer s H vs Q E hr ⟨n, wd, many, e, hmany, ta, hn, q⟩ => ?_
  subst e
  have nd := c_g_worths.nd
  refine b_set 3 nd (ew_draw (m := 4) (cal_g_draw C c) hr (by decide) (ew_v 0 rfl ⟨rfl, rfl⟩) ev_int (by decide) (by decide) ta (by omega) fun way H1 hway f1 t1 => ?_)
  refine b_when (b := decide (wd = .any)) (Tv.to (tv_eqS (ev_v 1 rfl (.str _)) ev_str) (by cases wd <;> decide)) (fun hb H2 k2 => ?_) fun hb H2 k2 => ?_
  · have t2 := t1.mono k2
    refine b_ret (ew_tupRng [("k", 4)] 4 rfl nd C.m_range C.m_tuple (blkOk_by (N := n_g_worths) (sc := defScope s_g_worths) (by decide +kernel)) (ew_v 2 rfl ⟨many, rfl, by omega, [c.t], Wz K c H2 (n + 1) (fun w => w = 0 ∨ w = 1), wz_ok t2 fun i H3 hi f3 t3 s' H0 C' cl fp => ?_, fun ql H4 ds hql ⟨ws, e1, e2, e3, e4, e5⟩ hl H5 v k5 r5 => ?_⟩))
    · have hm2 : (way : Int) % 2 = 0 ∨ (way : Int) % 2 = 1 := by omega
      refine ew_ix ix_list (EvL.go (ds := [.int 0, .int 1, .int 1, .int ((way : Int) % 2)]) (evl_lst (eva4 ev_int ev_int ev_int (ev_mod (ev_v 3 rfl (.int _)) ev_int (by decide)))) fun ql H4 n4 k4 l4 => ew_draw (m := 4) (cal_g_draw C c) hr (by decide) (ew_v 0 rfl ⟨rfl, rfl⟩) ev_int (by decide) (by decide) (t3.mono k4) (by omega) fun m H5 hm f5 t5 => ?_)
      obtain ⟨xs, h1, h2⟩ := l4
      have hq2 : ql ≠ c.t := fun z => by
        obtain ⟨a, s0, h, _⟩ := t3.ex
        rw [z, h] at n4
        cases n4
      have : ∃ w : Int, (w = 0 ∨ w = 1) ∧ ([.int 0, .int 1, .int 1, .int ((way : Int) % 2)] : List D0)[m]? = some (.int w) := by
        match m, hm with
        | 0, _ => exact ⟨0, .inl rfl, rfl⟩
        | 1, _ => exact ⟨1, .inr rfl, rfl⟩
        | 2, _ => exact ⟨1, .inr rfl, rfl⟩
        | 3, _ => exact ⟨_, hm2, rfl⟩
      obtain ⟨w, hw, hw2⟩ := this
      obtain ⟨v, hv, rv⟩ := dpa_get h2 hw2
      rw [dp_int rv] at hv
      exact ⟨ql, xs, m, .int w, rfl, rfl, SqL.of (f5.same _ _ (by simp; exact hq2) h1), at_nat hv, w, rfl, hw, (Fr.of k4).trans f5, t5⟩
    · subst e1
      refine q v ws H5 (((f1.trans (Fr.of k2)).trans e5).trans (Fr.of k5)) ((e4.mono k5).le (by omega)) e2 (fun w hw => ?_) (fun _ w hw => e3 w hw) r5
      rcases e3 w hw with rfl | rfl <;> exact ⟨by decide, by decide⟩
  · have hna : wd ≠ .any := of_decide_eq_false hb
    refine b_when (b := decide ((way : Int) = 3)) (tv_eqI (ev_v 3 rfl (.int _)) ev_int) (fun hb3 H3 k3 => ?_) fun hb3 H3 k3 => ?_
    · have t3 := (t1.mono k2).mono k3
      refine b_ret (ew_tupRng [("k", 4)] 4 rfl nd C.m_range C.m_tuple (blkOk_by (N := n_g_worths) (sc := defScope s_g_worths) (by decide +kernel)) (ew_v 2 rfl ⟨many, rfl, by omega, [c.t], Wz K c H3 (n + 1) (fun w => -1000000000000 ≤ w ∧ w ≤ 1000000000000), wz_ok t3 fun i H4 hi f4 t4 s' H0 C' cl fp => ?_, fun ql H4 ds hql ⟨ws, e1, e2, e3, e4, e5⟩ hl H5 v k5 r5 => ?_⟩))
      · refine ew_op op_sub (ew_draw (m := 2000000000001) (cal_g_draw C c) hr (by decide) (ew_v 0 rfl ⟨rfl, rfl⟩) (Ev.to (ev_add (ev_mul ev_int (ev_pow ev_int ev_int ⟨by decide, by decide, by decide⟩) (cmul_small (by decide +kernel) (by decide +kernel))) ev_int) (congrArg PyData.int (by decide +kernel))) (by decide) (by decide) t4 (by omega) fun m H5 hm f5 t5 => Ev.go (ev_pow ev_int ev_int ⟨by decide, by decide, by decide⟩) fun v6 H6 k6 r6 => ?_)
        refine ⟨m, _, rfl, dp_int r6, _, rfl, ?_, f5.trans (Fr.of k6), t5.mono k6⟩
        have : ((10 : Int) ^ (12 : Int).toNat) = 1000000000000 := by decide +kernel
        rw [this]
        omega
      · subst e1
        exact q v ws H5 ((((f1.trans (Fr.of k2)).trans (Fr.of k3)).trans e5).trans (Fr.of k5)) ((e4.mono k5).le (by omega)) e2 e3 (fun z => absurd z hna) r5
    · have t3 := (t1.mono k2).mono k3
      have hw3 : way < 3 := by
        have := of_decide_eq_false hb3
        omega
      refine b_ret (ew_tupRng [("k", 4)] 4 rfl nd C.m_range C.m_tuple (blkOk_by (N := n_g_worths) (sc := defScope s_g_worths) (by decide +kernel)) (ew_v 2 rfl ⟨many, rfl, by omega, [c.t], Wz K c H3 (n + 1) (fun w => -1000000000000 ≤ w ∧ w ≤ 1000000000000), wz_ok t3 fun i H4 hi f4 t4 s' H0 C' cl fp => ?_, fun ql H4 ds hql ⟨ws, e1, e2, e3, e4, e5⟩ hl H5 v k5 r5 => ?_⟩))
      · have e1 : ([3, 13, 2] : List Nat)[way]? = some (([3, 13, 2] : List Nat).getD way 0) ∧ 0 < ([3, 13, 2] : List Nat).getD way 0 ∧ ([3, 13, 2] : List Nat).getD way 0 ≤ 13 ∧ ([0, 4, 0] : List Nat)[way]? = some (([0, 4, 0] : List Nat).getD way 0) ∧ ([0, 4, 0] : List Nat).getD way 0 ≤ 4 := by
          have : ∀ i, i < 3 → ([3, 13, 2] : List Nat)[i]? = some (([3, 13, 2] : List Nat).getD i 0) ∧ 0 < ([3, 13, 2] : List Nat).getD i 0 ∧ ([3, 13, 2] : List Nat).getD i 0 ≤ 13 ∧ ([0, 4, 0] : List Nat)[i]? = some (([0, 4, 0] : List Nat).getD i 0) ∧ ([0, 4, 0] : List Nat).getD i 0 ≤ 4 := by decide
          exact this way hw3
        obtain ⟨g1, g2, g3, g4, g5⟩ := e1
        refine ew_op op_sub (ew_draw (m := ([3, 13, 2] : List Nat).getD way 0) (cal_g_draw C c) hr (by decide) (ew_v 0 rfl ⟨rfl, rfl⟩) (ev_ixL (EvL.ev (ds := ([3, 13, 2] : List Nat).map pn) (EvL.to (evl_lst (eva3 ev_int ev_int ev_int)) rfl)) (ev_v 3 rfl (.int _)) (at_map g1)) g2 (Nat.lt_of_le_of_lt g3 (by decide)) t4 (by omega) fun m H5 hm f5 t5 => Ev.go (d := pn (([0, 4, 0] : List Nat).getD way 0)) (ev_ixL (EvL.ev (ds := ([0, 4, 0] : List Nat).map pn) (EvL.to (evl_lst (eva3 ev_int ev_int ev_int)) rfl)) (ev_v 3 rfl (.int _)) (at_map g4)) fun v6 H6 k6 r6 => ?_)
        exact ⟨m, _, rfl, dp_int r6, _, rfl, by omega, f5.trans (Fr.of k6), t5.mono k6⟩
      · subst e1
        exact q v ws H5 ((((f1.trans (Fr.of k2)).trans (Fr.of k3)).trans e5).trans (Fr.of k5)) ((e4.mono k5).le (by omega)) e2 e3 (fun z => absurd z hna) r5
end
end SO
set_option Elab.async false
set_option linter.all false
set_option maxRecDepth 100000
set_option maxHeartbeats 4000000
/-! So47: parts, sheet drawn. -/
namespace SO
open PySem PySem.Spec PyProof.Rows L2
section
variable {X : Cx} {σ : L2.St} {H : Hp} {e : Expr} {p p2 p3 pos pos2 pos3 : Pos} {Q : VK}
/-- tuple(sorted(set(e))), e changing things -/
theorem ew_tss (hc : X.calm = true) (hm : X.mg "sorted" = none) (hm2 : X.mg "set" = none) (hmt : X.mg "tuple" = none) (h : EW X e σ H fun v H1 => ∃ q ns, v = .ref q ∧ Ls X.K H1 q (ns.map pn) ∧ ns.length < 64 ∧ ∀ v2 H2, Same H1 H2 → Dp X.K H2 v2 (pns (sd ns)) → Q v2 H2)
    (hg : Gl X "sorted" := by rfl) (hg2 : Gl X "set" := by rfl) (hg3 : Gl X "tuple" := by rfl)
    (he : starEach [e] X.env = (false, eval e X.env) :: starEach [] X.env := by rfl) (hpl : (backTo pos2 (starEach [] X.env)).any (·.1) = false := by rfl)
    (he2 : starEach [.Call (.Name "set" p2) [e] [] pos2] X.env = (false, eval (.Call (.Name "set" p2) [e] [] pos2) X.env) :: starEach [] X.env := by rfl) (hpl2 : (backTo pos (starEach [] X.env)).any (·.1) = false := by rfl)
    (he3 : starEach [.Call (.Name "sorted" p) [.Call (.Name "set" p2) [e] [] pos2] [] pos] X.env = (false, eval (.Call (.Name "sorted" p) [.Call (.Name "set" p2) [e] [] pos2] [] pos) X.env) :: starEach [] X.env := by rfl) (hpl3 : (backTo pos3 (starEach [] X.env)).any (·.1) = false := by rfl) :
    EW X (.Call (.Name "tuple" p3) [.Call (.Name "sorted" p) [.Call (.Name "set" p2) [e] [] pos2] [] pos] [] pos3) σ H Q := by
  refine ew_callTy call_tuple_of hmt (by decide +kernel) (aw_one (ew_callB (cr_sortedSet hc) hm (by decide +kernel) (aw_one (ew_callTy (cr_setI hc) hm2 PyProof.Rows.boot_set (aw_one (h.mono fun v H2 ⟨q0, ns, ev, l0, hl, q⟩ => ?_) he) hg2 (by decide) (by decide) he hpl) he2) hg (by decide) (by decide) he2 hpl2) he3) hg3 (by decide) (by decide) he3 hpl3
  subst ev
  obtain ⟨xs, h1, h2⟩ := l0
  rw [map_pn] at h2
  have e2 := dpa_ints h2
  subst e2
  refine ⟨q0, zs ns, rfl, .inl (SqL.of h1), by rw [zs_len]; omega, fun b c hb hcn => ⟨b, _, c, rfl, upd_same, by rw [zs_len] at hcn; omega, fun ms q' hs hm _ hq' => ?_⟩⟩
  have em := sd_int (ns := ns) hs fun k => by rw [hm k, decide_eq_true_eq]
  subst em
  have nb : b ≠ q' := fun z => by rw [z, upd_same] at hq'; cases hq'
  rw [upd_ne (Ne.symm nb)] at hq'
  have sm : ∀ u : HO, Same H2 (upd (upd H2 b u) q' (.lst ((zs (sd ns)).map V.int))) := fun u x o hx => by
    rw [upd_ne (ne_of_none hx hq'), upd_ne (ne_of_none hx hb)]
    exact hx
  refine ⟨q', _, rfl, .inl ⟨SqL.of upd_same, fun t ht => q _ _ ((sm _).trans (same_new ht)) ?_⟩⟩
  unfold pns
  rw [map_pn]
  exact .tup (SqT.of upd_same) dpa_of_ints
end
section
variable {P : Program} {w : World} {K : PySem.W.Frag} {mg : Str → Option Value} {base : Heap}
structure PsOk (wd : Wd) (sz : List Nat) (ps : List Part) : Prop where
  part : ∀ p ∈ ps, PartOk sz p
  small : ∀ p ∈ ps, small12 p.2
  any : ∀ p ∈ ps, anyOk wd p.2
def spParts (K : PySem.W.Frag) (c : Tc) : Sp := fun vs H Q _ => ∃ (n : Nat) (wd : Wd) (sz : List Nat) (sa : Addr), vs = [.ref c.t, .str wd.str, .ref sa, .int 4] ∧ TAt K c H n ∧ n < 800000 ∧ Ls K H sa (sz.map pn) ∧ sa ≠ c.t ∧ SzOk sz ∧ 0 < sz.length ∧
  ∀ v (ps : List Part) H', Fr [c.t] H H' → TAt K c H' (n + 50) → PsOk wd sz ps → ps.length ≤ 4 → Dp K H' v (.tuple (ps.map pp)) → Q v H'
theorem TAt.neF {K : PySem.W.Frag} {c : Tc} {H : Hp} {n : Nat} {q : Addr} (h : TAt K c H n) (hq : H q = none) : c.t ≠ q := fun z => by
  obtain ⟨a, s0, h1, _⟩ := h.ex
  rw [z, hq] at h1
  cases h1
theorem nat_dpa {K : PySem.W.Frag} {H : Hp} {ns : List Nat} : DpAll K H ((zs ns).map V.int) (ns.map pn) := by rw [map_pn]; exact dpa_of_ints
theorem cal_g_parts (C : Ctx K mg) (c : Tc) : C8.Cal P w K mg base 5 "_law_gparts" (spParts K c) [] := by
  refine cal_of (k := 4) C.h_g_parts c_g_parts (fun vs H Q E ⟨_, _, _, _, h, _⟩ => by rw [h]; rfl) fun cdv A outer s H vs Q E hr ⟨n, wd, sz, sa, e, ta, hn, lsz, hsa, hz, hz0, q⟩ => ?_
  subst e
  have nd := c_g_parts.nd
  have zl := hz.len
  refine b_setl 4 nd (evl_lst eva_nil) fun qf H1 nf k1 lf => ?_
  have ta1 := ta.mono k1
  have hqt := ta.neF nf
  have hqs : sa ≠ qf := fun z => by
    obtain ⟨xs, h⟩ := lsz.some
    rw [z, nf] at h
    cases h
  refine b_forRw (g_name 5 nd) rfl C.m_range (ew_draw (m := 5) (cal_g_draw C c) hr (by decide) (ew_v 0 rfl ⟨rfl, rfl⟩) (Ev.to (ev_add (ev_v 3 rfl (.int _)) ev_int) rfl) (by decide) (by decide) ta1 (by omega) fun m H2 hm f2 t2 => ?_)
  refine ⟨m, rfl, by omega, fun i σ' H' => ∃ (ps : List Part) (o5 o6 : Option V), σ' = [some (.ref c.t), some (.str wd.str), some (.ref sa), some (.int 4), some (.ref qf), o5, o6, none] ∧ Fr [c.t, qf] H2 H' ∧ TAt K c H' (n + 1 + 9 * i) ∧ ps.length = i ∧ PsOk wd sz ps ∧ Ls K H' qf (ps.map pp), ⟨[], none, none, rfl, Fr.refl, t2.le (by omega), rfl, ⟨(fun p h => by cases h), (fun p h => by cases h), (fun p h => by cases h)⟩, ls_fr lf f2 (by simp; exact Ne.symm hqt) rfl⟩, ?_, ?_⟩
  · rintro i σ' H' hi ⟨ps, o5, o6, rfl, f3, t3, hl, ok, lf3⟩
    have ls3 : Ls K H' sa (sz.map pn) := ls_fr (ls_fr (ls_mono lsz k1) f2 (by simp; exact hsa) pns_tup) f3 (by simp; exact ⟨hsa, hqs⟩) pns_tup
    refine b_set 6 nd (ew_tss rfl C.m_sorted C.m_set C.m_tuple (ew_lc (lcw_rng [("j", 7)] 7 rfl nd C.m_range (blkOk_by (N := n_g_parts) (sc := defScope s_g_parts) (by decide +kernel)) (ew_draw (m := 4) (cal_g_draw C c) hr (by decide) (ew_v 0 rfl ⟨rfl, rfl⟩) ev_int (by decide) (by decide) t3 (by omega) fun r H4 hr4 f4 t4 => ⟨r, rfl, by omega, [c.t], fun a ds H' => ∃ ns : List Nat, ds = ns.map pn ∧ ns.length = a ∧ (∀ x ∈ ns, x < sz.length) ∧ TAt K c H' (n + 1 + 9 * i + 1 + a) ∧ Fr [c.t] H4 H', ⟨⟨[], rfl, rfl, (fun x h => by cases h), t4, Fr.refl⟩, ?_, ?_, ?_⟩, fun ql H5 ds hql ⟨ns, e1, e2, e3, e4, e5⟩ hlen htup lq => ?_⟩))))
    · rintro a ds Ha Hb D hD ⟨ns, e1, e2, e3, e4, e5⟩ fr
      exact ⟨ns, e1, e2, e3, t4.new e4 fr hD, e5.drop fr hD⟩
    · intro d hd
      rw [List.mem_singleton.mp hd]
      obtain ⟨a, s, h1, _⟩ := t4.ex
      rw [h1]
      exact fun z => nomatch z
    · rintro a ds Ha ha ⟨ns, e1, e2, e3, e4, e5⟩ s' H0 C' cl fp
      have lsa : Ls K Ha sa (sz.map pn) := ls_fr (ls_fr ls3 f4 (by simp; exact hsa) pns_tup) e5 (by simp; exact hsa) pns_tup
      refine ew_draw (m := sz.length) (cal_g_draw C c) hr (by decide) (ew_v 0 rfl ⟨rfl, rfl⟩) (Ev.to (ev_lenL C.m_len (ev_v 2 rfl lsa.dp)) (by rw [List.length_map])) hz0 (Nat.lt_of_le_of_lt zl (by decide)) e4 (by omega) fun x Hb hx fb tb => ⟨pn x, rfl, ⟨ns ++ [x], by rw [e1, List.map_append]; rfl, by rw [List.length_append, e2]; rfl, fun y hy => ?_, tb, e5.trans fb⟩, .int _, fb⟩
      rcases List.mem_append.mp hy with hy | hy
      · exact e3 y hy
      · rw [List.mem_singleton.mp hy]; exact hx
    · subst e1
      refine ⟨ql, ns, rfl, lq, by omega, fun v6 H6 k6 r6 => ?_⟩
      have rise : Rise sz.length (sd ns) := sd_rise e3
      have t6 := e4.mono k6
      have f6 : Fr [c.t] H' H6 := (f4.trans e5).trans (Fr.of k6)
      have ls6 : Ls K H6 sa (sz.map pn) := ls_fr ls3 f6 (by simp; exact hsa) pns_tup
      have lf6 := ls_fr lf3 f6 (by simp; exact Ne.symm hqt) pp_tups
      have fl := rise.nm.fills hz
      refine b_expr (ew_m (id := "list.append") tyL_ok PySem.F.plainAttrs_list PySem.F.slot_list_append mt_append (ew_v 4 rfl ?_))
      obtain ⟨ys, y1, y2⟩ := lf6
      refine ⟨⟨qf, ys, rfl, y1⟩, aw_one (ew_tup (aw_two (ew_v 6 rfl (ew_call (cal_g_worths C c) hr (by decide) (aw_cons (ew_v 0 rfl (aw_cons (ew_v 1 rfl (aw_one (Ev.go (d := pn (fillings sz (sd ns)).length) (Ev.to (ev_lenL C.m_len (EvL.ev (evl_call (cal_g_fillings C) hr (by decide) (eva2 (ev_v 2 rfl ls6.dp) (ev_v 6 rfl r6)) ⟨sz, sd ns, rfl, hz, rise.nm, rfl⟩))) (by rw [List.length_map])) fun v7 H7 k7 r7 => ?_))))))))))⟩
      rw [dp_int r7]
      refine ⟨n + 1 + 9 * i + 1 + r, wd, (fillings sz (sd ns)).length, rfl, by omega, t6.mono k7, by omega, fun v8 ws H8 f8 t8 hwl hws hany r8 => ⟨by show 2 ≤ sizeLine; decide, fun pt hpt => ?_⟩⟩
      have f67 : Fr [c.t] H6 H8 := (Fr.of k7).trans f8
      have y8 : H8 qf = some (.lst ys) := f67.same _ _ (by simp; exact Ne.symm hqt) y1
      have sm := same_new (o := .tup [v6, v8]) hpt
      refine ⟨qf, ys, _, rfl, rfl, sm _ _ y8, ?_, ?_⟩
      · have := dpa_len y2
        rw [List.length_map] at this
        rw [this, hl]
        exact Nat.lt_of_lt_of_le (by omega : i < 100) (by decide)
      · have rp : Dp K (upd H8 pt (.tup [v6, v8])) (.ref pt) (pp (sd ns, ws)) := .tup (SqT.of upd_same) (.cons (dp_mono sm (dp_tp f67.tp tup_pns r6)) (.cons (dp_mono sm r8) .nil))
        have y9 : (upd H8 pt (.tup [v6, v8])) qf = some (.lst ys) := sm _ _ y8
        have d9 : DpAll K (upd H8 pt (.tup [v6, v8])) ys (ps.map pp) := dpa_mono sm (dpa_tp f67.tp pp_tups y2)
        have t9 := t8.mono sm
        have f9 : Fr [c.t, qf] H2 (upd H8 pt (.tup [v6, v8])) := ((f3.trans (f6.mono (by simp))).trans (f67.mono (by simp))).trans (Fr.of sm)
        generalize upd H8 pt (.tup [v6, v8]) = H9 at rp y9 d9 t9 f9 ⊢
        have kb : SameB qf H9 (upd H9 qf (.lst (ys ++ [.ref pt]))) := sameB_upd
        have tp := kb.tp y9
        have fB : Fr [qf] H9 (upd H9 qf (.lst (ys ++ [.ref pt]))) := Fr.ofB kb ⟨_, y9⟩ (by simp)
        refine bw_nil ⟨ps ++ [(sd ns, ws)], _, some v6, rfl, f9.trans (fB.mono (by simp)), (ta.new t9 fB nf).le (by omega), by rw [List.length_append, hl]; rfl, ?_, ys ++ [.ref pt], upd_same, ?_⟩
        · have po : PartOk sz (sd ns, ws) := ⟨rise, by rw [← fillings_len]; exact hwl⟩
          exact ⟨fun p hp => (List.mem_append.mp hp).elim (ok.part p) fun h => by rw [List.mem_singleton.mp h]; exact po, fun p hp => (List.mem_append.mp hp).elim (ok.small p) fun h => by rw [List.mem_singleton.mp h]; exact hws, fun p hp => (List.mem_append.mp hp).elim (ok.any p) fun h => by rw [List.mem_singleton.mp h]; exact hany⟩
        · rw [List.map_append]
          exact dpa_app (dpa_tp tp pp_tups d9) (.cons (dp_tp tp tup_pp rp) .nil)
  · rintro σ' H' ⟨ps, o5, o6, rfl, f3, t3, hl, ok, lf3⟩
    refine b_retv (ev_tupleL C.m_tuple (ev_v 4 rfl lf3.dp)) fun v H4 k4 r4 => q v ps H4 ?_ ((t3.mono k4).le (by omega)) ok (by omega) r4
    have f0 : Fr [c.t] H H2 := (Fr.of k1).trans f2
    have : Fr [c.t] H H' := ⟨fun b o hb ho => f3.same b o (by
      have : b ≠ qf := ne_of_none ho nf
      simp at hb ⊢
      exact ⟨hb, this⟩) (f0.same b o hb ho), f0.tp.trans f3.tp⟩
    exact this.trans (Fr.of k4)
end
end SO
set_option Elab.async false
set_option linter.all false
set_option maxRecDepth 100000
set_option maxHeartbeats 4000000
/-! So48: sheet, far, order. -/
namespace SO
open PySem PySem.Spec PyProof.Rows L2
section
variable {X : Cx} {a b : Expr} {σ : L2.St} {H : Hp} {pos : Pos}
theorem ev_neg {i : Int} (h : Ev X a σ H (.int i)) : Ev X (.UnaryOp .USub a pos) σ H (.int (-i)) := fun H1 k =>
  ew_pe (pe_un un_neg pe_ew) (show EW X a σ H1 _ from (h H1 k).mono fun v H2 ⟨k2, r⟩ => ⟨i, dp_int r, k2, .int _⟩)
theorem dpa_rep {K : PySem.W.Frag} {xs : List V} {ds : List D0} (h : DpAll K H xs ds) : ∀ n : Nat, DpAll K H (List.replicate n xs).flatten (List.replicate n ds).flatten
  | 0 => .nil
  | n + 1 => by
    rw [List.replicate_succ, List.flatten_cons, List.replicate_succ, List.flatten_cons]
    exact dpa_app h (dpa_rep h n)
theorem ev_repT {ds : List D0} {n : Nat} (ha : Ev X a σ H (.tuple ds)) (hb : Ev X b σ H (pn n)) (h0 : ds ≠ []) (h1 : 2 ≤ n) (h2 : n ≤ 1000) (h3 : ds.length ≤ 1000) : Ev X (.BinOp a .Mult b pos) σ H (.tuple (List.replicate n ds).flatten) := ev_op op_repT ha hb fun x y H1 k rx ry Q q => by
  obtain ⟨p, xs, rfl, g1, g2⟩ := dp_tup rx
  rw [dp_int ry]
  have hl := dpa_len g2
  refine ⟨p, n, xs, rfl, rfl, g1, fun z => h0 ?_, by omega, by omega, by omega, fun t ht => q _ _ (same_new ht) (.tup (SqT.of upd_same) (dpa_mono (same_new ht) ?_))⟩
  · subst z
    exact List.length_eq_zero_iff.mp hl.symm
  · rw [show (n : Int).toNat = n from Int.toNat_natCast n]
    exact dpa_mono (Same.refl _) (dpa_rep g2 n)
end
section
variable {P : Program} {w : World} {K : PySem.W.Frag} {mg : Str → Option Value} {base : Heap}
def spSheet (K : PySem.W.Frag) (c : Tc) : Sp := fun vs H Q _ => ∃ (n : Nat) (wd : Wd), vs = [.ref c.t, .str wd.str, .int 3, .int 4, .int 4] ∧ TAt K c H n ∧ n < 700000 ∧
  ∀ v (sz : List Nat) (ps : List Part) H', Fr [c.t] H H' → TAt K c H' (n + 100) → SzOk sz → 0 < sz.length → sz.length ≤ 3 → PsOk wd sz ps → ps.length ≤ 4 → Dp K H' v (sheetD sz ps) → Q v H'
theorem cal_g_sheet (C : Ctx K mg) (c : Tc) : C8.Cal P w K mg base 6 "_law_gsheet" (spSheet K c) [] := by
  refine cal_of (k := 5) C.h_g_sheet c_g_sheet (fun vs H Q E ⟨_, _, h, _⟩ => by rw [h]; rfl) fun cdv A outer s H vs Q E hr ⟨n, wd, e, ta, hn, q⟩ => ?_
  subst e
  have nd := c_g_sheet.nd
  refine b_setl 5 nd (evl_lst eva_nil) fun qs H1 ns k1 ls => ?_
  have hqt := ta.neF ns
  refine b_setv 6 nd ev_int fun vr H2 k2 rr => ?_
  rw [dp_int rr]
  have ta2 := (ta.mono k1).mono k2
  refine b_forRw (g_name 7 nd) rfl C.m_range (ew_op op_add (ew_pe pe_int (ew_draw (m := 3) (cal_g_draw C c) hr (by decide) (ew_v 0 rfl ⟨rfl, rfl⟩) (ev_v 2 rfl (.int _)) (by decide) (by decide) ta2 (by omega) fun m H3 hm f3 t3 => ?_)))
  refine ⟨1, m, rfl, rfl, 1 + m, by rw [Int.natCast_add]; rfl, by omega, fun i σ' H' => ∃ (sz : List Nat) (o7 o8 : Option V), σ' = [some (.ref c.t), some (.str wd.str), some (.int 3), some (.int 4), some (.int 4), some (.ref qs), some (.int (prodN sz : Nat)), o7, o8] ∧ Fr [c.t, qs] H3 H' ∧ TAt K c H' (n + 1 + i) ∧ sz.length = i ∧ (∀ s ∈ sz, 1 ≤ s) ∧ prodN sz ≤ 4 ∧ Ls K H' qs (sz.map pn), ⟨[], none, none, rfl, Fr.refl, t3.le (by omega), rfl, (fun s h => by cases h), by decide, ls_fr (ls_mono ls k2) f3 (by simp; exact Ne.symm hqt) rfl⟩, ?_, ?_⟩
  · rintro i σ' H' hi ⟨sz, o7, o8, rfl, f4, t4, hl, h1, hp, l4⟩
    refine b_set 8 nd (ew_ix ix_list (EvL.go (ds := ([1, 2, 2, 3, 4, 2] : List Nat).map pn) (EvL.to (evl_lst (eva_cons ev_int (eva_cons ev_int (eva4 ev_int ev_int ev_int ev_int)))) rfl) fun ql H5 n5 k5 l5 => ew_draw (m := 6) (cal_g_draw C c) hr (by decide) (ew_v 0 rfl ⟨rfl, rfl⟩) ev_int (by decide) (by decide) (t4.mono k5) (by omega) fun r H6 hr6 f6 t6 => ?_))
    have hq2 : ql ≠ c.t := Ne.symm (t4.neF n5)
    have l6 := ls_fr l5 f6 (by simp; exact hq2) pns_tup
    have : ∃ z : Nat, ([1, 2, 2, 3, 4, 2] : List Nat)[r]? = some z ∧ 1 ≤ z ∧ z ≤ 4 := by
      have h : ∀ r, r < 6 → ([1, 2, 2, 3, 4, 2] : List Nat)[r]? = some (([1, 2, 2, 3, 4, 2] : List Nat).getD r 0) ∧ 1 ≤ ([1, 2, 2, 3, 4, 2] : List Nat).getD r 0 ∧ ([1, 2, 2, 3, 4, 2] : List Nat).getD r 0 ≤ 4 := by decide
      exact ⟨_, h r hr6⟩
    obtain ⟨z, hz, hz1, hz4⟩ := this
    obtain ⟨xs, x1, x2⟩ := l6
    obtain ⟨v, hv, rv⟩ := dpa_get (d := pn z) x2 (by rw [List.getElem?_map, hz]; rfl)
    rw [dp_int rv] at hv
    refine ⟨ql, xs, r, .int (z : Int), rfl, rfl, SqL.of x1, at_nat hv, ?_⟩
    have l46 : Ls K H6 qs (sz.map pn) := ls_fr (ls_mono l4 k5) f6 (by simp; exact Ne.symm hqt) pns_tup
    have f46 : Fr [c.t, qs] H3 H6 := (f4.trans (Fr.of k5)).trans (f6.mono (by simp))
    refine b_append (d := pn (if prodN sz * z ≤ 4 then z else 1)) 5 rfl l46 (ev_if (x := decide (((prodN sz : Nat) : Int) * (z : Int) ≤ 4)) (tv_le (ev_mul (ev_v 6 rfl (.int _)) (ev_v 8 rfl (.int _)) (cmul_k (by omega) (by omega))) (ev_v 3 rfl (.int _))) (fun hb => ?_) fun hb => ?_) pns_tup rfl (by rw [List.length_map]; omega) fun H7 s7 l7 => ?_
    · have h := of_decide_eq_true hb
      rw [if_pos (by rw [← Int.natCast_mul] at h; omega)]
      exact ev_v 8 rfl (.int _)
    · have h := of_decide_eq_false hb
      rw [if_neg (by rw [← Int.natCast_mul] at h; omega)]
      exact ev_int
    · have f7 : Fr [c.t, qs] H6 H7 := Fr.ofB s7 l46.some (by simp)
      have t7 := ta.new t6 (Fr.ofB s7 l46.some (by simp)) ns
      generalize hy : (if prodN sz * z ≤ 4 then z else 1) = y at l7
      have hy1 : 1 ≤ y := by rw [← hy]; split <;> omega
      have hy4 : y ≤ 4 := by rw [← hy]; split <;> omega
      have hpy : prodN sz * y ≤ 4 := by rw [← hy]; split <;> omega
      have hmap : List.map pn sz ++ [pn y] = List.map pn (sz ++ [y]) := by rw [List.map_append]; rfl
      rw [hmap] at l7
      have hprod : prodN (sz ++ [y]) = prodN sz * y := by rw [prodN_app]; simp [prodN]
      refine b_setv (d := pn (prodN (sz ++ [y]))) 6 nd (Ev.to (ev_mul (j := (y : Int)) (ev_v 6 rfl (.int _)) (ev_ixL (i := -1) (ev_v 5 rfl l7.dp) (ev_neg ev_int) ?_) (cmul_k (by omega) (by omega))) (by rw [hprod, ← Int.natCast_mul])) fun v8 H8 k8 r8 => bw_nil ⟨sz ++ [y], some (.int (i : Int)), some (.int (z : Int)), by rw [dp_int r8]; rfl, (f46.trans f7).trans (Fr.of k8), (t7.mono k8).le (by omega), by rw [List.length_append, hl]; rfl, fun s hs => ?_, by rw [hprod]; exact hpy, ls_mono l7 k8⟩
      · unfold atI ixN
        rw [if_neg (by omega), if_pos (by rw [List.length_map, List.length_append, List.length_singleton]; omega)]
        show (List.map pn (sz ++ [y]))[((-1 : Int) + _).toNat]? = _
        rw [List.length_map, List.length_append, List.length_singleton, show ((-1 : Int) + ((sz.length + 1 : Nat) : Int)).toNat = sz.length by omega, List.getElem?_map, List.getElem?_append_right (Nat.le_refl _), Nat.sub_self]
        rfl
      · rcases List.mem_append.mp hs with hs | hs
        · exact h1 s hs
        · rw [List.mem_singleton.mp hs]; exact hy1
  · rintro σ' H' ⟨sz, o7, o8, rfl, f4, t4, hl, h1, hp, l4⟩
    have hz : SzOk sz := ⟨by omega, h1, hp⟩
    refine b_ret (ew_tup (aw_two (Ev.go (ev_tupleL C.m_tuple (ev_v 5 rfl l4.dp)) fun v5 H5 k5 r5 => ew_call (cal_g_parts C c) hr (by decide) (aw_cons (ew_v 0 rfl (aw_cons (ew_v 1 rfl (aw_cons (ew_v 5 rfl (aw_one (ew_v 4 rfl ?_)))))))))))
    refine ⟨n + 1 + (1 + m), wd, sz, qs, rfl, t4.mono k5, by omega, ls_mono l4 k5, Ne.symm hqt, hz, by omega, fun v6 ps H6 f6 t6 ok hpl r6 => ⟨by show 2 ≤ sizeLine; decide, fun pt hpt => ?_⟩⟩
    have sm := same_new (o := .tup [v5, v6]) hpt
    have f0 : Fr [c.t] H H3 := (Fr.of (k1.trans k2)).trans f3
    have fA : Fr [c.t] H H' := ⟨fun b o hb ho => f4.same b o (by
      have : b ≠ qs := ne_of_none ho ns
      simp at hb ⊢
      exact ⟨hb, this⟩) (f0.same b o hb ho), f0.tp.trans f4.tp⟩
    refine q _ sz ps _ (((fA.trans (Fr.of k5)).trans f6).trans (Fr.of sm)) ((t6.mono sm).le (by omega)) hz (by omega) (by omega) ok hpl ?_
    exact .tup (SqT.of upd_same) (.cons (dp_mono sm (dp_tp f6.tp tup_pns r5)) (.cons (dp_mono sm r6) .nil))
end
end SO
set_option Elab.async false
set_option linter.all false
set_option maxRecDepth 100000
set_option maxHeartbeats 4000000
/-! So49: far, order. -/
namespace SO
open PySem PySem.Spec PyProof.Rows L2
def farSz (sz : List Nat) : List Nat := List.replicate (10 - sz.length) 1 ++ sz
def farP (sz : List Nat) (p : Part) : Part := (p.1.map fun x => x + (10 - sz.length), p.2)
def farPs (sz : List Nat) (ps : List Part) : List Part := List.replicate 3 (([], [1]) : Part) ++ ps.map (farP sz)
theorem prodN_rep : ∀ n : Nat, prodN (List.replicate n 1) = 1
  | 0 => rfl
  | n + 1 => by rw [List.replicate_succ]; simp only [prodN]; rw [prodN_rep n]
theorem farSz_len {sz : List Nat} (h : sz.length ≤ 10) : (farSz sz).length = 10 := by
  unfold farSz
  rw [List.length_append, List.length_replicate]
  omega
theorem farSz_ok {sz : List Nat} (h : SzOk sz) (hl : sz.length ≤ 10) : SzOk (farSz sz) := ⟨by rw [farSz_len hl]; decide, fun s hs => by
  rcases List.mem_append.mp hs with hs | hs
  · rw [(List.mem_replicate.mp hs).2]; exact Nat.le_refl _
  · exact h.one s hs, by
  unfold farSz
  rw [prodN_app, prodN_rep, Nat.one_mul]
  exact h.prod⟩
theorem farSz_at {sz : List Nat} {n : Nat} : (farSz sz).getD (n + (10 - sz.length)) 0 = sz.getD n 0 := by
  unfold farSz
  rw [List.getD_eq_getElem?_getD, List.getD_eq_getElem?_getD, List.getElem?_append_right (by rw [List.length_replicate]; omega), List.length_replicate, Nat.add_sub_cancel]
theorem farP_ok {sz : List Nat} {p : Part} (hl : sz.length ≤ 10) (h : PartOk sz p) : PartOk (farSz sz) (farP sz p) := by
  refine ⟨⟨?_, fun n hn => ?_⟩, ?_⟩
  · show (p.1.map _).Pairwise _
    rw [List.pairwise_map]
    exact h.rise.up.imp fun h => by omega
  · obtain ⟨m, hm, rfl⟩ := List.mem_map.mp hn
    have := h.rise.lt m hm
    rw [farSz_len hl]
    omega
  · show p.2.length = _
    rw [h.full]
    show _ = prodN ((p.1.map fun x => x + (10 - sz.length)).map fun n => (farSz sz).getD n 0)
    rw [List.map_map]
    congr 1
    apply List.map_congr_left
    intro n _
    exact farSz_at.symm
theorem farPs_ok {wd : Wd} {sz : List Nat} {ps : List Part} (hl : sz.length ≤ 10) (h : PsOk wd sz ps) : PsOk wd (farSz sz) (farPs sz ps) := by
  have one : ∀ p ∈ List.replicate 3 (([], [1]) : Part), p = ([], [1]) := fun p hp => (List.mem_replicate.mp hp).2
  refine ⟨fun p hp => ?_, fun p hp => ?_, fun p hp => ?_⟩
  · rcases List.mem_append.mp hp with hp | hp
    · rw [one p hp]; exact ⟨⟨.nil, fun n h => by cases h⟩, rfl⟩
    · obtain ⟨q, hq, rfl⟩ := List.mem_map.mp hp
      exact farP_ok hl (h.part q hq)
  · rcases List.mem_append.mp hp with hp | hp
    · rw [one p hp]
      intro w hw
      rw [List.mem_singleton.mp hw]
      decide
    · obtain ⟨q, hq, rfl⟩ := List.mem_map.mp hp
      exact h.small q hq
  · rcases List.mem_append.mp hp with hp | hp
    · rw [one p hp]
      intro _ w hw
      exact .inr (List.mem_singleton.mp hw)
    · obtain ⟨q, hq, rfl⟩ := List.mem_map.mp hp
      exact h.any q hq
section
variable {P : Program} {w : World} {K : PySem.W.Frag} {mg : Str → Option Value} {base : Heap}
def spFar (K : PySem.W.Frag) : Sp := fun vs H Q _ => ∃ (v0 vs0 : V) (sz : List Nat) (ps : List Part), vs = [v0, vs0, .int 10] ∧ Dp K H vs0 (sheetD sz ps) ∧ sz.length ≤ 3 ∧ ps.length ≤ 4 ∧ (∀ p ∈ ps, p.1.length ≤ 100) ∧ ∀ v H', Same H H' → Dp K H' v (sheetD (farSz sz) (farPs sz ps)) → Q v H'
theorem cal_g_far (C : Ctx K mg) : C8.Cal P w K mg base 1 "_law_gfar" (spFar K) [] := by
  refine cal_of (k := 0) C.h_g_far c_g_far (fun vs H Q E ⟨_, _, _, _, h, _⟩ => by rw [h]; rfl) fun cdv A outer s H vs Q E hr ⟨v0, vs0, sz, ps, e, rs, hsz, hps, hpl, q⟩ => ?_
  subst e
  have nd := c_g_far.nd
  refine b_setv (d := pn (10 - sz.length)) 3 nd (Ev.to (ev_sub (ev_v 2 rfl (.int _)) (ev_lenT C.m_len (ev_ixT (ev_v 1 rfl rs) ev_int (at_nat (n := 0) rfl)))) (by rw [List.length_map]; exact congrArg PyData.int (by omega))) fun vb H1 k1 rb => ?_
  rw [dp_int rb]
  refine b_setv (d := .tuple ((ps.map (farP sz)).map pp)) 4 nd (Ev.to (ev_tupleL C.m_tuple (EvL.ev (evl_lc (lcv_two (xs := ps) (enc := fun p => pns p.1) (enc2 := fun p => pis p.2) (f := fun p => pp (farP sz p)) (c := fun _ => true) (β := Nat) [("names", 5), ("worths", 6)] 5 6 rfl nd (pi_tup pe_ew) (src_Tm (ev_ixT (ev_v 1 rfl (dp_mono k1 rs)) ev_int (at_nat (n := 1) rfl))) (blkOk_by (N := n_g_far) (sc := defScope s_g_far) (by decide +kernel)) (fun _ _ _ _ _ => g_two 5 6 rfl nd) pts0_blk (by omega) (fun _ _ _ => tup_pp) (fun a ha v u H5 k5 q1 q2 Q q => q H5 (Same.refl _)) (fun a ha v u H5 k5 q1 q2 hc => ?_))))) (by rw [filter_true', List.map_map]; rfl)) fun vp H2 k2 rp => ?_
  · intro s' H0 C' cl fp
    refine Ev.to (ev_tup (eva2 (ev_tupleL C.m_tuple (EvL.ev (evl_lc (lcv_T (xs := a.1) (enc := pn) (f := fun n => pn (n + (10 - sz.length))) [("name", 7)] 7 rfl nd (ev_v 5 rfl q1) (blkOk_by (N := n_g_far) (sc := { kind := .function, names := [(".0", .local), ("names", .local), ("worths", .local), ("tuple", .globalImplicit), ("by", .cell)], isGenerator := false, isCoroutine := false }) (by decide +kernel)) (by have := hpl a ha; omega) (fun _ _ => rfl) fun b hb v2 H6 k6 r6 => ?_)))) (ev_v 6 rfl q2))) ?_
    · intro s'2 H02 C'2 cl2 fp2
      exact Ev.to (ev_add (ev_v 7 rfl r6) (ev_v 3 rfl (.int _))) rfl
    · unfold pp farP pns
      rw [List.map_map]
      rfl
  · refine b_retv (d := sheetD (farSz sz) (farPs sz ps)) (Ev.to (ev_tup (eva2 (ev_catT (ev_repT (ds := [pn 1]) (ev_tup (eva1 ev_int)) (ev_v 3 rfl (.int _)) (by simp) (by omega) (by omega) (by simp)) (ev_ixT (ev_v 1 rfl (dp_mono (k1.trans k2) rs)) ev_int (at_nat (n := 0) rfl)) ?_) (ev_catT (ev_repT (n := 3) (ds := [pp ([], [1])]) (ev_tup (eva1 (ev_tup (eva2 (ev_tup eva_nil) (ev_tup (eva1 ev_int)))))) ev_int (by simp) (by decide) (by decide) (by simp)) (ev_v 4 rfl rp) ?_))) ?_) fun v H3 k3 r => q v H3 ((k1.trans k2).trans k3) r
    · rw [List.length_flatten, List.map_replicate, List.length_map]
      simp
      omega
    · rw [List.length_map, List.length_map]
      simp
      omega
    · have e1 : ∀ (n : Nat) (d : D0), (List.replicate n [d]).flatten = List.replicate n d := fun n d => by
        induction n with
        | zero => rfl
        | succ n ih => rw [List.replicate_succ, List.flatten_cons, ih, List.replicate_succ]; rfl
      rw [e1, e1]
      unfold sheetD farSz farPs pns
      rw [List.map_append, List.map_append, List.map_replicate, List.map_replicate]
def spOrder (K : PySem.W.Frag) (c : Tc) : Sp := fun vs H Q _ => ∃ (n many : Nat), vs = [.ref c.t, .int (many : Int)] ∧ many ≤ 100 ∧ TAt K c H n ∧ n < 800000 ∧
  ∀ q (ord : List Nat) H', H q = none → Fr [c.t] H H' → TAt K c H' (n + many) → ord.Perm (List.range many) → Ls K H' q (ord.map pn) → Q (.ref q) H'
theorem perm_erase : ∀ {b : List Nat} {i x : Nat}, b[i]? = some x → (x :: b.eraseIdx i).Perm b
  | y :: ys, 0, x, h => by
    simp at h
    subst h
    simp
  | y :: ys, i + 1, x, h => by
    have ih := perm_erase (b := ys) (i := i) (x := x) (by simpa using h)
    rw [List.eraseIdx_cons_succ]
    exact (List.Perm.swap y x _).trans (ih.cons y)
theorem map_erase {α β : Type} (f : α → β) : ∀ (b : List α) (i : Nat), (b.map f).eraseIdx i = (b.eraseIdx i).map f
  | [], _ => by simp
  | _ :: _, 0 => rfl
  | y :: ys, i + 1 => by simp [map_erase f ys i]
theorem perm_pop {a b : List Nat} {i : Nat} {x : Nat} (h : b[i]? = some x) : ((a ++ [x]) ++ b.eraseIdx i).Perm (a ++ b) := by
  rw [List.append_assoc]
  refine List.Perm.append_left a ?_
  exact perm_erase h
theorem cal_g_order (C : Ctx K mg) (c : Tc) : C8.Cal P w K mg base 4 "_law_gorder" (spOrder K c) [] := by
  refine cal_of (k := 3) C.h_g_order c_g_order (fun vs H Q E ⟨_, _, h, _⟩ => by rw [h]; rfl) fun cdv A outer s H vs Q E hr ⟨n, many, e, hm, ta, hn, q⟩ => ?_
  subst e
  have nd := c_g_order.nd
  refine b_setl 2 nd (evl_listR rfl C.m_list C.m_range (ev_v 1 rfl (.int _)) (by omega)) fun qa H1 na k1 la => ?_
  have hat := ta.neF na
  have ta1 := ta.mono k1
  refine b_ret (ew_lc (lcw_rng [("k", 3)] 3 rfl nd C.m_range (blkOk_by (N := n_g_order) (sc := defScope s_g_order) (by decide +kernel)) (ew_v 1 rfl ⟨many, rfl, by omega, [c.t, qa], fun a ds H' => ∃ ord left : List Nat, ds = ord.map pn ∧ ord.length = a ∧ (ord ++ left).Perm (List.range many) ∧ TAt K c H' (n + a) ∧ Ls K H' qa (left.map pn) ∧ Fr [c.t, qa] H1 H', ⟨⟨[], List.range many, rfl, rfl, List.Perm.refl _, ta1, la, Fr.refl⟩, ?_, ?_, ?_⟩, fun ql H5 ds hql ⟨ord, left, e1, e2, e3, e4, e5, e6⟩ hlen htup lq => ?_⟩)))
  · rintro a ds Ha Hb D hD ⟨ord, left, e1, e2, e3, e4, e5, e6⟩ fr
    have hDa : qa ≠ D := fun z => by
      obtain ⟨xs, h⟩ := la.some
      rw [z, hD] at h
      cases h
    exact ⟨ord, left, e1, e2, e3, ta1.new e4 fr hD, ls_fr e5 fr (by simp; exact hDa) pns_tup, e6.drop fr hD⟩
  · intro d hd
    rcases List.mem_cons.mp hd with rfl | hd
    · obtain ⟨a, s, h1, _⟩ := ta1.ex
      rw [h1]; exact fun z => nomatch z
    · rw [List.mem_singleton.mp hd]
      obtain ⟨xs, h⟩ := la.some
      rw [h]; exact fun z => nomatch z
  · rintro a ds Ha ha ⟨ord, left, e1, e2, e3, e4, e5, e6⟩ s' H0 C' cl fp
    have hll : left.length = many - a := by
      have := e3.length_eq
      rw [List.length_append, List.length_range] at this
      omega
    refine ew_m (id := "list.pop") tyL_ok PySem.F.plainAttrs_list PySem.F.slot_list_pop mt_popAt (ew_v 2 rfl ?_)
    obtain ⟨ys0, y0, _⟩ := id e5
    refine ⟨⟨qa, ys0, rfl, y0⟩, aw_one (ew_draw (m := left.length) (cal_g_draw C c) hr (by decide) (ew_v 0 rfl ⟨rfl, rfl⟩) (Ev.to (ev_lenL C.m_len (ev_v 2 rfl e5.dp)) (by rw [List.length_map])) (by omega) (Nat.lt_of_le_of_lt (by omega : left.length ≤ 100) (by decide)) e4 (by omega) fun i Hb hi fb tb => ?_)⟩
    have lb := ls_fr e5 fb (by simp; exact Ne.symm hat) pns_tup
    obtain ⟨ys, y1, y2⟩ := lb
    have hyl := dpa_len y2
    rw [List.length_map] at hyl
    have hx : left[i]? = some (left.getD i 0) := getD_len hi
    obtain ⟨v, hv, rv⟩ := dpa_get (i := i) (d := pn (left.getD i 0)) y2 (by rw [List.getElem?_map, hx]; rfl)
    refine ⟨qa, ys, i, i, v, rfl, rfl, y1, by omega, by omega, (ixN_seq (ixN_at (by omega))).1, hv, ?_⟩
    have kb : SameB qa Hb (upd Hb qa (.lst (ys.eraseIdx i))) := sameB_upd
    have fB : Fr [qa] Hb (upd Hb qa (.lst (ys.eraseIdx i))) := Fr.ofB kb ⟨_, y1⟩ (by simp)
    have hd : DpAll K Hb (ys.eraseIdx i) ((left.eraseIdx i).map pn) := by
      have := dpa_eraseIdx i y2
      rwa [map_erase] at this
    refine ⟨pn (left.getD i 0), rfl, ⟨ord ++ [left.getD i 0], left.eraseIdx i, by rw [e1, List.map_append]; rfl, by rw [List.length_append, e2]; rfl, (perm_pop hx).trans e3, ta.new tb fB na, ⟨_, upd_same, dpa_tp fB.tp pns_tup hd⟩, (e6.trans (fb.mono (by simp))).trans (fB.mono (by simp))⟩, dp_tp fB.tp rfl rv, (fb.mono (by simp)).trans (fB.mono (by simp))⟩
  · subst e1
    have hl0 : left = [] := by
      have := e3.length_eq
      rw [List.length_append, List.length_range] at this
      exact List.length_eq_zero_iff.mp (by omega)
    subst hl0
    rw [List.append_nil] at e3
    refine q ql ord H5 (none_back k1 hql) ?_ e4 e3 lq
    exact ⟨fun b o hb ho => e6.same b o (by
      have : b ≠ qa := ne_of_none ho na
      simp at hb ⊢
      exact ⟨hb, this⟩) (k1 b o ho), (tp_same k1).trans e6.tp⟩
end
end SO
set_option Elab.async false
set_option linter.all false
set_option maxRecDepth 100000
set_option maxHeartbeats 4000000
/-! So50: a list of lists that grow; slices; enumerate of a list. -/
namespace SO
open PySem PySem.Spec PyProof.Rows L2
/-- a list of lists of numbers, each on its own -/
structure NL (H : Hp) (qn : Addr) (bs : List Addr) (ls : List (List Nat)) : Prop where
  at_ : H qn = some (.lst (bs.map V.ref))
  len : bs.length = ls.length
  each : ∀ (i : Nat) (b : Addr) (l : List Nat), bs[i]? = some b → ls[i]? = some l → H b = some (.lst ((zs l).map V.int))
  nd : bs.Nodup
  ne : qn ∉ bs
theorem NL.fr {D : List Addr} {H H' : Hp} {qn : Addr} {bs : List Addr} {ls : List (List Nat)} (h : NL H qn bs ls) (k : Fr D H H') (hq : qn ∉ D) (hb : ∀ b ∈ bs, b ∉ D) : NL H' qn bs ls :=
  ⟨k.same _ _ hq h.at_, h.len, fun i b l h1 h2 => k.same _ _ (hb b (List.mem_of_getElem? h1)) (h.each i b l h1 h2), h.nd, h.ne⟩
theorem NL.mono {H H' : Hp} {qn : Addr} {bs : List Addr} {ls : List (List Nat)} (h : NL H qn bs ls) (k : Same H H') : NL H' qn bs ls := h.fr (Fr.of (D := []) k) (by simp) (by simp)
theorem NL.ex_at {H : Hp} {qn : Addr} {bs : List Addr} {ls : List (List Nat)} (h : NL H qn bs ls) {b : Addr} (hb : b ∈ bs) : ∃ xs, H b = some (.lst xs) := by
  obtain ⟨i, hi, e⟩ := List.getElem_of_mem hb
  have h1 : bs[i]? = some b := by rw [← e]; exact List.getElem?_eq_getElem hi
  exact ⟨_, h.each i b _ h1 (List.getElem?_eq_getElem (by rw [← h.len]; exact hi))⟩
theorem nodup_ix {α : Type} {bs : List α} {i j : Nat} {b : α} (h : bs.Nodup) (h1 : bs[i]? = some b) (h2 : bs[j]? = some b) : i = j := by
  obtain ⟨hi, ei⟩ := List.getElem?_eq_some_iff.mp h1
  obtain ⟨hj, ej⟩ := List.getElem?_eq_some_iff.mp h2
  by_cases hlt : i < j
  · exact absurd (ei.trans ej.symm) (List.pairwise_iff_getElem.mp h i j hi hj hlt)
  · by_cases hgt : j < i
    · exact absurd (ej.trans ei.symm) (List.pairwise_iff_getElem.mp h j i hj hi hgt)
    · omega
/-- one list grows -/
theorem NL.set {H : Hp} {qn : Addr} {bs : List Addr} {ls : List (List Nat)} (h : NL H qn bs ls) {i : Nat} {b : Addr} {l : List Nat} (hb : bs[i]? = some b) (l' : List Nat) : NL (upd H b (.lst ((zs l').map V.int))) qn bs (ls.set i l') := by
  have hq : qn ≠ b := fun z => h.ne (z ▸ List.mem_of_getElem? hb)
  refine ⟨by rw [upd_ne hq]; exact h.at_, by rw [List.length_set]; exact h.len, fun j c m h1 h2 => ?_, h.nd, h.ne⟩
  by_cases e : j = i
  · subst e
    rw [hb] at h1
    cases h1
    have hj : j < ls.length := by rw [← h.len]; exact (List.getElem?_eq_some_iff.mp hb).1
    rw [List.getElem?_set_self hj] at h2
    cases h2
    exact upd_same
  · rw [List.getElem?_set_ne (Ne.symm e)] at h2
    have hc : c ≠ b := fun z => by
      subst z
      exact e (nodup_ix h.nd h1 hb)
    rw [upd_ne hc]
    exact h.each j c m h1 h2
/-- a new list at the end -/
theorem NL.push {H : Hp} {qn : Addr} {bs : List Addr} {ls : List (List Nat)} (h : NL H qn bs ls) {b : Addr} {l : List Nat} (hb : H b = some (.lst ((zs l).map V.int))) (hn : b ∉ bs) (hq : b ≠ qn) : NL (upd H qn (.lst (bs.map V.ref ++ [.ref b]))) qn (bs ++ [b]) (ls ++ [l]) := by
  refine ⟨by rw [upd_same, List.map_append]; rfl, by rw [List.length_append, List.length_append, h.len]; rfl, fun j c m h1 h2 => ?_, ?_, fun z => ?_⟩
  · by_cases hlt : j < bs.length
    · rw [List.getElem?_append_left hlt] at h1
      rw [List.getElem?_append_left (by rw [← h.len]; exact hlt)] at h2
      have hc : c ≠ qn := fun z => h.ne (z ▸ List.mem_of_getElem? h1)
      rw [upd_ne hc]
      exact h.each j c m h1 h2
    · rw [List.getElem?_append_right (by omega)] at h1
      rw [List.getElem?_append_right (by rw [← h.len]; omega)] at h2
      have hj : j - bs.length = 0 := by
        have := (List.getElem?_eq_some_iff.mp h1).1
        simp at this
        omega
      rw [hj] at h1
      rw [← h.len, hj] at h2
      simp at h1 h2
      subst h1; subst h2
      rw [upd_ne hq]
      exact hb
  · rw [List.nodup_append]
    exact ⟨h.nd, by simp, fun x hx y hy => by rw [List.mem_singleton.mp hy]; exact fun z => hn (z ▸ hx)⟩
  · rcases List.mem_append.mp z with z | z
    · exact h.ne z
    · exact hq (List.mem_singleton.mp z).symm
section
variable {X : Cx} {a e e1 : Expr} {σ : L2.St} {H : Hp} {sts body : List Stmt} {D : Ends} {pos p p2 apos cpos spos px : Pos} {x : Str} {Q : VK}
/-- an item of such a list -/
theorem er_nl {qn : Addr} {bs : List Addr} {ls : List (List Nat)} {i : Nat} {b : Addr} (n : Nat) (hs : σ[n]? = some (some (.ref qn))) (h : NL H qn bs ls) (hb : bs[i]? = some b) (hi : Ev X e σ H (pn i)) (hN : X.N[n]? = some x := by rfl) (hv : Vis X.env.scope x := by first | exact Or.inl rfl | exact Or.inr (Or.inl rfl) | exact Or.inr (Or.inr rfl)) (hdb : (x == ("__debug__" : Str)) = false := by decide)
    (hcd : (x == ("__classdict__" : Str)) = false := by decide) (hpx : PlainIx e := by exact fun _ _ => rfl) : Er X (.Subscript (.Name x px) e pos) σ H (.ref b) := fun H1 k =>
  ew_ix ix_list (ew_v n hs ((hi H1 k).mono fun y H2 ⟨k2, r⟩ => ⟨qn, bs.map V.ref, i, .ref b, rfl, dp_int r, SqL.of (k2 _ _ (k _ _ h.at_)), at_nat (by rw [List.getElem?_map, hb]; rfl), k2, rfl⟩) hN hv hdb hcd) hpx
/-- o.extend(t), o a list of numbers, t a tuple or another list of numbers -/
theorem b_extI {q : Addr} {l m : List Nat} (ho : Er X a σ H (.ref q)) (hq : H q = some (.lst ((zs l).map V.int))) (he : Ev X e σ H (pns m) ∨ (∃ r, Er X e σ H (.ref r) ∧ H r = some (.lst ((zs m).map V.int)))) (hl : l.length + m.length ≤ 100000) (k : ∀ H1, Same H H1 → BW X sts D σ (upd H1 q (.lst ((zs (l ++ m)).map V.int))))
    (hbase : attributeBase a "extend" X.env (eval a X.env) = eval a X.env := by rfl)
    (hfew : ((backTo cpos (starEach [e] X.env)).all (fun x => !x.1) && (backToKw cpos (keywordEach [] X.env)).all (fun x => x.1.isSome)
      && decide ([e].length + ([] : List Keyword).length + (if ([] : List Keyword).isEmpty then 0 else 1) < 30)) = true := by rfl)
    (hline : (apos.endLine == cpos.line) = true := by rfl) (hs1 : starEach [e] X.env = (false, eval e X.env) :: starEach [] X.env := by rfl) (hplain : (backTo cpos (starEach [] X.env)).any (·.1) = false := by rfl)
    (hsw : swapsWith (.Call (.Attribute a "extend" apos) [e] [] cpos) none spos.line X.env = pure false := by rfl) : BW X (.Expr (.Call (.Attribute a "extend" apos) [e] [] cpos) spos :: sts) D σ H := by
  have hcat : (zs l).map V.int ++ (zs m).map V.int = (zs (l ++ m)).map V.int := by unfold zs; simp
  have hsz : ((zs l).map V.int).length + ((zs m).map V.int).length ≤ sizeLine := by rw [List.length_map, List.length_map, zs_len, zs_len]; exact small hl
  rcases he with he | ⟨r, he, hr⟩
  · refine b_expr (ew_m (id := "list.extend") tyL_ok PySem.F.plainAttrs_list PySem.F.slot_list_extend mt_extT (ho.go fun H1 k1 => ⟨⟨q, _, rfl, k1 _ _ hq⟩, aw_one ((he H1 k1).mono fun v H2 ⟨k2, rv⟩ => ?_) hs1⟩) (hbase := hbase) (hfew := hfew) (hline := hline) (hs := hs1) (hplain := hplain)) hsw
    obtain ⟨b, rfl, g⟩ := dp_pns rv
    refine ⟨q, b, _, _, rfl, rfl, k2 _ _ (k1 _ _ hq), g, hsz, ?_⟩
    rw [hcat]
    exact k H2 (k1.trans k2)
  · refine b_expr (ew_m (id := "list.extend") tyL_ok PySem.F.plainAttrs_list PySem.F.slot_list_extend mt_extend (ho.go fun H1 k1 => ⟨⟨q, _, rfl, k1 _ _ hq⟩, aw_one ((he H1 k1).mono fun v H2 ⟨k2, ev⟩ => ?_) hs1⟩) (hbase := hbase) (hfew := hfew) (hline := hline) (hs := hs1) (hplain := hplain)) hsw
    subst ev
    refine ⟨q, r, _, _, rfl, rfl, k2 _ _ (k1 _ _ hq), k2 _ _ (k1 _ _ hr), hsz, ?_⟩
    rw [hcat]
    exact k H2 (k1.trans k2)
/-- xs[:k] -/
theorem evl_takeL {ds : List D0} {k : Nat} (ha : Ev X a σ H (.list ds)) (he : Ev X e σ H (pn k)) (hk : k ≤ ds.length) : EvL X (.Subscript a (.Slice none (some e) none p2) pos) σ H (ds.take k) := fun H1 k1 =>
  ew_pe (pe_slice sl_list pe_ew po_none (po_some pe_ew)) (show EW X a σ H1 _ from (ha H1 k1).mono fun v H2 ⟨k2, r⟩ => show EW X e σ H2 _ from (he H2 (k1.trans k2)).mono fun y H3 ⟨k3, r2⟩ => ⟨k, dp_int r2, by
    obtain ⟨q, xs, rfl, h1, h2⟩ := dp_lst (dp_mono k3 r)
    have hl := dpa_len h2
    refine ⟨q, xs, rfl, h1, fun t ht => ⟨(k2.trans k3).trans (same_new ht), t, rfl, none_back (k2.trans k3) ht, _, upd_same, ?_⟩⟩
    unfold cutV
    rw [HT.sIx_none, HT.sIx_nat, List.drop_zero, Nat.sub_zero, show min k xs.length = k by omega]
    exact dpa_mono (same_new ht) (dpa_take k h2)⟩)
/-- for .. in enumerate(l), l a list in a name -/
theorem b_forE {elts : List Expr} {kk : Nat} {tpos : Pos} {g : TG} {oa : Addr} {xs : List V} (n : Nat) (hg : PG X (.Tuple elts kk tpos) g) (hc : X.calm = true) (hm : X.mg "enumerate" = none) (hs : σ[n]? = some (some (.ref oa))) (hq : SqL X.K H oa xs)
    (k : ∃ Pv : Nat → L2.St → Hp → Prop, Pv 0 σ H ∧ (∀ i σ' H', Pv i σ' H' → SqL X.K H' oa xs) ∧
      (∀ i v T σ' H', xs[i]? = some v → Pv i σ' H' → H' T = none → g (.ref T) σ' (upd H' T (.tup [.int (i : Int), v])) fun σ2 H2 => BW X body { D with nx := Pv (i + 1), ct := Pv (i + 1), bk := fun σ' H' => BW X sts D σ' H' } σ2 H2) ∧ ∀ σ' H', Pv xs.length σ' H' → BW X sts D σ' H')
    (hN : X.N[n]? = some x := by rfl) (hv : Vis X.env.scope x := by first | exact Or.inl rfl | exact Or.inr (Or.inl rfl) | exact Or.inr (Or.inr rfl)) (hdb : (x == ("__debug__" : Str)) = false := by decide)
    (hcd : (x == ("__classdict__" : Str)) = false := by decide) (hgl : Gl X "enumerate" := by rfl) (hst : starEach [.Name x px] X.env = (false, eval (.Name x px) X.env) :: starEach [] X.env := by rfl)
    (hp : PassesOwn (model X.prog X.w) X.A X.env X.xe := by exact PassesOwn.never) (hfs : ∀ y, foldedSetIterable (.Call (.Name "enumerate" p) [.Name x px] [] p2) X.env y = pure y := by intro _; rfl) :
    BW X (.For (.Tuple elts kk tpos) (.Call (.Name "enumerate" p) [.Name x px] [] p2) body [] pos :: sts) D σ H := by
  refine bw_cons (sw_ps (ps_for hp hc (pi_enum hgl hm pa_aw hst) hg pss_bw hfs) (show AW X [.Name x px] σ H _ from aw_one (ew_v n hs ?_ hN hv hdb hcd) hst))
  obtain ⟨Pv, p0, pk, ps, pd⟩ := k
  refine ⟨oa, xs, rfl, hq, fun i m σ' H' => m = xs.length - i ∧ i ≤ xs.length ∧ Pv i σ' H', ⟨xs.length, by simp, Nat.zero_le _, p0⟩, ?_⟩
  rintro i m σ' H' ⟨rfl, hi, pv⟩
  have hqi := pk i σ' H' pv
  by_cases hlt : i < xs.length
  · refine .inr ⟨⟨xs, xs[i], hqi, List.getElem?_eq_getElem hlt⟩, Pv (i + 1), fun σ2 H2 p' => ⟨xs.length - (i + 1), by omega, rfl, hlt, p'⟩, fun u Hy hy => ?_⟩
    obtain ⟨T, v, rfl, hT, rfl, y⟩ := hy
    exact ps i v T σ' H' (y xs hqi) pv hT
  · have e : i = xs.length := by omega
    subst e
    exact .inl ⟨⟨xs, hqi, Nat.le_refl _⟩, pd σ' H' pv⟩
end
end SO
set_option Elab.async false
set_option linter.all false
set_option maxRecDepth 100000
set_option maxHeartbeats 4000000
/-! So51: the bags of an order. -/
namespace SO
open PySem PySem.Spec PyProof.Rows L2
def near0 (ps : List Part) (x : Nat) : List Nat := x :: ps.flatMap fun p => if x ∈ p.1 then p.1 else []
def extOne (bag : List Nat) (ls : List (List Nat)) (o : Nat) : List (List Nat) := ls.set o (ls.getD o [] ++ bag)
def extAll (ls : List (List Nat)) (bag : List Nat) : List (List Nat) := bag.foldl (extOne bag) ls
def bagAt (ls : List (List Nat)) (ord : List Nat) (k : Nat) : List Nat := sd ((ls.getD (ord.getD k 0) []).filter fun o => !decide (o ∈ ord.take k))
def nearAt (ps : List Part) (many : Nat) (ord : List Nat) : Nat → List (List Nat)
  | 0 => (List.range many).map (near0 ps)
  | k + 1 => extAll (nearAt ps many ord k) (bagAt (nearAt ps many ord k) ord k)
def bagsOf (ps : List Part) (many : Nat) (ord : List Nat) : List (List Nat) := (List.range ord.length).map fun k => bagAt (nearAt ps many ord k) ord k
theorem extFold_len {bag : List Nat} : ∀ (os : List Nat) (ls : List (List Nat)), (os.foldl (extOne bag) ls).length = ls.length
  | [], _ => rfl
  | o :: os, ls => by
    rw [List.foldl_cons, extFold_len os]
    unfold extOne
    rw [List.length_set]
theorem nearAt_len {ps : List Part} {many : Nat} {ord : List Nat} : ∀ k, (nearAt ps many ord k).length = many
  | 0 => by simp [nearAt]
  | k + 1 => by
    unfold nearAt extAll
    rw [extFold_len, nearAt_len k]
structure BgOk (ps : List Part) (many : Nat) (ord : List Nat) : Prop where
  mn : many ≤ 12
  pl : ps.length ≤ 12
  part : ∀ p ∈ ps, ∀ x ∈ p.1, x < many
  plen : ∀ p ∈ ps, p.1.length ≤ 12
  olt : ∀ x ∈ ord, x < many
  olen : ord.length ≤ 12
  short : ∀ k, k ≤ ord.length → ∀ l ∈ nearAt ps many ord k, l.length ≤ 60 ∧ ∀ x ∈ l, x < many
theorem BgOk.getD {ps : List Part} {many : Nat} {ord : List Nat} (h : BgOk ps many ord) {k x : Nat} (hk : k ≤ ord.length) (hx : x < many) : (nearAt ps many ord k)[x]? = some ((nearAt ps many ord k).getD x []) ∧ ((nearAt ps many ord k).getD x []).length ≤ 60 ∧ ∀ y ∈ (nearAt ps many ord k).getD x [], y < many := by
  have e : (nearAt ps many ord k)[x]? = some ((nearAt ps many ord k).getD x []) := by
    rw [List.getD_eq_getElem?_getD, List.getElem?_eq_getElem (by rw [nearAt_len]; exact hx)]; rfl
  exact ⟨e, h.short k hk _ (List.mem_of_getElem? e)⟩
theorem BgOk.bag {ps : List Part} {many : Nat} {ord : List Nat} (h : BgOk ps many ord) {k : Nat} (hk : k < ord.length) : Rise many (bagAt (nearAt ps many ord k) ord k) := by
  have ho := h.olt _ (List.mem_of_getElem? (getD_len hk))
  exact sd_rise fun y hy => (h.getD (Nat.le_of_lt hk) ho).2.2 y (List.mem_filter.mp hy).1
theorem set_last {α : Type} (A : List α) (l l' : α) : (A ++ [l]).set A.length l' = A ++ [l'] := by
  rw [List.set_append_right _ _ (Nat.le_refl _), Nat.sub_self]
  rfl
section
variable {X : Cx} {e : Expr} {σ : L2.St} {H : Hp} {v : V} {d : D0}
theorem er_ev (h : Er X e σ H v) (r : Dp X.K H v d) : Ev X e σ H d := fun H1 k => (h H1 k).mono fun u H2 ⟨k2, eu⟩ => ⟨k2, by rw [eu]; exact dp_mono (k.trans k2) r⟩
end
section
variable {P : Program} {w : World} {K : PySem.W.Frag} {mg : Str → Option Value} {base : Heap}
def rBags (ds : List D0) (es : List D0) : Prop := ∃ (sz : List Nat) (ps : List Part) (ord : List Nat), ds = [sheetD sz ps, .list (ord.map pn)] ∧ BgOk ps sz.length ord ∧ es = (bagsOf ps sz.length ord).map pns
theorem cal_g_bags (C : Ctx K mg) : C8.Cal P w K mg base 1 "_law_gbags" (spL K rBags) [] := by
  refine cal_of (k := 0) C.h_g_bags c_g_bags (spL_len fun ds d ⟨_, _, _, h, _⟩ => by rw [h]; rfl) fun cdv A outer s H vs Q E hr ⟨ds, d, r, ⟨sz, ps, ord, e1, ok, e2⟩, q⟩ => ?_
  subst e1; subst e2
  obtain ⟨v1, v2, rfl, r1, r2⟩ := dpa2 r
  have nd := c_g_bags.nd
  have hmany := ok.mn
  have holen := ok.olen
  refine b_setl 2 nd (evl_lst eva_nil) fun qn H1 nqn k1 lqn => ?_
  have nl1 : NL H1 qn [] [] := by
    obtain ⟨xs, h1, h2⟩ := lqn
    cases h2
    exact ⟨h1, rfl, fun i b l h => by simp at h, List.nodup_nil, by simp⟩
  refine b_forRw (g_name 3 nd) rfl C.m_range (Ev.go (d := pn sz.length) (Ev.to (ev_lenT C.m_len (ev_ixT (ev_v 0 rfl (dp_mono k1 r1)) ev_int (at_nat (n := 0) rfl))) (by rw [List.length_map])) fun v H2 k2 rv => ⟨sz.length, dp_int rv, by omega, fun i σ' H' => ∃ bs o3 o4 o5, σ' = [some v1, some v2, some (.ref qn), o3, o4, o5, none, none, none, none] ∧ Same H H' ∧ NL H' qn bs ((List.range i).map (near0 ps)) ∧ ∀ b ∈ bs, H b = none, ⟨[], none, none, none, rfl, k1.trans k2, nl1.mono k2, fun b h => by cases h⟩, ?_, ?_⟩)
  · rintro i σ' H' hi ⟨bs, o3, o4, o5, rfl, k3, nl, hbs⟩
    have hbl : bs.length = i := by rw [nl.len, List.length_map, List.length_range]
    refine b_expr (ew_m (id := "list.append") tyL_ok PySem.F.plainAttrs_list PySem.F.slot_list_append mt_append (ew_v 2 rfl ⟨⟨qn, _, rfl, nl.at_⟩, aw_one (EvL.go (evl_lst (eva1 (ev_v 3 rfl (.int _)))) fun b H4 nb k4 lb => ⟨qn, bs.map V.ref, .ref b, rfl, rfl, k4 _ _ nl.at_, by rw [List.length_map, hbl]; exact Nat.lt_of_lt_of_le (by omega : i < 100) (by decide), ?_⟩)⟩))
    have nl4 := nl.mono k4
    have lb' : H4 b = some (.lst ((zs [i]).map V.int)) := by
      obtain ⟨xs, h1, h2⟩ := lb
      rw [h1, dpa_ints (ns := zs [i]) h2]
    have nbs : b ∉ bs := fun z => by
      obtain ⟨xs, h⟩ := nl.ex_at z
      rw [nb] at h
      cases h
    have nbq : b ≠ qn := fun z => by rw [z, nl.at_] at nb; cases nb
    have nl5 := nl4.push lb' nbs nbq
    have f5 : Fr [qn] H4 (upd H4 qn (.lst (bs.map V.ref ++ [.ref b]))) := fr_one fun xs => not_rd nl4.at_ (fun z => nomatch z) fun ob z => nomatch z
    generalize upd H4 qn (.lst (bs.map V.ref ++ [.ref b])) = H5 at nl5 f5 ⊢
    have k5 : Same H H5 := f5.to (k3.trans k4) (by intro d hd; rw [List.mem_singleton.mp hd]; exact nqn)
    have hb0 : ∀ c ∈ bs ++ [b], H c = none := fun c hc => by
      rcases List.mem_append.mp hc with hc | hc
      · exact hbs c hc
      · rw [List.mem_singleton.mp hc]; exact none_back k3 nb
    have hbi : (bs ++ [b])[i]? = some b := by rw [List.getElem?_append_right (by omega), hbl, Nat.sub_self]; rfl
    have hAl : ((List.range i).map (near0 ps)).length = i := by rw [List.length_map, List.length_range]
    refine b_forT (g_two 4 5 rfl nd) rfl (ev_ixT (ev_v 0 rfl (dp_mono k5 r1)) ev_int (at_nat (n := 1) rfl)) fun a xs H6 k6 ha hx => ⟨fun j σ' H' => ∃ o4 o5, σ' = [some v1, some v2, some (.ref qn), some (.int (i : Int)), o4, o5, none, none, none, none] ∧ Same H H' ∧ Fr (qn :: (bs ++ [b])) H6 H' ∧ NL H' qn (bs ++ [b]) ((List.range i).map (near0 ps) ++ [i :: (ps.take j).flatMap fun p => if i ∈ p.1 then p.1 else []]), ⟨o4, o5, rfl, k5.trans k6, Fr.refl, nl5.mono k6⟩, fun j σ' H' ⟨_, _, _, k, fr, _⟩ => ?_, ?_, ?_⟩
    · rcases ha with h | h
      · exact .inl (by
          have hn : a ∉ qn :: (bs ++ [b]) := fun z => by
            have : ∀ c ∈ qn :: (bs ++ [b]), ∃ ys, H6 c = some (.lst ys) := fun c hc => by
              rcases List.mem_cons.mp hc with rfl | hc
              · exact ⟨_, (nl5.mono k6).at_⟩
              · exact (nl5.mono k6).ex_at hc
            obtain ⟨ys, hy⟩ := this a z
            rcases h with h | ⟨o, h⟩ <;> (rw [hy] at h; cases h)
          rcases h with h | ⟨o, h⟩
          · exact .inl (fr.same _ _ hn h)
          · exact .inr ⟨o, fr.same _ _ hn h⟩)
      · exact .inr h
    · rintro j d v σ' H' hd hv rp ⟨o4, o5, rfl, k7, fr, nl7⟩
      rw [List.getElem?_map] at hd
      obtain ⟨p, hp, rfl⟩ := Option.map_eq_some_iff.mp hd
      have hpm := List.mem_of_getElem? hp
      have htk : ps.take (j + 1) = ps.take j ++ [p] := by rw [List.take_succ, hp]; rfl
      have hln : ∀ m, (i :: (ps.take m).flatMap fun p => if i ∈ p.1 then p.1 else []).length ≤ 1000 := fun m => by
        have : ∀ qs : List Part, (∀ p ∈ qs, p.1.length ≤ 12) → (qs.flatMap fun p => if i ∈ p.1 then p.1 else []).length ≤ qs.length * 12 := fun qs h => by
          induction qs with
          | nil => simp
          | cons q qs ih =>
            rw [List.flatMap_cons, List.length_append, List.length_cons, Nat.succ_mul]
            have h1 := ih fun p hp => h p (List.mem_cons_of_mem _ hp)
            have h2 := h q List.mem_cons_self
            have h3 : (if i ∈ q.1 then q.1 else []).length ≤ 12 := by
              split
              · exact h2
              · exact Nat.zero_le _
            omega
        have h1 := this (ps.take m) fun p hp => ok.plen p (List.mem_of_mem_take hp)
        have h2 := ok.pl
        rw [List.length_cons]
        have h3 : (ps.take m).length ≤ 12 := by rw [List.length_take]; omega
        have h4 := Nat.mul_le_mul_right 12 h3
        omega
      refine g2_go (dp_tp fr.tp tup_pp rp) fun w1 w2 q1 q2 => ?_
      refine b_when (b := decide (i ∈ p.1)) (tv_inT (ev_v 3 rfl (.int _)) (ev_v 4 rfl q1)) (fun hb1 H8 k8 => ?_) fun hb1 H8 k8 => bw_nil ⟨some w1, some w2, rfl, k7.trans k8, fr.trans (Fr.of k8), ?_⟩
      · have hin := of_decide_eq_true hb1
        have nl8 := nl7.mono k8
        have hl8 := nl8.each i b _ hbi (by rw [List.getElem?_append_right (by omega), hAl, Nat.sub_self]; rfl)
        have hplen := ok.plen p hpm
        have hlnj := hln j
        refine b_extI (er_nl 2 rfl nl8 hbi (ev_v 3 rfl (.int _))) hl8 (.inl (ev_v 4 rfl (dp_mono k8 q1))) (by omega) fun H9 k9 => bw_nil (bw_nil ⟨some w1, some w2, rfl, ?_, ?_, ?_⟩)
        · exact (fr_one (o := .lst ((zs _).map V.int)) fun xs => not_rd (k9 _ _ hl8) (fun z => nomatch z) fun ob z => nomatch z).to ((k7.trans k8).trans k9) (by intro d hd; rw [List.mem_singleton.mp hd]; exact hb0 b (by simp))
        · exact ((fr.trans (Fr.of k8)).trans (Fr.of k9)).trans ((fr_one fun xs => not_rd (k9 _ _ hl8) (fun z => nomatch z) fun ob z => nomatch z).mono (by simp))
        · have := (nl8.mono k9).set hbi (l := []) ((i :: (ps.take j).flatMap fun p => if i ∈ p.1 then p.1 else []) ++ p.1)
          have hset := set_last ((List.range i).map (near0 ps)) (i :: (ps.take j).flatMap fun p => if i ∈ p.1 then p.1 else []) ((i :: (ps.take j).flatMap fun p => if i ∈ p.1 then p.1 else []) ++ p.1)
          rw [hAl] at hset
          rw [hset] at this
          rw [htk, List.flatMap_append, List.flatMap_cons, if_pos hin, List.flatMap_nil, List.append_nil]
          exact this
      · have hin := of_decide_eq_false hb1
        rw [htk, List.flatMap_append, List.flatMap_cons, if_neg hin, List.flatMap_nil, List.append_nil, List.append_nil]
        exact nl7.mono k8
    · rintro σ' H' ⟨o4, o5, rfl, k7, fr, nl7⟩
      rw [List.length_map, List.take_length] at nl7
      refine bw_nil ⟨bs ++ [b], _, o4, o5, rfl, k7, ?_, hb0⟩
      rw [List.range_succ, List.map_append]
      exact nl7
  · rintro σ' H' ⟨bs, o3, o4, o5, rfl, k3, nl, hbs⟩
    have hbl : bs.length = sz.length := by rw [nl.len, List.length_map, List.length_range]
    refine b_setl 6 nd (evl_lst eva_nil) fun qb H4 nqb k4 lqb => ?_
    have nl4 := nl.mono k4
    have k40 := k3.trans k4
    have nqb0 := none_back k3 nqb
    have nqbq : qb ≠ qn := fun z => by rw [z, nl.at_] at nqb; cases nqb
    have nqbb : qb ∉ bs := fun z => by
      obtain ⟨ys, h⟩ := nl.ex_at z
      rw [nqb] at h
      cases h
    obtain ⟨oa, xs, rfl, g1, g2⟩ := dp_lst r2
    rw [map_pn] at g2
    have eo := dpa_ints g2
    subst eo
    have hq4 := k40.seq g1
    refine b_forE 1 (g_two 7 3 rfl nd) rfl C.m_enumerate rfl hq4 ⟨fun k σ' H' => ∃ o3 o7 o8 o9, σ' = [some v1, some (.ref oa), some (.ref qn), o3, o4, o5, some (.ref qb), o7, o8, o9] ∧ Same H H' ∧ NL H' qn bs (nearAt ps sz.length ord k) ∧ Ls K H' qb (((List.range k).map fun m => bagAt (nearAt ps sz.length ord m) ord m).map pns), ⟨o3, none, none, none, rfl, k40, nl4, lqb⟩, fun k σ' H' ⟨_, _, _, _, _, kk, _⟩ => kk.seq g1, ?_, ?_⟩
    · rintro k v T σ' H' hv ⟨o3, o7, o8, o9, rfl, k5, nl5, lb5⟩ hT
      unfold zs at hv
      rw [List.map_map, List.getElem?_map] at hv
      obtain ⟨name, hname, rfl⟩ := Option.map_eq_some_iff.mp hv
      obtain ⟨hk, _⟩ := List.getElem?_eq_some_iff.mp hname
      have hnm : ord.getD k 0 = name := by rw [List.getD_eq_getElem?_getD, hname]; rfl
      have hlt : name < sz.length := ok.olt name (List.mem_of_getElem? hname)
      obtain ⟨hat, hshort, hins⟩ := ok.getD (Nat.le_of_lt hk) hlt
      have rise := ok.bag hk
      have sm := same_new (o := .tup [V.int (k : Int), V.int (name : Int)]) hT
      have k6 := k5.trans sm
      have nl6 := nl5.mono sm
      have lb6 := ls_mono lb5 sm
      refine g2_go (d1 := pn k) (d2 := pn name) (.tup (SqT.of upd_same) (.cons (.int _) (.cons (.int _) .nil))) fun w1 w2 q1 q2 => ?_
      rw [dp_int q1, dp_int q2]
      show BW _ _ _ _ (upd H' T (.tup [V.int (k : Int), V.int (name : Int)]))
      generalize upd H' T (.tup [V.int (k : Int), V.int (name : Int)]) = H6 at k6 nl6 lb6 ⊢
      obtain ⟨b, hb⟩ : ∃ b, bs[name]? = some b := ⟨bs[name]'(by omega), List.getElem?_eq_getElem (by omega)⟩
      have hl6 := nl6.each name b _ hb hat
      have rb : Dp K H6 (.ref b) (.list (((nearAt ps sz.length ord k).getD name []).map pn)) := by
        rw [map_pn]
        exact .lst (SqL.of hl6) dpa_of_ints
      have dor : Dp K H6 (.ref oa) (.list (ord.map pn)) := by
        rw [map_pn]
        exact .lst (k6.seq g1) dpa_of_ints
      have hfl := List.length_filter_le (fun o => !decide (o ∈ ord.take k)) ((nearAt ps sz.length ord k).getD name [])
      refine b_setl (ds := (bagAt (nearAt ps sz.length ord k) ord k).map pn) 8 nd (EvL.to (evl_sortedSet (ns := ((nearAt ps sz.length ord k).getD name []).filter fun o => !decide (o ∈ ord.take k)) rfl C.m_sorted C.m_set (.inl (EvL.ev (evl_lc (lcv_Lif (xs := (nearAt ps sz.length ord k).getD name []) (enc := pn) (f := pn) (c := fun o => !decide (o ∈ ord.take k)) [("other", 9)] 9 rfl nd (er_ev (er_nl 2 rfl nl6 hb (ev_v 3 rfl (.int _))) rb) (blkOk_by (N := n_g_bags) (sc := defScope s_g_bags) (by decide +kernel)) (by omega) (fun _ _ => rfl) (fun a ha v H7 k7 r7 => ?_) fun a ha v H7 k7 r7 _ => ?_)))) (by omega)) (by unfold bagAt; rw [hnm])) fun qg H7 nqg k7 lg => ?_
      · intro s' H0 C' cl fp
        rw [dp_int r7]
        exact tv_notInL (ev_v 9 rfl (.int _)) (EvL.ev (EvL.to (evl_takeL (ev_v 1 rfl (dp_mono k7 dor)) (ev_v 7 rfl (.int _)) (by rw [List.length_map]; omega)) (by rw [List.map_take])))
      · intro s' H0 C' cl fp
        exact ev_v 9 rfl r7
      · have nl7 := nl6.mono k7
        have nqg0 := none_back k6 nqg
        have lgx : H7 qg = some (.lst ((zs (bagAt (nearAt ps sz.length ord k) ord k)).map V.int)) := by
          obtain ⟨ys, h1, h2⟩ := lg
          rw [map_pn] at h2
          rw [h1, dpa_ints h2]
        have nqgb : qg ∉ qn :: bs := fun z => by
          rcases List.mem_cons.mp z with z | z
          · rw [z, nl6.at_] at nqg; cases nqg
          · obtain ⟨ys, h⟩ := nl6.ex_at z
            rw [nqg] at h; cases h
        have nqgq : qg ≠ qb := fun z => by
          obtain ⟨ys, h⟩ := lb6.some
          rw [z, h] at nqg; cases nqg
        have bfew := rise.nm.few
        refine b_forV 8 (g_name 9 nd) rfl rfl lg fun gs hgs hgd => ⟨fun j σ' H' => ∃ o9, σ' = [some v1, some (.ref oa), some (.ref qn), some (.int (name : Int)), o4, o5, some (.ref qb), some (.int (k : Int)), some (.ref qg), o9] ∧ Fr bs H7 H' ∧ NL H' qn bs (((bagAt (nearAt ps sz.length ord k) ord k).take j).foldl (extOne (bagAt (nearAt ps sz.length ord k) ord k)) (nearAt ps sz.length ord k)), ⟨o9, rfl, Fr.refl, nl7⟩, fun j σ' H' ⟨_, _, fr, _⟩ => fr.same _ _ (fun z => nqgb (List.mem_cons_of_mem _ z)) hgs, ?_, ?_⟩
        · rintro j d v σ' H' hd hv rv ⟨o9, rfl, fr, nl8⟩
          rw [List.getElem?_map] at hd
          obtain ⟨o, ho, rfl⟩ := Option.map_eq_some_iff.mp hd
          rw [dp_int rv]
          have holt := rise.lt o (List.mem_of_getElem? ho)
          have htk : (bagAt (nearAt ps sz.length ord k) ord k).take (j + 1) = (bagAt (nearAt ps sz.length ord k) ord k).take j ++ [o] := by rw [List.take_succ, ho]; rfl
          obtain ⟨b2, hb2⟩ : ∃ b, bs[o]? = some b := ⟨bs[o]'(by omega), List.getElem?_eq_getElem (by omega)⟩
          have hlen8 : (((bagAt (nearAt ps sz.length ord k) ord k).take j).foldl (extOne (bagAt (nearAt ps sz.length ord k) ord k)) (nearAt ps sz.length ord k)).length = sz.length := by rw [extFold_len, nearAt_len]
          generalize hcur : ((bagAt (nearAt ps sz.length ord k) ord k).take j).foldl (extOne (bagAt (nearAt ps sz.length ord k) ord k)) (nearAt ps sz.length ord k) = cur at nl8 hlen8
          have hat8 : cur[o]? = some (cur.getD o []) := by rw [List.getD_eq_getElem?_getD, List.getElem?_eq_getElem (by omega)]; rfl
          have hl8 := nl8.each o b2 _ hb2 hat8
          have hcl : (cur.getD o []).length ≤ 1000 := by
            have : ∀ (os : List Nat) (ls : List (List Nat)) (m : Nat), (∀ l ∈ ls, l.length ≤ m) → ∀ l ∈ os.foldl (extOne (bagAt (nearAt ps sz.length ord k) ord k)) ls, l.length ≤ m + 12 * os.length := by
              intro os
              induction os with
              | nil => intro ls m h l hl; simpa using h l hl
              | cons u us ih =>
                intro ls m h l hl
                have h2 : ∀ l ∈ extOne (bagAt (nearAt ps sz.length ord k) ord k) ls u, l.length ≤ m + 12 := fun l hl => by
                  unfold extOne at hl
                  rcases List.mem_or_eq_of_mem_set hl with hl | hl
                  · have := h l hl; omega
                  · rw [hl, List.length_append]
                    have h3 : (ls.getD u []).length ≤ m := by
                      by_cases hu : u < ls.length
                      · rw [List.getD_eq_getElem?_getD, List.getElem?_eq_getElem hu]
                        exact h _ (List.getElem_mem hu)
                      · rw [List.getD_eq_getElem?_getD, List.getElem?_eq_none (by omega)]
                        exact Nat.zero_le _
                    omega
                have := ih _ (m + 12) h2 l hl
                rw [List.length_cons]
                omega
            have h4 := this ((bagAt (nearAt ps sz.length ord k) ord k).take j) (nearAt ps sz.length ord k) 60 (fun l hl => (ok.short k (Nat.le_of_lt hk) l hl).1)
            have h5 : ((bagAt (nearAt ps sz.length ord k) ord k).take j).length ≤ 12 := by rw [List.length_take]; omega
            rw [hcur] at h4
            have h6 := h4 _ (List.mem_of_getElem? hat8)
            omega
          refine b_extI (er_nl 2 rfl nl8 hb2 (ev_v 9 rfl (.int _))) hl8 (.inr ⟨qg, er_v 8 rfl, fr.same _ _ (fun z => nqgb (List.mem_cons_of_mem _ z)) lgx⟩) (by omega) fun H9 k9 => bw_nil ⟨_, rfl, ?_, ?_⟩
          · exact (fr.trans (Fr.of k9)).trans ((fr_one fun xs => not_rd (k9 _ _ hl8) (fun z => nomatch z) fun ob z => nomatch z).mono (by intro d hd; rw [List.mem_singleton.mp hd]; exact List.mem_of_getElem? hb2))
          · have := (nl8.mono k9).set hb2 (l := []) (cur.getD o [] ++ bagAt (nearAt ps sz.length ord k) ord k)
            rw [htk, List.foldl_append, hcur]
            exact this
        · rintro σ' H' ⟨o9, rfl, fr, nl8⟩
          rw [List.length_map, List.take_length] at nl8
          have lb8 := ls_fr (ls_mono lb6 k7) fr nqbb tup_maps
          have lg8 : Ls K H' qg ((bagAt (nearAt ps sz.length ord k) ord k).map pn) := ls_fr lg fr (fun z => nqgb (List.mem_cons_of_mem _ z)) pns_tup
          have k8 : Same H H' := fr.to (k6.trans k7) hbs
          refine b_append 6 rfl lb8 (ev_tupleL C.m_tuple (ev_v 8 rfl lg8.dp)) tup_maps tup_pns (by rw [List.length_map, List.length_map, List.length_range]; omega) fun H9 s9 l9 => bw_nil ⟨_, _, _, _, rfl, ?_, ?_, ?_⟩
          · exact s9.same k8 nqb0
          · exact nl8.fr (Fr.ofB (D := [qb]) s9 lb8.some (by simp)) (by simp; exact Ne.symm nqbq) (fun c hc => by simp; exact fun z => nqbb (z ▸ hc))
          · rw [List.range_succ, List.map_append, List.map_append]
            exact l9
    · rintro σ' H' ⟨o3, o7, o8, o9, rfl, k5, nl5, lb5⟩
      rw [List.length_map, zs_len] at lb5
      exact b_ret (ew_v 6 rfl (q qb H' nqb0 k5 lb5))
end
end SO
set_option Elab.async false
set_option linter.all false
set_option maxRecDepth 100000
set_option maxHeartbeats 4000000
/-! So52: a comprehension whose test changes things; ties sorted. -/
namespace SO
open PySem PySem.Spec PyProof.Rows L2
section
variable {X : Cx} {σ : L2.St} {H : Hp} {elt iter cnd : Expr} {scope : Scope} {x : Str} {px : Pos}
theorem lcw_cnd {xs : List Nat} (own : List (Str × Nat)) (j : Nat) (E : List Addr) (Z : Nat → Hp → Prop) (b : Addr) (hc : X.calm = true) (hN : X.N.Nodup) (hi : Er X iter σ H (.ref b)) (hb : ∀ l H', Z l H' → SqT X.K H' b ((zs xs).map V.int))
    (ok : BlkOk X.N X.env.scope scope own) (hl : xs.length ≤ 100000) (z0 : Z 0 H) (zf : ∀ l H1 H2 D, H D = none → Z l H1 → Fr [D] H1 H2 → Z l H2) (hE : ∀ d ∈ E, H d ≠ none)
    (hcn : ∀ (a i : Nat) H1, xs[i]? = some a → Z i H1 → Blk X scope fun Y => TW Y cnd ((wipe σ (own.map (·.2))).set j (some (.int (a : Int)))) H1 fun _ H2 => Z (i + 1) H2 ∧ Fr E H1 H2)
    (he : ∀ a ∈ xs, ∀ H1, Blk X scope fun Y => Ev Y elt ((wipe σ (own.map (·.2))).set j (some (.int (a : Int)))) H1 (pn a)) {Q : VK}
    (q : ∀ l H2 (sub : List Nat), H l = none → Z xs.length H2 → sub.Sublist xs → Ls X.K H2 l (sub.map pn) → Q (.ref l) H2)
    (hg : Blk X scope fun Y => PG Y (.Name x px) (gName j) := by exact fun _ _ _ _ _ => g_name _ (by assumption)) (hw : ∀ v, wipe ((wipe σ (own.map (·.2))).set j (some v)) (own.map (·.2)) = wipe σ (own.map (·.2)) := by intro _; rfl)
    (hf : ∀ x, foldedSetIterable iter X.env x = pure x := by intro _; rfl) : LcW X elt (.Name x px) iter [cnd] scope σ H Q := by
  refine ⟨own, _, gName j, ttB X scope cnd, teB X scope elt, ⟨hc, hN, pi_tup pe_ew, ok, hg, pts_blk, pe_blk, hf⟩, ?_⟩
  show EW X iter σ H _
  refine (hi H (Same.refl H)).mono fun v H2 ⟨k2, ev⟩ => ?_
  subst ev
  refine ⟨b, rfl, ⟨_, sqT_mono k2 (hb _ _ z0)⟩, fun Dl hD => ?_⟩
  have hD0 : H Dl = none := none_back k2 hD
  have z2 : Z 0 H2 := zf _ _ _ Dl hD0 z0 (Fr.of k2)
  have nE : Dl ∉ E := fun z => hE Dl z hD0
  have zl : (zs xs).length = xs.length := zs_len xs
  refine ⟨fun i m H' => m = xs.length - i ∧ i ≤ xs.length ∧ Z i H' ∧ ∃ sub : List Nat, sub.Sublist (xs.take i) ∧ Ls X.K H' Dl (sub.map pn), ⟨xs.length, by simp, Nat.zero_le _, zf _ _ _ Dl hD0 z2 (Fr.of (same_new hD)), [], List.nil_sublist _, [], upd_same, .nil⟩, ?_⟩
  rintro i m H' ⟨rfl, hi', zz, sub, hsub, ys, hx, hd⟩
  by_cases hlt : i < xs.length
  · have ea : xs[i]? = some xs[i] := List.getElem?_eq_getElem hlt
    have ez : ((zs xs).map V.int)[i]? = some (V.int (xs[i] : Int)) := by
      unfold zs
      rw [List.getElem?_map, List.getElem?_map, ea]
      rfl
    have hm : xs[i] ∈ xs := List.getElem_mem hlt
    have htk : xs.take (i + 1) = xs.take i ++ [xs[i]] := by rw [List.take_succ, ea]; rfl
    generalize xs[i] = a at ea ez hm htk
    refine .inr ⟨⟨_, _, hb _ _ zz, ez⟩, fun H'' => Z (i + 1) H'' ∧ ∃ sub : List Nat, sub.Sublist (xs.take (i + 1)) ∧ Ls X.K H'' Dl (sub.map pn), fun H'' ⟨p1, p2⟩ => ⟨xs.length - (i + 1), by omega, rfl, hlt, p1, p2⟩, fun u Hy hy => ?_⟩
    obtain ⟨rfl, y⟩ := hy
    have eu := y _ (hb _ _ zz)
    rw [ez] at eu
    cases eu
    show gName j (.int (a : Int)) _ Hy _
    refine ⟨hw _, fun s H0 C cl fp => (hcn a i Hy ea zz s H0 C cl fp).mono fun bb H3 ⟨z3, f3⟩ => ?_⟩
    have hx3 : H3 Dl = some (.lst ys) := f3.same _ _ nE hx
    have hd3 : DpAll X.K H3 ys (sub.map pn) := dpa_tp f3.tp pns_tup hd
    cases bb with
    | false => exact iteF ⟨z3, sub, by rw [htk]; exact hsub.trans (List.sublist_append_left _ _), ys, hx3, hd3⟩
    | true =>
      refine iteT fun s H0 C cl fp => (he a hm H3 s H0 C cl fp H3 (Same.refl _)).mono fun v H4 ⟨k4, r4⟩ => ?_
      have hx4 : H4 Dl = some (.lst ys) := k4 _ _ hx3
      have kb : SameB Dl H4 (upd H4 Dl (.lst (ys ++ [v]))) := sameB_upd
      have tp := kb.tp hx4
      refine ⟨ys, hx4, ?_, zf _ _ _ Dl hD0 (zf _ _ _ Dl hD0 z3 (Fr.of k4)) (Fr.ofB kb ⟨_, hx4⟩ (by simp)), sub ++ [a], by rw [htk]; exact hsub.append (List.Sublist.refl _), ys ++ [v], upd_same, ?_⟩
      · have l1 := dpa_len hd3
        have l2 := hsub.length_le
        rw [List.length_map] at l1
        rw [List.length_take] at l2
        rw [l1]
        exact Nat.lt_of_le_of_lt l2 (Nat.lt_of_lt_of_le (Nat.lt_of_le_of_lt (Nat.min_le_left _ _) (Nat.lt_of_lt_of_le hlt hl)) (by decide))
      · rw [List.map_append]
        exact dpa_app (dpa_tp ((tp_same k4).trans tp) pns_tup hd3) (.cons (dp_tp tp rfl r4) .nil)
  · have e : i = xs.length := by omega
    subst e
    rw [List.take_length] at hsub
    exact .inl ⟨⟨_, hb _ _ zz, by rw [List.length_map, zl]; exact Nat.le_refl _⟩, q Dl H' sub hD0 zz hsub ⟨ys, hx, hd⟩⟩
end
/-! ### ties sorted -/
theorem dpa_perm {K : PySem.W.Frag} {H : Hp} {α : Type} {f : α → D0} : ∀ {ys xs : List V} {ts : List α}, ys.Perm xs → DpAll K H xs (ts.map f) → ∃ ts' : List α, ts'.Perm ts ∧ DpAll K H ys (ts'.map f) := by
  intro ys xs ts hp
  induction hp generalizing ts with
  | nil => intro h; cases ts with
    | nil => exact ⟨[], .refl _, .nil⟩
    | cons t ts => cases h
  | cons x _ ih => intro h; cases ts with
    | nil => cases h
    | cons t ts =>
      cases h with
      | cons a b =>
        obtain ⟨ts', h1, h2⟩ := ih b
        exact ⟨t :: ts', h1.cons t, .cons a h2⟩
  | swap x y l => intro h; cases ts with
    | nil => cases h
    | cons t ts =>
      cases h with
      | cons a b => cases ts with
        | nil => cases b
        | cons u us =>
          cases b with
          | cons c d => exact ⟨u :: t :: us, List.Perm.swap _ _ _, .cons c (.cons a d)⟩
  | trans _ _ ih1 ih2 =>
    intro h
    obtain ⟨t1, h1, h2⟩ := ih2 h
    obtain ⟨t2, h3, h4⟩ := ih1 h2
    exact ⟨t2, h3.trans h1, h4⟩
theorem dpa_mem {K : PySem.W.Frag} {H : Hp} {α : Type} {f : α → D0} : ∀ {ys : List V} {ts : List α} {u : α}, DpAll K H ys (ts.map f) → u ∈ ts → ∃ y ∈ ys, Dp K H y (f u)
  | _, [], u, _, h => by cases h
  | [], t :: ts, u, hd, h => by cases hd
  | y :: ys, t :: ts, u, hd, h => by
    cases hd with
    | cons a b =>
      rcases List.mem_cons.mp h with rfl | h
      · exact ⟨y, by simp, a⟩
      · obtain ⟨z, h1, h2⟩ := dpa_mem b h
        exact ⟨z, List.mem_cons_of_mem _ h1, h2⟩
def tieLe (a b : Tie) : Prop := a.1 < b.1 ∨ (a.1 = b.1 ∧ a.2 ≤ b.2)
section
variable {X : Cx} {σ : L2.St} {H : Hp} {e : Expr} {p pos : Pos}
theorem ew_sortTies {ts : List Tie} {Q : VK} (hm : X.mg "sorted" = none) (h : Ev X e σ H (.list (ts.map tieD))) (hl : ts.length < 64) (hb : ∀ t ∈ ts, t.1 < 100 ∧ t.2 < 100) (q : ∀ q' H' (ts' : List Tie), H q' = none → Same H H' → ts'.Perm ts → ts'.Pairwise tieLe → Ls X.K H' q' (ts'.map tieD) → Q (.ref q') H')
    (hg : Gl X "sorted" := by rfl) (he : starEach [e] X.env = (false, eval e X.env) :: starEach [] X.env := by rfl) (hpl : (backTo pos (starEach [] X.env)).any (·.1) = false := by rfl) : EW X (.Call (.Name "sorted" p) [e] [] pos) σ H Q :=
  ew_callB (cr_sortT (d := 2) (B := 100) (by decide)) hm (by decide +kernel) (aw_one (h.go fun v H1 k1 r => by
    obtain ⟨a, xs, rfl, h1, h2⟩ := dp_lst r
    have hlen := dpa_len h2
    rw [List.length_map] at hlen
    -- each value's tie
    have val : ∀ {xs : List V} {ts : List Tie}, DpAll X.K H1 xs (ts.map tieD) → ∀ x ∈ xs, ∃ t ∈ ts, Dp X.K H1 x (tieD t) := by
      intro xs ts hx
      induction ts generalizing xs with
      | nil => cases hx; intro x h; cases h
      | cons t ts ih =>
        cases hx with
        | cons a b =>
          intro x hx
          rcases List.mem_cons.mp hx with rfl | hx
          · exact ⟨t, by simp, a⟩
          · obtain ⟨u, hu, ru⟩ := ih b x hx
            exact ⟨u, List.mem_cons_of_mem _ hu, ru⟩
    have tupI : ∀ {x : V} {t : Tie}, Dp X.K H1 x (tieD t) → TupI X.K H1 x [(t.1 : Int), (t.2 : Int)] := fun {x t} rx => by
      obtain ⟨b, ys, rfl, g1, g2⟩ := dp_tup rx
      obtain ⟨u1, u2, rfl, g3, g4⟩ := dpa2 g2
      rw [dp_int g3, dp_int g4] at g1
      exact ⟨b, rfl, g1⟩
    refine ⟨a, xs, rfl, h1, by omega, fun x hx => ?_, fun ys p' hp hs hn => ?_⟩
    · obtain ⟨t, ht, rt⟩ := val h2 x hx
      have := hb t ht
      exact ⟨_, tupI rt, rfl, by
        intro n hn
        simp at hn
        rcases hn with rfl | rfl <;> constructor <;> omega⟩
    · have sm := same_new (o := .lst ys) hn
      obtain ⟨ts', hp', hd⟩ := dpa_perm hp h2
      refine q p' _ ts' (none_back k1 hn) (k1.trans sm) hp' ?_ ⟨ys, upd_same, dpa_mono sm hd⟩
      have pw : ∀ {ys : List V} {ts' : List Tie}, DpAll X.K H1 ys (ts'.map tieD) → (∀ t ∈ ts', t.1 < 100 ∧ t.2 < 100) → ys.Pairwise (fun x y => ∀ n m, TupI X.K H1 x n → TupI X.K H1 y m → TS.code 100 n ≤ TS.code 100 m) → ts'.Pairwise tieLe := by
        intro ys ts' hd hb
        induction ts' generalizing ys with
        | nil => intro _; exact .nil
        | cons t ts' ih =>
          cases hd with
          | cons a b =>
            intro hs
            obtain ⟨h3, h4⟩ := List.pairwise_cons.mp hs
            refine .cons (fun u hu => ?_) (ih b (fun x hx => hb x (List.mem_cons_of_mem _ hx)) h4)
            obtain ⟨y, hy, ry⟩ := dpa_mem b hu
            have h5 := h3 y hy _ _ (tupI a) (tupI ry)
            have b1 := hb t List.mem_cons_self
            have b2 := hb u (List.mem_cons_of_mem _ hu)
            simp [TS.code] at h5
            unfold tieLe
            omega
      exact pw hd (fun t ht => hb t (hp'.mem_iff.mp ht)) hs) he) hg (by decide) (by decide) he hpl
end
end SO
set_option Elab.async false
set_option linter.all false
set_option maxRecDepth 100000
set_option maxHeartbeats 4000000
/-! So53: the tree drawn: what it is; small forms. -/
namespace SO
open PySem PySem.Spec PyProof.Rows L2
def parB (ord : List Nat) (bags : List (List Nat)) (k : Nat) : Nat := (((List.range' (k + 1) (ord.length - (k + 1))).filter fun j => decide (ord.getD j 0 ∈ bags.getD k [])) ++ [k + 1]).getD 0 0
def baseTies (ord : List Nat) (bags : List (List Nat)) : List Tie := (List.range (ord.length - 1)).map fun k => (k, parB ord bags k)
inductive Grown (ps : List Part) (many : Nat) (ord : List Nat) : Nat → List (List Nat) → List Tie → Prop where
  | base : Grown ps many ord 0 (bagsOf ps many ord) (baseTies ord (bagsOf ps many ord))
  | more {m : Nat} {bags : List (List Nat)} {ties : List Tie} (at_ : Nat) (sub : List Nat) : Grown ps many ord m bags ties → at_ < bags.length → sub.Sublist (bags.getD at_ []) → Grown ps many ord (m + 1) (bags ++ [sub]) (ties ++ [(at_, bags.length)])
def Wide (bags : List (List Nat)) (ties : List Tie) (bags' : List (List Nat)) : Prop := bags' = bags ∨ ∃ e ∈ ties, bags' = bags.set e.1 (sd (bags.getD e.1 [] ++ (bags.getD e.2 []).take 1))
def sp2 (a b : Nat) : Tie := (min a b, max a b)
structure Drawn (ps : List Part) (many : Nat) (t : TreeD) : Prop where
  ex : ∃ (ord : List Nat) (m : Nat) (bags : List (List Nat)) (ties : List Tie) (bags' : List (List Nat)) (trn : List Nat), ord.Perm (List.range many) ∧ m ≤ 2 ∧ Grown ps many ord m bags ties ∧ Wide bags ties bags' ∧ trn.Perm (List.range bags.length) ∧
    t.1 = (List.range bags.length).map (fun k => bags'.getD (trn.idxOf k) []) ∧ t.2.Perm (ties.map fun e => sp2 (trn.getD e.1 0) (trn.getD e.2 0)) ∧ t.2.Pairwise tieLe
theorem Grown.len {ps : List Part} {many : Nat} {ord : List Nat} {m : Nat} {bags : List (List Nat)} {ties : List Tie} (h : Grown ps many ord m bags ties) : bags.length = ord.length + m ∧ ties.length = ord.length - 1 + m := by
  induction h with
  | base => simp [bagsOf, baseTies]
  | more a sub _ _ _ ih =>
    rw [List.length_append, List.length_append, ih.1, ih.2]
    simp
    omega
theorem parB_lt {ord : List Nat} {bags : List (List Nat)} {k : Nat} (hk : k + 1 < ord.length) : k < parB ord bags k ∧ parB ord bags k < ord.length := by
  unfold parB
  cases h : ((List.range' (k + 1) (ord.length - (k + 1))).filter fun j => decide (ord.getD j 0 ∈ bags.getD k [])) with
  | nil => exact ⟨Nat.lt_succ_self k, hk⟩
  | cons x xs =>
    have : x ∈ (List.range' (k + 1) (ord.length - (k + 1))).filter fun j => decide (ord.getD j 0 ∈ bags.getD k []) := by rw [h]; exact List.mem_cons_self
    have := List.mem_range'_1.mp (List.mem_filter.mp this).1
    exact ⟨by show k < x; omega, by show x < ord.length; omega⟩
theorem Grown.tie {ps : List Part} {many : Nat} {ord : List Nat} {m : Nat} {bags : List (List Nat)} {ties : List Tie} (h : Grown ps many ord m bags ties) : ∀ e ∈ ties, e.1 < e.2 ∧ e.2 < bags.length := by
  induction h with
  | base =>
    intro e he
    obtain ⟨k, hk, rfl⟩ := List.mem_map.mp he
    have hk := List.mem_range.mp hk
    have := parB_lt (ord := ord) (bags := bagsOf ps many ord) (k := k) (by omega)
    have hl : (bagsOf ps many ord).length = ord.length := by simp [bagsOf]
    rw [hl]
    exact this
  | more a sub _ ha _ ih =>
    intro e he
    rw [List.length_append, List.length_singleton]
    rcases List.mem_append.mp he with he | he
    · have := ih e he; omega
    · rw [List.mem_singleton.mp he]
      exact ⟨ha, Nat.lt_succ_self _⟩
theorem sort2 (a b : Nat) : sortN [a, b] = [min a b, max a b] := by
  have hp := sortN_perm [a, b]
  have hs := sortN_le [a, b]
  have hl := sortN_len [a, b]
  generalize sortN [a, b] = l at hp hs hl
  match l, hl with
  | [x, y], _ =>
    have h1 : x ≤ y := by simpa using hs
    have hx : x ∈ [a, b] := hp.mem_iff.mp (by simp)
    have hy : y ∈ [a, b] := hp.mem_iff.mp (by simp)
    have ha : a ∈ [x, y] := hp.mem_iff.mpr (by simp)
    have hb : b ∈ [x, y] := hp.mem_iff.mpr (by simp)
    simp at hx hy ha hb
    have e1 : x = min a b := by omega
    have e2 : y = max a b := by omega
    rw [e1, e2]
section
variable {X : Cx} {a e o : Expr} {σ : L2.St} {H : Hp} {pos p2 apos cpos : Pos}
/-- t[:k] -/
theorem ev_takeT {ds : List D0} {k : Nat} (ha : Ev X a σ H (.tuple ds)) (he : Ev X e σ H (pn k)) : Ev X (.Subscript a (.Slice none (some e) none p2) pos) σ H (.tuple (ds.take k)) := fun H1 k1 =>
  ew_pe (pe_slice sl_tupA pe_ew po_none (po_some pe_ew)) (show EW X a σ H1 _ from (ha H1 k1).mono fun v H2 ⟨k2, r⟩ => show EW X e σ H2 _ from (he H2 (k1.trans k2)).mono fun y H3 ⟨k3, r2⟩ => ⟨k, dp_int r2, by
    obtain ⟨q, xs, rfl, h1, h2⟩ := dp_tup (dp_mono k3 r)
    have hl := dpa_len h2
    refine ⟨q, xs, rfl, h1, fun z => ⟨k2.trans k3, ?_⟩, fun z t ht => ⟨(k2.trans k3).trans (same_new ht), ?_⟩⟩
    · rw [HT.sIx_nat] at z
      rw [List.take_of_length_le (by omega)]
      exact .tup h1 h2
    · refine .tup (SqT.of upd_same) (dpa_mono (same_new ht) ?_)
      unfold cutV
      rw [HT.sIx_none, HT.sIx_nat, List.drop_zero, Nat.sub_zero]
      by_cases hk : k ≤ xs.length
      · rw [Nat.min_eq_left hk]; exact dpa_take k h2
      · rw [Nat.min_eq_right (by omega), List.take_length, List.take_of_length_le (by omega)]; exact h2⟩)
/-- l.index(n) -/
theorem ev_listIx {ns : List Nat} {n : Nat} (hi : Ev X o σ H (.list (ns.map pn))) (hb : n ∈ ns) (h : Ev X e σ H (pn n)) (hbase : attributeBase o "index" X.env (eval o X.env) = eval o X.env := by rfl)
    (hfew : ((backTo cpos (starEach [e] X.env)).all (fun x => !x.1) && (backToKw cpos (keywordEach [] X.env)).all (fun x => x.1.isSome)
      && decide ([e].length + ([] : List Keyword).length + (if ([] : List Keyword).isEmpty then 0 else 1) < 30)) = true := by rfl)
    (hline : (apos.endLine == cpos.line) = true := by rfl) (hs1 : starEach [e] X.env = (false, eval e X.env) :: starEach [] X.env := by rfl) (hplain : (backTo cpos (starEach [] X.env)).any (·.1) = false := by rfl) :
    Ev X (.Call (.Attribute o "index" apos) [e] [] cpos) σ H (pn (ns.idxOf n)) := fun H1 k => by
  refine ew_m tySL_ok PySem.F.plainAttrs_list PySem.F.slot_list_index mt_index ?_ (hbase := hbase) (hfew := hfew) (hline := hline) (hs := hs1) (hplain := hplain)
  refine (hi H1 k).mono fun v H2 ⟨k2, r⟩ => ?_
  rw [map_pn] at r
  obtain ⟨a, xs, rfl, h1, h2⟩ := dp_lst r
  rw [dpa_ints h2] at h1
  refine ⟨⟨a, _, rfl, h1⟩, (eva1 h hs1 H2 (k.trans k2)).mono fun vs H3 ⟨k3, r2⟩ => ?_⟩
  obtain ⟨v2, rfl, r3⟩ := dpa1 r2
  rw [dp_int r3]
  have hlt : ns.idxOf n < ns.length := List.idxOf_lt_length_iff.mpr hb
  refine ⟨a, _, .int (n : Int), ns.idxOf n, .int (n : Int), rfl, rfl, k3.seq h1, rfl, flat_ints _, ?_, by simp [eqV], fun m z hm hz => ?_, k2.trans k3, .int _⟩
  · unfold zs
    rw [List.getElem?_map, List.getElem?_map, List.getElem?_eq_getElem hlt, List.getElem_idxOf hlt]
    rfl
  · unfold zs at hz
    rw [List.getElem?_map, List.getElem?_map, List.getElem?_eq_getElem (Nat.lt_trans hm hlt)] at hz
    cases hz
    have h5 := List.not_of_lt_findIdx (p := (· == n)) hm
    have h6 : ns[m]'(Nat.lt_trans hm hlt) ≠ n := fun z => by rw [z] at h5; simp at h5
    simp [eqV]
    omega
end
end SO
set_option Elab.async false
set_option linter.all false
set_option maxRecDepth 100000
set_option maxHeartbeats 4000000
/-! So54: the tree drawn. -/
namespace SO
open PySem PySem.Spec PyProof.Rows L2
theorem maps_tup {ls : List (List Nat)} : tupOnlyL (ls.map pns) = true := tup_maps
theorem sheet_tup {sz : List Nat} {ps : List Part} : tupOnly (sheetD sz ps) = true := by
  unfold sheetD
  simp only [tupOnly, tupOnlyL, tup_pns, Bool.and_true, Bool.true_and]
  exact pp_tups
theorem getD_bag {bags : List (List Nat)} {k : Nat} (h : k < bags.length) : bags[k]? = some (bags.getD k []) := by
  rw [List.getD_eq_getElem?_getD, List.getElem?_eq_getElem h]; rfl
theorem dpa_setN {K : PySem.W.Frag} {H : Hp} {x : V} {l : List Nat} {xs : List V} {ls : List (List Nat)} (i : Nat) (r : Dp K H x (pns l)) (h : DpAll K H xs (ls.map pns)) : DpAll K H (xs.set i x) ((ls.set i l).map pns) := by
  rw [List.map_set]
  exact dpa_set r i h
section
variable {P : Program} {w : World} {K : PySem.W.Frag} {mg : Str → Option Value} {base : Heap}
def spTree (K : PySem.W.Frag) (c : Tc) : Sp := fun vs H Q _ => ∃ (n : Nat) (sz : List Nat) (ps : List Part) (vsh : V), vs = [.ref c.t, vsh] ∧ Dp K H vsh (sheetD sz ps) ∧ TAt K c H n ∧ n < 600000 ∧ sz.length = 10 ∧
  (∀ ord : List Nat, ord.Perm (List.range sz.length) → BgOk ps sz.length ord) ∧
  ∀ v t H', Fr [c.t] H H' → TAt K c H' (n + 500) → Drawn ps sz.length t → Dp K H' v (treeD t) → Q v H'
set_option maxHeartbeats 8000000 in
theorem cal_g_tree (C : Ctx K mg) (c : Tc) : C8.Cal P w K mg base 5 "_law_gtree" (spTree K c) [] := by
  refine cal_of (k := 4) C.h_g_tree c_g_tree (fun vs H Q E ⟨_, _, _, _, h, _⟩ => by rw [h]; rfl) fun cdv A outer s H vs Q E hr ⟨n, sz, ps, vsh, e, rsh, ta, hn, hsz, hbg, q⟩ => ?_
  subst e
  have nd := c_g_tree.nd
  refine b_set 2 nd (ew_call (cal_g_order C c) hr (by decide) (aw_cons (ew_v 0 rfl (aw_one (Ev.go (d := pn sz.length) (Ev.to (ev_lenT C.m_len (ev_ixT (ev_v 1 rfl rsh) ev_int (at_nat (n := 0) rfl))) (by rw [List.length_map])) fun v1 H1 k1 r1 => ?_)))))
  rw [dp_int r1]
  refine ⟨n, sz.length, rfl, by omega, ta.mono k1, by omega, fun qo ord H2 nqo f2 t2 hord lo => ?_⟩
  have ok := hbg ord hord
  have hol : ord.length = 10 := by rw [hord.length_eq, List.length_range, hsz]
  have fA2 : Fr [c.t] H H2 := (Fr.of k1).trans f2
  have rsh2 := dp_tp fA2.tp sheet_tup rsh
  have nqo0 := none_back k1 nqo
  have hqot : qo ≠ c.t := Ne.symm (ta.neF nqo0)
  refine b_setl 3 nd (evl_call (cal_g_bags C) hr (by decide) (eva2 (ev_v 1 rfl rsh2) (ev_v 2 rfl lo.dp)) ⟨sz, ps, ord, rfl, ok, rfl⟩) fun qb H3 nqb k3 lb => ?_
  refine b_setl 4 nd (evl_lst eva_nil) fun qt H4 nqt k4 lt => ?_
  have hne1 : qb ≠ qt := fun z => by
    obtain ⟨ys, h⟩ := lb.some
    rw [z, nqt] at h; cases h
  have hne2 : qo ≠ qb := fun z => by
    obtain ⟨ys, h⟩ := lo.some
    rw [z, nqb] at h; cases h
  have hne3 : qo ≠ qt := fun z => by
    obtain ⟨ys, h⟩ := (ls_mono lo k3).some
    rw [z, nqt] at h; cases h
  have ta2 := t2.mono k3
  have hqbt : qb ≠ c.t := Ne.symm (t2.neF nqb)
  have hqtt : qt ≠ c.t := Ne.symm (ta2.neF nqt)
  have fresh : ∀ q, H2 q = none → q ≠ c.t → H q = none := fun q h1 h2 => by
    cases e : H q with
    | none => rfl
    | some o => rw [fA2.same _ _ (by simp; exact h2) e] at h1; cases h1
  have nqb0 : H qb = none := fresh qb nqb hqbt
  have nqt0 : H qt = none := fresh qt (none_back k3 nqt) hqtt
  have hbl : (bagsOf ps sz.length ord).length = 10 := by simp [bagsOf, hol]
  -- the ties of the order
  refine b_forRw (g_name 5 nd) rfl C.m_range (Ev.go (d := pn (ord.length - 1)) (Ev.to (ev_sub (Ev.to (ev_lenL C.m_len (ev_v 2 rfl ((ls_mono lo k3).dp |> dp_mono k4))) (by rw [List.length_map])) ev_int) (congrArg PyData.int (by omega))) fun v5 H5 k5 r5 => ⟨ord.length - 1, dp_int r5, by omega, fun i σ' H' => ∃ o5 o6, σ' = [some (.ref c.t), some vsh, some (.ref qo), some (.ref qb), some (.ref qt), o5, o6, none, none, none, none, none, none, none] ∧ Fr [qt] H5 H' ∧ Ls K H' qt (((List.range i).map fun k => (k, parB ord (bagsOf ps sz.length ord) k)).map tieD), ⟨none, none, rfl, Fr.refl, ls_mono lt k5⟩, ?_, ?_⟩)
  · rintro i σ' H' hi ⟨o5, o6, rfl, fr, l6⟩
    have lo6 := ls_fr ((ls_mono (ls_mono (ls_mono lo k3) k4) k5)) fr (by simp; exact hne3) pns_tup
    have lb6 := ls_fr ((ls_mono (ls_mono lb k4) k5)) fr (by simp; exact hne1) tup_maps
    refine b_setlc 6 (lcv_R2if (n := i + 1) (m := ord.length) (fn := pn) (cn := fun j => decide (ord.getD j 0 ∈ (bagsOf ps sz.length ord).getD i [])) [("j", 10)] 10 rfl nd C.m_range (Ev.to (ev_add (ev_v 5 rfl (.int _)) ev_int) rfl) (Ev.to (ev_lenL C.m_len (ev_v 2 rfl lo6.dp)) (by rw [List.length_map])) (blkOk_by (N := n_g_tree) (sc := defScope s_g_tree) (by decide +kernel)) (by omega) (by omega) (fun _ _ _ => rfl) (fun a h1 h2 H7 k7 => ?_) fun a h1 h2 H7 k7 _ => ?_) fun ql H7 nql k7 l7 => ?_
    · intro s' H0 C' cl fp
      exact tv_inT (ev_ixL (ev_v 2 rfl (dp_mono k7 lo6.dp)) (ev_v 10 rfl (.int _)) (at_map (getD_len h2))) (ev_ixL (ev_v 3 rfl (dp_mono k7 lb6.dp)) (ev_v 5 rfl (.int _)) (at_map (getD_bag (by omega))))
    · intro s' H0 C' cl fp
      exact ev_v 10 rfl (.int _)
    · have hpar := parB_lt (ord := ord) (bags := bagsOf ps sz.length ord) (k := i) (by omega)
      refine b_append (d := tieD (i, parB ord (bagsOf ps sz.length ord) i)) 4 rfl (ls_mono l6 k7) (Ev.to (ev_tup (eva2 (ev_v 5 rfl (.int _)) (ev_ixL (d := pn (parB ord (bagsOf ps sz.length ord) i)) (EvL.ev (ds := (((List.range' (i + 1) (ord.length - (i + 1))).filter fun j => decide (ord.getD j 0 ∈ (bagsOf ps sz.length ord).getD i [])) ++ [i + 1]).map pn) (EvL.to (evl_catV 6 rfl l7 (evl_lst (eva1 (Ev.to (ev_add (ev_v 5 rfl (.int _)) ev_int) rfl))) ?_) ?_)) ev_int (at_map (n := 0) ?_)))) rfl) ties_tup rfl (by rw [List.length_map, List.length_map, List.length_range]; omega) fun H8 s8 l8 => bw_nil ⟨some (.int (i : Int)), some (.ref ql), rfl, (fr.trans (Fr.of k7)).trans (Fr.ofB s8 (ls_mono l6 k7).some (by simp)), ?_⟩
      · rw [List.length_map, List.length_singleton]
        have := List.length_filter_le (fun j => decide (ord.getD j 0 ∈ (bagsOf ps sz.length ord).getD i [])) (List.range' (i + 1) (ord.length - (i + 1)))
        rw [List.length_range'] at this
        omega
      · rw [List.map_append]; rfl
      · exact getD_len (by rw [List.length_append]; simp)
      · rw [List.range_succ, List.map_append, List.map_append]
        exact l8
  · rintro σ' H' ⟨o5, o6, rfl, fr, l6⟩
    have lo6 := ls_fr ((ls_mono (ls_mono (ls_mono lo k3) k4) k5)) fr (by simp; exact hne3) pns_tup
    have lb6 := ls_fr ((ls_mono (ls_mono lb k4) k5)) fr (by simp; exact hne1) tup_maps
    have t6 : TAt K c H' (n + sz.length) := ta.new (((t2.mono k3).mono k4).mono k5) fr nqt0
    have fH : Fr [c.t, qb, qt] H H' := ((((fA2.trans (Fr.of k3)).trans (Fr.of k4)).trans (Fr.of k5)).mono (by simp)).trans (fr.mono (by simp))
    -- the bags more
    refine b_forRw (g_name 7 nd) rfl C.m_range (ew_draw (m := 3) (cal_g_draw C c) hr (by decide) (ew_v 0 rfl ⟨rfl, rfl⟩) ev_int (by decide) (by decide) t6 (by omega) fun m H7 hm f7 t7 => ?_)
    refine ⟨m, rfl, by omega, fun i σ' H'' => ∃ bags ties o7 o8 o13, σ' = [some (.ref c.t), some vsh, some (.ref qo), some (.ref qb), some (.ref qt), o5, o6, o7, o8, none, none, none, none, o13] ∧ Fr [c.t, qb, qt] H H'' ∧ TAt K c H'' (n + sz.length + 1 + 40 * i) ∧ Grown ps sz.length ord i bags ties ∧ (∀ b ∈ bags, Rise sz.length b) ∧ Ls K H'' qo (ord.map pn) ∧ Ls K H'' qb (bags.map pns) ∧ Ls K H'' qt (ties.map tieD), ⟨_, _, none, none, none, rfl, fH.trans (f7.mono (by simp)), t7, .base, ?_, ls_fr lo6 f7 (by simp; exact hqot) pns_tup, ls_fr lb6 f7 (by simp; exact hqbt) tup_maps, ls_fr l6 f7 (by simp; exact hqtt) ties_tup⟩, ?_, ?_⟩
    · intro b hb
      obtain ⟨k, hk, rfl⟩ := List.mem_map.mp hb
      exact ok.bag (List.mem_range.mp hk)
    · rintro i σ' H'' hi ⟨bags, ties, o7, o8, o13, rfl, fr8, t8, gr, hrise, lo8, lb8, lt8⟩
      have hgl := gr.len
      refine b_set 8 nd (ew_draw (m := bags.length) (cal_g_draw C c) hr (by decide) (ew_v 0 rfl ⟨rfl, rfl⟩) (Ev.to (ev_lenL C.m_len (ev_v 3 rfl lb8.dp)) (by rw [List.length_map])) (by omega) (Nat.lt_of_le_of_lt (by omega : bags.length ≤ 100) (by decide)) t8 (by omega) fun a H9 ha f9 t9 => ?_)
      have lb9 := ls_fr lb8 f9 (by simp; exact hqbt) tup_maps
      have lt9 := ls_fr lt8 f9 (by simp; exact hqtt) ties_tup
      refine b_append (d := tieD (a, bags.length)) 4 rfl lt9 (Ev.to (ev_tup (eva2 (ev_v 8 rfl (.int _)) (Ev.to (ev_lenL C.m_len (ev_v 3 rfl lb9.dp)) (by rw [List.length_map])))) rfl) ties_tup rfl (by rw [List.length_map]; omega) fun H10 s10 lt10 => ?_
      have f10 : Fr [qt] H9 H10 := Fr.ofB s10 lt9.some (by simp)
      have lb10 := ls_fr lb9 f10 (by simp; exact hne1) tup_maps
      have t10 := ta.new t9 f10 nqt0
      refine b_expr (ew_m (id := "list.append") tyL_ok PySem.F.plainAttrs_list PySem.F.slot_list_append mt_append (ew_v 3 rfl ?_))
      obtain ⟨xs, x1, x2⟩ := id lb10
      obtain ⟨vb, hvb, rvb⟩ := dpa_get (i := a) (d := pns (bags.getD a [])) x2 (by rw [List.getElem?_map, getD_bag ha]; rfl)
      obtain ⟨ab, rfl, sqb⟩ := dp_pns rvb
      have hbr := hrise _ (List.mem_of_getElem? (getD_bag ha))
      have hbfew := hbr.nm.few
      refine ⟨⟨qb, xs, rfl, x1⟩, aw_one (ew_callTy call_tuple_of C.m_tuple (by decide +kernel) (aw_one (ew_lc (lcw_cnd (xs := bags.getD a []) [("name", 13)] 13 [c.t] (fun l H' => Fr [c.t] H10 H' ∧ TAt K c H' (n + sz.length + 1 + 40 * i + 1 + l)) ab rfl nd ?_ (fun l H' ⟨f, _⟩ => ?_) (blkOk_by (N := n_g_tree) (sc := defScope s_g_tree) (by decide +kernel)) (by omega) ⟨Fr.refl, t10⟩ (fun l Ha Hb D hD ⟨f, t⟩ fr => ⟨f.drop fr hD, t10.new t fr hD⟩) (fun d hd => ?_) (fun x l Ha hx ⟨f, t⟩ s' H0 C' cl fp => ?_) (fun x hx Ha s' H0 C' cl fp => ev_v 13 rfl (.int _)) fun ql H11 sub nql ⟨f11, t11⟩ hsub lsub => ?_))))⟩
      · intro Ha ka
        exact ew_ix ix_list (ew_v 3 rfl (ew_v 8 rfl ⟨qb, xs, a, .ref ab, rfl, rfl, SqL.of (ka _ _ x1), at_nat hvb, Same.refl _, rfl⟩))
      · obtain ⟨_, e1, g⟩ := dp_pns (dp_tp f.tp tup_pns rvb)
        cases e1
        exact g
      · rw [List.mem_singleton.mp hd]
        obtain ⟨a', s', h1, _⟩ := t10.ex
        rw [h1]; exact fun z => nomatch z
      · refine tw_cmp op_eq (ew_draw (m := 2) (cal_g_draw C c) hr (by decide) (ew_v 0 rfl ⟨rfl, rfl⟩) ev_int (by decide) (by decide) t (by have := (List.getElem?_eq_some_iff.mp hx).1; omega) fun z Hb hz fb tb => ew_pe pe_int ?_)
        exact ⟨rfl, _, rfl, ⟨f.trans fb, tb⟩, fb⟩
      · obtain ⟨ys, y1, y2⟩ := lsub
        refine ⟨ql, ys, rfl, .inl ⟨SqL.of y1, fun pt hpt => ?_⟩⟩
        have sm := same_new (o := .tup ys) hpt
        have x11 : (upd H11 pt (.tup ys)) qb = some (.lst xs) := sm _ _ (f11.same _ _ (by simp; exact hqbt) x1)
        have d11 : DpAll K (upd H11 pt (.tup ys)) xs (bags.map pns) := dpa_mono sm (dpa_tp f11.tp tup_maps x2)
        have rp : Dp K (upd H11 pt (.tup ys)) (.ref pt) (pns sub) := .tup (SqT.of upd_same) (dpa_mono sm y2)
        have t12 := t11.mono sm
        have f12 : Fr [c.t] H10 (upd H11 pt (.tup ys)) := f11.trans (Fr.of sm)
        generalize upd H11 pt (.tup ys) = H12 at x11 d11 rp t12 f12 ⊢
        have kb : SameB qb H12 (upd H12 qb (.lst (xs ++ [.ref pt]))) := sameB_upd
        have fB : Fr [qb] H12 (upd H12 qb (.lst (xs ++ [.ref pt]))) := Fr.ofB kb ⟨_, x11⟩ (by simp)
        have l1 := dpa_len d11
        rw [List.length_map] at l1
        have lo10 := ls_fr (ls_fr lo8 f9 (by simp; exact hqot) pns_tup) f10 (by simp; exact hne3) pns_tup
        have lo12 := ls_fr (ls_fr lo10 f12 (by simp; exact hqot) pns_tup) fB (by simp; exact hne2) pns_tup
        have hmap : ties.map tieD ++ [tieD (a, bags.length)] = (ties ++ [(a, bags.length)]).map tieD := by rw [List.map_append]; rfl
        rw [hmap] at lt10
        have lt12 := ls_fr (ls_fr lt10 f12 (by simp; exact hqtt) ties_tup) fB (by simp; exact Ne.symm hne1) ties_tup
        refine ⟨qb, xs, _, rfl, rfl, x11, by rw [l1]; exact Nat.lt_of_lt_of_le (by omega : bags.length < 100) (by decide), bw_nil ⟨bags ++ [sub], ties ++ [(a, bags.length)], _, _, _, rfl, (((fr8.trans (f9.mono (by simp))).trans (f10.mono (by simp))).trans (f12.mono (by simp))).trans (fB.mono (by simp)), (ta.new t12 fB nqb0).le (by omega), gr.more a sub ha hsub, fun b hb => ?_, lo12, ⟨_, upd_same, ?_⟩, lt12⟩⟩
        · rcases List.mem_append.mp hb with hb | hb
          · exact hrise b hb
          · rw [List.mem_singleton.mp hb]
            exact ⟨hbr.up.sublist hsub, fun x hx => hbr.lt x (hsub.subset hx)⟩
        · rw [List.map_append]
          exact dpa_app (dpa_tp fB.tp tup_maps d11) (.cons (dp_tp fB.tp tup_pns rp) .nil)
    · rintro σ' H'' ⟨bags, ties, o7, o8, o13, rfl, fr8, t8, gr, hrise, lo8, lb8, lt8⟩
      have hgl := gr.len
      have htie := gr.tie
      have hmi := hm
      -- behind the widening
      have after : ∀ (bags' : List (List Nat)) (o9 o10 : Option V) (N : Nat) H10, bags'.length = bags.length → Wide bags ties bags' → N < 700000 → N ≤ n + 200 → Fr [c.t, qb, qt] H H10 → TAt K c H10 N → Ls K H10 qb (bags'.map pns) → Ls K H10 qt (ties.map tieD) →
          BW (cx P w K mg base n_g_tree (Str.ofString "_law_gtree") (defScope s_g_tree) (He.ga K (Str.ofString "_law_gtree")) cdv A outer s H E) ((defBody s_g_tree).drop 6) { nx := fun _ H' => Q .non H', rt := Q } [some (.ref c.t), some vsh, some (.ref qo), some (.ref qb), some (.ref qt), o5, o6, o7, o8, o9, o10, none, none, o13] H10 := by
        intro bags' o9 o10 N H10 hbl' hw hN1 hN2 fr10 t10 lb10 lt10
        refine b_set 11 nd (ew_call (cal_g_order C c) hr (by decide) (aw_cons (ew_v 0 rfl (aw_one (Ev.go (d := pn bags.length) (Ev.to (ev_lenL C.m_len (ev_v 3 rfl lb10.dp)) (by rw [List.length_map, hbl'])) fun v11 H11 k11 r11 => ?_)))))
        rw [dp_int r11]
        refine ⟨N, bags.length, rfl, by omega, t10.mono k11, by omega, fun qr trn H12 nqr f12 t12 htrn lr => ?_⟩
        have hqrt : qr ≠ c.t := Ne.symm ((t10.mono k11).neF nqr)
        have lb12 := ls_fr (ls_mono lb10 k11) f12 (by simp; exact hqbt) tup_maps
        have lt12 := ls_fr (ls_mono lt10 k11) f12 (by simp; exact hqtt) ties_tup
        have htl : trn.length = bags.length := by rw [htrn.length_eq, List.length_range]
        have hmem : ∀ k, k < bags.length → k ∈ trn := fun k hk => htrn.mem_iff.mpr (List.mem_range.mpr hk)
        have hlt : ∀ k, k < bags.length → trn.getD k 0 < bags.length := fun k hk => List.mem_range.mp (htrn.mem_iff.mp (List.mem_of_getElem? (getD_len (by omega : k < trn.length))))
        have hix : ∀ k, k < bags.length → trn.idxOf k < bags'.length := fun k hk => by
          have := List.idxOf_lt_length_iff.mpr (hmem k hk)
          omega
        refine b_setv (d := bagsD ((List.range bags.length).map fun k => bags'.getD (trn.idxOf k) [])) 12 nd (Ev.to (ev_tupleL C.m_tuple (EvL.ev (evl_lc (lcv_R (n := bags.length) (fn := fun k => pns (bags'.getD (trn.idxOf k) [])) [("k", 5)] 5 rfl nd C.m_range (Ev.to (ev_lenL C.m_len (ev_v 3 rfl lb12.dp)) (by rw [List.length_map, hbl'])) (blkOk_by (N := n_g_tree) (sc := defScope s_g_tree) (by decide +kernel)) (by omega) (fun _ _ => tup_pns) fun a ha H13 k13 => ?_)))) (by unfold bagsD; rw [List.map_map]; rfl)) fun v13 H13 k13 r13 => ?_
        · intro s' H0 C' cl fp
          exact ev_ixL (ev_v 3 rfl (dp_mono k13 lb12.dp)) (ev_listIx (ev_v 11 rfl (dp_mono k13 lr.dp)) (hmem a ha) (ev_v 5 rfl (.int _))) (at_map (getD_bag (hix a ha)))
        · have lt13 := ls_mono lt12 k13
          have lr13 := ls_mono lr k13
          refine b_ret (ew_tup (aw_two (Ev.go (ev_v 12 rfl r13) fun v14 H14 k14 r14 => ew_callTy call_tuple_of C.m_tuple (by decide +kernel) (aw_one (ew_sortTies (ts := ties.map fun e => sp2 (trn.getD e.1 0) (trn.getD e.2 0)) C.m_sorted (EvL.ev (EvL.to (evl_lc (lcv_two (xs := ties) (enc := fun e => pn e.1) (enc2 := fun e => pn e.2) (f := fun e => tieD (sp2 (trn.getD e.1 0) (trn.getD e.2 0))) (c := fun _ => true) (β := Nat) [("i", 9), ("j", 10)] 9 10 rfl nd (pi_list pe_ew) (src_Lm (xs := ties) (enc := tieD) (ev_v 4 rfl (dp_mono k14 lt13.dp))) (blkOk_by (N := n_g_tree) (sc := defScope s_g_tree) (by decide +kernel)) (fun _ _ _ _ _ => g_two 9 10 rfl nd) pts0_blk (by omega) (fun _ _ _ => rfl) (fun a ha v u H15 k15 q1 q2 Q q => q H15 (Same.refl _)) (fun a ha v u H15 k15 q1 q2 hc => ?_))) (by rw [filter_true', List.map_map]; rfl))) (by rw [List.length_map]; omega) (fun t ht => ?_) fun qs H15 ts' nqs k15 hperm hpw ls => ?_)))))
          · intro s' H0 C' cl fp
            have h1 := htie a ha
            rw [dp_int q1, dp_int q2] at *
            refine Ev.to (ev_tupleL C.m_tuple (EvL.ev (evl_sortedT (ns := [trn.getD a.1 0, trn.getD a.2 0]) C.m_sorted (ev_tup (eva2 (ev_ixL (ev_v 11 rfl (dp_mono (k14.trans k15) lr13.dp)) (ev_v 9 rfl (.int _)) (at_map (getD_len (by omega)))) (ev_ixL (ev_v 11 rfl (dp_mono (k14.trans k15) lr13.dp)) (ev_v 10 rfl (.int _)) (at_map (getD_len (by omega)))))) (by simp)))) ?_
            rw [sort2]
            rfl
          · obtain ⟨e, he, rfl⟩ := List.mem_map.mp ht
            have h1 := htie e he
            have h2 := hlt e.1 (by omega)
            have h3 := hlt e.2 (by omega)
            unfold sp2
            constructor
            · show min _ _ < 100; omega
            · show max _ _ < 100; omega
          · obtain ⟨ys, y1, y2⟩ := ls
            refine ⟨qs, ys, rfl, .inl ⟨SqL.of y1, fun pt hpt => ⟨by show 2 ≤ sizeLine; decide, fun pu hpu => ?_⟩⟩⟩
            have sm1 := same_new (o := .tup ys) hpt
            have sm2 := same_new (o := .tup [v14, .ref pt]) hpu
            have frQ : Fr [c.t, qb, qt] H (upd (upd H15 pt (.tup ys)) pu (.tup [v14, .ref pt])) := (((((fr10.trans (Fr.of k11)).trans (f12.mono (by simp))).trans (Fr.of k13)).trans (Fr.of (k14.trans k15))).trans (Fr.of sm1)).trans (Fr.of sm2)
            refine q _ ((List.range bags.length).map (fun k => bags'.getD (trn.idxOf k) []), ts') _ ⟨fun b o hb ho => frQ.same b o (fun z => ?_) ho, frQ.tp⟩ (((((t12.mono k13).mono (k14.trans k15)).mono sm1).mono sm2).le (by omega)) ⟨ord, _, bags, ties, bags', trn, hord, by omega, gr, hw, htrn, rfl, hperm, hpw⟩ ?_
            · simp only [List.mem_cons, List.not_mem_nil, or_false] at z
              rcases z with z | z | z
              · exact hb (by simp [z])
              · rw [z, nqb0] at ho; cases ho
              · rw [z, nqt0] at ho; cases ho
            · refine .tup (SqT.of upd_same) (.cons (dp_mono (((k15.trans sm1).trans sm2)) r14) (.cons ?_ .nil))
              exact .tup (SqT.of (sm2 _ _ upd_same)) (dpa_mono (sm1.trans sm2) y2)
      refine b_if (tw_ww (ww_and (Tv.go (Tv.to (tv_neD (n := 2) hr (ev_v 4 rfl lt8.dp) (EvL.ev (evl_lst eva_nil)) fl_ties (fl_lst fun d hd => by cases hd)) (by rw [eqv_nil, List.isEmpty_map])) fun H9 k9 => ?_)))
      have hne : (!ties.isEmpty) = true := by
        cases ties with
        | nil => simp at hgl; omega
        | cons _ _ => rfl
      rw [hne]
      refine iteT (ww_and1 (tw_cmp op_eq (ew_draw (m := 2) (cal_g_draw C c) hr (by decide) (ew_v 0 rfl ⟨rfl, rfl⟩) ev_int (by decide) (by decide) (t8.mono k9) (by omega) fun z H10 hz f10 t10 => ew_pe pe_int ⟨rfl, decide (V.int (z : Int) = V.int 0), rfl, ?_⟩)))
      have lb10 := ls_fr (ls_mono lb8 k9) f10 (by simp; exact hqbt) tup_maps
      have lt10 := ls_fr (ls_mono lt8 k9) f10 (by simp; exact hqtt) ties_tup
      have fr10 : Fr [c.t, qb, qt] H H10 := (fr8.trans (Fr.of k9)).trans (f10.mono (by simp))
      cases hz0 : decide (V.int (z : Int) = V.int 0) with
      | false => exact iteF (bw_nil (after bags none none _ H10 rfl (.inl rfl) (by omega) (by omega) fr10 t10 lb10 lt10))
      | true =>
        refine iteT (b_asg (g_two 9 10 rfl nd) (ew_ix ix_list (ew_v 4 rfl (ew_draw (m := ties.length) (cal_g_draw C c) hr (by decide) (ew_v 0 rfl ⟨rfl, rfl⟩) (Ev.to (ev_lenL C.m_len (ev_v 4 rfl lt10.dp)) (by rw [List.length_map])) (by omega) (Nat.lt_of_le_of_lt (by omega : ties.length ≤ 100) (by decide)) t10 (by omega) fun r H11 hr11 f11 t11 => ?_))))
        have lb11 := ls_fr lb10 f11 (by simp; exact hqbt) tup_maps
        have lt11 := ls_fr lt10 f11 (by simp; exact hqtt) ties_tup
        obtain ⟨xs, x1, x2⟩ := id lt11
        have hte : ties[r]? = some (ties.getD r (0, 0)) := getD_tie hr11
        have hem := List.mem_of_getElem? hte
        generalize ties.getD r (0, 0) = e at hte hem
        obtain ⟨h1, h2⟩ := htie e hem
        obtain ⟨v, hv, rv⟩ := dpa_get (i := r) (d := tieD e) x2 (by rw [List.getElem?_map, hte]; rfl)
        refine ⟨qt, xs, r, v, rfl, rfl, SqL.of x1, at_nat hv, g2_go rv fun w1 w2 q1 q2 => ?_⟩
        rw [dp_int q1, dp_int q2]
        have g1 := getD_bag (bags := bags) (k := e.1) (by omega)
        have g2' := getD_bag (bags := bags) (k := e.2) h2
        have hr1 := (hrise _ (List.mem_of_getElem? g1)).nm.few
        have hr2 := (hrise _ (List.mem_of_getElem? g2')).nm.few
        refine b_setL (Ev.go (d := pns (sd (bags.getD e.1 [] ++ (bags.getD e.2 []).take 1))) (ev_tupleL C.m_tuple (EvL.ev (evl_sortedSet (ns := bags.getD e.1 [] ++ (bags.getD e.2 []).take 1) rfl C.m_sorted C.m_set (.inr (Ev.to (ev_catT (ev_ixL (ev_v 3 rfl lb11.dp) (ev_v 9 rfl (.int _)) (at_map g1)) (ev_takeT (k := 1) (ev_ixL (ev_v 3 rfl lb11.dp) (ev_v 10 rfl (.int _)) (at_map g2')) ev_int) (by rw [List.length_map, List.length_take, List.length_map]; omega)) (by unfold pns; rw [List.map_append, List.map_take]))) (by rw [List.length_append, List.length_take]; omega)))) fun v12 H12 k12 r12 => ew_v 3 rfl (ew_v 9 rfl ?_))
        obtain ⟨ys, y1, y2⟩ := ls_mono lb11 k12
        have hyl := dpa_len y2
        rw [List.length_map] at hyl
        refine ⟨qb, ys, e.1, e.1, rfl, rfl, y1, ixN_at (by omega), ?_⟩
        have kb : SameB qb H12 (upd H12 qb (.lst (ys.set e.1 v12))) := sameB_upd
        have fB : Fr [qb] H12 (upd H12 qb (.lst (ys.set e.1 v12))) := Fr.ofB kb ⟨_, y1⟩ (by simp)
        refine bw_nil (after (bags.set e.1 (sd (bags.getD e.1 [] ++ (bags.getD e.2 []).take 1))) _ _ _ _ (by rw [List.length_set]) (.inr ⟨e, hem, rfl⟩) (by omega) (by omega) (((fr10.trans (f11.mono (by simp))).trans (Fr.of k12)).trans (fB.mono (by simp))) (ta.new (t11.mono k12) fB nqb0) ⟨_, upd_same, dpa_tp fB.tp tup_maps (dpa_setN e.1 r12 y2)⟩ (ls_fr (ls_mono lt11 k12) fB (by simp; exact Ne.symm hne1) ties_tup))
end
end SO
set_option Elab.async false
set_option linter.all false
set_option maxRecDepth 100000
set_option maxHeartbeats 4000000
/-! So55: the model in the heap; begun, set. -/
namespace SO
open PySem PySem.Spec PyProof.Rows L2
structure Mc where
  m : Addr
  pm : Addr
  hm : Addr
  dm : Addr
  wd : Wd
  sz : List Nat
  t : TreeD
  vsz : V
  vtree : V
  M : List Addr
  B : Hp
structure MS where
  parts : List Part
  ws : List (Nat × Nat)
  done : List Chg
def dngD : Chg → D0
  | .part k ws => .tuple [.str "put", pn k, pis ws]
  | .name n u => .tuple [.str "name", pn n, optD u]
def mkv (c : Mc) : List (L2.Key × V) := [(Sum.inr "word", .str c.wd.str), (Sum.inr "sizes", c.vsz), (Sum.inr "parts", .ref c.pm), (Sum.inr "tree", c.vtree), (Sum.inr "held", .ref c.hm), (Sum.inr "done", .ref c.dm)]
structure MAt (K : PySem.W.Frag) (c : Mc) (H : Hp) (st : MS) : Prop where
  obj : H c.m = some (.dK (mkv c))
  parts : Ls K H c.pm (st.parts.map pp)
  held : H c.hm = some (.dK (wsV st.ws))
  done : Ls K H c.dm (st.done.map dngD)
  wl : Wl c.M c.B H
structure Mst (K : PySem.W.Frag) (c : Mc) : Prop where
  sz : Dp K (mask c.M c.B) c.vsz (pns c.sz)
  tree : Dp K (mask c.M c.B) c.vtree (treeD c.t)
  subP : c.pm ∈ c.M
  subH : c.hm ∈ c.M
  subD : c.dm ∈ c.M
  nePD : c.pm ≠ c.dm
  neHM : c.hm ≠ c.m
theorem dng_tup {g : Chg} : tupOnly (dngD g) = true := by
  cases g with
  | part k ws => simp [dngD, tupOnly, tupOnlyL, tup_pis]
  | name n u => cases u <;> rfl
theorem dng_tups {gs : List Chg} : tupOnlyL (gs.map dngD) = true := tupOnlyL_iff.mpr fun d hd => by
  obtain ⟨n, _, rfl⟩ := List.mem_map.mp hd
  exact dng_tup
def Mc.own (c : Mc) : List Addr := [c.pm, c.hm, c.dm]
section
variable {K : PySem.W.Frag} {c : Mc} {H H' : Hp} {st : MS}
theorem MAt.mono (h : MAt K c H st) (k : Same H H') : MAt K c H' st := ⟨k _ _ h.obj, ls_mono h.parts k, k _ _ h.held, ls_mono h.done k, fun b o n e => k _ _ (h.wl b o n e)⟩
theorem MAt.fr {D : List Addr} (h : MAt K c H st) (k : Fr D H H') (hd : ∀ d ∈ D, d ∉ c.own ∧ d ≠ c.m) (hm : ∀ d ∈ D, d ∈ c.M ∨ c.B d = none) : MAt K c H' st := by
  have n : ∀ d ∈ c.own, d ∉ D := fun d h1 h2 => (hd d h2).1 h1
  exact ⟨k.same _ _ (fun z => (hd _ z).2 rfl) h.obj, ls_fr h.parts k (n _ (by simp [Mc.own])) pp_tups, k.same _ _ (n _ (by simp [Mc.own])) h.held, ls_fr h.done k (n _ (by simp [Mc.own])) dng_tups, h.wl.fr k hm⟩
theorem Mst.dsz (s : Mst K c) (h : MAt K c H st) : Dp K H c.vsz (pns c.sz) := h.wl.dp s.sz
theorem Mst.dtree (s : Mst K c) (h : MAt K c H st) : Dp K H c.vtree (treeD c.t) := h.wl.dp s.tree
theorem MAt.putP (h : MAt K c H st) (S : Mst K c) {xs : List V} {ps : List Part} (hp : DpAll K H xs (ps.map pp)) : MAt K c (upd H c.pm (.lst xs)) { st with parts := ps } ∧ Fr [c.pm] H (upd H c.pm (.lst xs)) := by
  obtain ⟨xs0, h2⟩ := h.parts.some
  have n1 : c.pm ≠ c.m := ne_of h2 h.obj (fun z => nomatch z)
  have n2 : c.pm ≠ c.hm := ne_of h2 h.held (fun z => nomatch z)
  have f : Fr [c.pm] H (upd H c.pm (.lst xs)) := fr_one fun xs => not_rd h2 (fun z => nomatch z) fun ob z => nomatch z
  exact ⟨⟨by rw [upd_ne (Ne.symm n1)]; exact h.obj, ⟨xs, upd_same, dpa_tp f.tp pp_tups hp⟩, by rw [upd_ne (Ne.symm n2)]; exact h.held, ls_fr h.done f (by simp; exact Ne.symm S.nePD) dng_tups, h.wl.fr f fun d hd => .inl (by rw [List.mem_singleton.mp hd]; exact S.subP)⟩, f⟩
theorem MAt.putH (h : MAt K c H st) (S : Mst K c) (ws : List (Nat × Nat)) : MAt K c (upd H c.hm (.dK (wsV ws))) { st with ws := ws } ∧ Fr [c.hm] H (upd H c.hm (.dK (wsV ws))) := by
  obtain ⟨xs0, h2⟩ := h.parts.some
  obtain ⟨ys0, h3⟩ := h.done.some
  have n1 : c.hm ≠ c.pm := ne_of h.held h2 (fun z => nomatch z)
  have n2 : c.hm ≠ c.dm := ne_of h.held h3 (fun z => nomatch z)
  have f : Fr [c.hm] H (upd H c.hm (.dK (wsV ws))) := fr_one fun xs => not_rd h.held (fun z => nomatch z) fun ob z => nomatch z
  exact ⟨⟨by rw [upd_ne (Ne.symm S.neHM)]; exact h.obj, ls_fr h.parts f (by simp; exact Ne.symm n1) pp_tups, upd_same, ls_fr h.done f (by simp; exact Ne.symm n2) dng_tups, h.wl.fr f fun d hd => .inl (by rw [List.mem_singleton.mp hd]; exact S.subH)⟩, f⟩
theorem MAt.putD (h : MAt K c H st) (S : Mst K c) {xs : List V} {cs : List Chg} (hp : DpAll K H xs (cs.map dngD)) : MAt K c (upd H c.dm (.lst xs)) { st with done := cs } ∧ Fr [c.dm] H (upd H c.dm (.lst xs)) := by
  obtain ⟨xs0, h2⟩ := h.done.some
  have n1 : c.dm ≠ c.m := ne_of h2 h.obj (fun z => nomatch z)
  have n2 : c.dm ≠ c.hm := ne_of h2 h.held (fun z => nomatch z)
  have f : Fr [c.dm] H (upd H c.dm (.lst xs)) := fr_one fun xs => not_rd h2 (fun z => nomatch z) fun ob z => nomatch z
  exact ⟨⟨by rw [upd_ne (Ne.symm n1)]; exact h.obj, ls_fr h.parts f (by simp; exact S.nePD) pp_tups, by rw [upd_ne (Ne.symm n2)]; exact h.held, ⟨xs, upd_same, dpa_tp f.tp dng_tups hp⟩, h.wl.fr f fun d hd => .inl (by rw [List.mem_singleton.mp hd]; exact S.subD)⟩, f⟩
end
section
variable {X : Cx} {σ : L2.St} {H : Hp} {pos px p : Pos} {x : Str} {d : D0} {c : Mc} {st : MS} {k : Nat}
/-- model["key"], the model in a name -/
theorem er_mk (n : Nat) {key : Str} {v : V} {jj} (hr : Room k X.A) (hs : σ[n]? = some (some (.ref c.m))) (h : H c.m = some (.dK (mkv c))) (hv0 : valV (mkv c) (Sum.inr key) = some v) (hN : X.N[n]? = some x := by rfl) (hv : Vis X.env.scope x := by first | exact Or.inl rfl | exact Or.inr (Or.inl rfl) | exact Or.inr (Or.inr rfl)) (hdb : (x == ("__debug__" : Str)) = false := by decide)
    (hcd : (x == ("__classdict__" : Str)) = false := by decide) (hsl : NoSl (.Constant (.str key) jj p) := by exact fun _ _ => rfl) : Er X (.Subscript (.Name x px) (.Constant (.str key) jj p) pos) σ H v := fun H1 k1 =>
  ew_pe (pe_dget (room_in hr) pe_ew pe_ew hsl) (show EW X (.Name x px) σ H1 _ from ew_v n hs (show EW X _ σ H1 _ from ew_pe pe_str (by
    have := DGet.k (k := Sum.inr key) (k1 _ _ h)
    rw [hv0] at this
    exact ⟨c.m, v, rfl, this, Same.refl _, rfl⟩)) hN hv hdb hcd)
end
end SO
set_option Elab.async false
set_option linter.all false
set_option maxRecDepth 100000
set_option maxHeartbeats 4000000
/-! So56: begun, set. -/
namespace SO
open PySem PySem.Spec PyProof.Rows L2
def spBegun (K : PySem.W.Frag) (M0 : List Addr) : Sp := fun vs H Q _ => ∃ (wd : Wd) (sz : List Nat) (ps : List Part) (t : TreeD) (vsh vtr : V), vs = [.str wd.str, vsh, vtr] ∧ (∀ m ∈ M0, H m ≠ none) ∧ Dp K (mask M0 H) vsh (sheetD sz ps) ∧ Dp K (mask M0 H) vtr (treeD t) ∧
  ∀ H' (c : Mc), c.wd = wd → c.sz = sz → c.t = t → c.M = c.own ++ M0 → c.B = H' → Mst K c → MAt K c H' ⟨ps, [], []⟩ → Same H H' → (∀ d ∈ c.m :: c.own, H d = none) → Q (.ref c.m) H'
section
variable {P : Program} {w : World} {K : PySem.W.Frag} {mg : Str → Option Value} {base : Heap}
theorem cal_g_begun (C : Ctx K mg) (M0 : List Addr) : C8.Cal P w K mg base 1 "_law_gbegun" (spBegun K M0) [] := by
  refine cal_of (k := 0) C.h_g_begun c_g_begun (fun vs H Q E ⟨_, _, _, _, _, _, h, _⟩ => by rw [h]; rfl) fun cdv A outer s H vs Q E hr ⟨wd, sz, ps, t, vsh, vtr, e, hM0, rsh, rtr, q⟩ => ?_
  subst e
  obtain ⟨sa, xs1, rfl, sq1, dl1⟩ := dp_tup rsh
  obtain ⟨vsz, vps, rfl, rsz, rps⟩ := dpa2 dl1
  have see : ∀ {Hk : Hp}, Same H Hk → Same (mask M0 H) Hk := fun {Hk} k b o hb => by
    unfold mask at hb
    split at hb
    · cases hb
    · exact k b o hb
  refine b_ret (ew_pe (pe_disp (pps_cons pe_ew pe_ew (pps_cons pe_ew pe_ew (pps_cons pe_ew pe_ew (pps_cons pe_ew pe_ew (pps_cons pe_ew pe_ew (pps_cons pe_ew pe_ew pps_nil)))))) rfl rfl (by simp) (by decide)) (fun p hp => ?_))
  have k0 := same_new (o := .dK []) hp
  have hp0 : (upd H p (.dK [])) p = some (.dK []) := upd_same
  generalize upd H p (.dK []) = H0 at k0 hp0 ⊢
  refine ew_pe pe_str (ew_v 0 rfl (ew_pe pe_str (Er.go (er_ixT (i := 0) (er_v 1 rfl) (sqT_mono (see k0) sq1) ev_int rfl) fun H1 k1 => ew_pe pe_str (EvL.go (evl_listT C.m_list (ev_ixT (i := 1) (ev_v 1 rfl (dp_mono (see (k0.trans k1)) rsh)) ev_int (at_nat (n := 1) rfl))) fun pm H2 npm k2 lpm => ew_pe pe_str (ew_v 2 rfl (ew_pe pe_str (ew_pe pe_dnewK fun hm nhm => ew_pe pe_str (EvL.go (evl_lst eva_nil) fun dm H3 ndm k3 ldm => ?_))))))))
  have kh := same_new (o := .dK []) nhm
  have hh3 : H3 hm = some (.dK []) := k3 _ _ upd_same
  have k02 := k0.trans (k1.trans k2)
  have k23 : Same H2 H3 := kh.trans k3
  have k03 := k02.trans k23
  have pmx : ∃ ys, H2 pm = some (.lst ys) := lpm.some
  have pp0 : H2 p = some (.dK []) := k2 _ _ (k1 _ _ hp0)
  have nehp : hm ≠ p := fun z => by rw [z, pp0] at nhm; cases nhm
  have nepp : pm ≠ p := fun z => by
    rw [z, k1 _ _ hp0] at npm; cases npm
  have nedp : dm ≠ p := fun z => by rw [z, kh _ _ pp0] at ndm; cases ndm
  have nepd : pm ≠ dm := fun z => by
    obtain ⟨ys, h⟩ := pmx
    rw [← z, kh _ _ h] at ndm; cases ndm
  have nephm : pm ≠ hm := fun z => by
    obtain ⟨ys, h⟩ := pmx
    rw [← z, h] at nhm; cases nhm
  let c : Mc := { m := p, pm := pm, hm := hm, dm := dm, wd := wd, sz := sz, t := t, vsz := vsz, vtree := vtr, M := [pm, hm, dm] ++ M0, B := upd H3 p (.dK (mkv { m := p, pm := pm, hm := hm, dm := dm, wd := wd, sz := sz, t := t, vsz := vsz, vtree := vtr, M := [], B := H })) }
  refine ⟨k23 _ _ pp0, mkv c, rfl, by show 6 ≤ 15; decide, ?_⟩
  have em : mergeK [] (mkv c) = mkv c := by rfl
  rw [em]
  have npH : H pm = none := none_back (k0.trans k1) npm
  have nhH : H hm = none := none_back k02 nhm
  have ndH : H dm = none := none_back (k02.trans kh) ndm
  have kE : Same H (upd H3 p (.dK (mkv c))) := fun b o hb => by
    rw [upd_ne (fun z => by rw [z, hp] at hb; cases hb)]
    exact k03 _ _ hb
  have old : ∀ v d, Dp K (mask M0 H) v d → Dp K (mask c.M c.B) v d := fun v d r => dp_mono (mask_mono fun b o hb ho => ⟨fun z => by
    rcases List.mem_append.mp z with z | z
    · simp only [List.mem_cons, List.not_mem_nil, or_false] at z
      rcases z with z | z | z
      · rw [z, npH] at ho; cases ho
      · rw [z, nhH] at ho; cases ho
      · rw [z, ndH] at ho; cases ho
    · exact hb z, kE _ _ ho⟩) r
  have fp : ∀ b o, b ≠ p → H3 b = some o → (upd H3 p (.dK (mkv c))) b = some o := fun b o hb h => by rw [upd_ne hb]; exact h
  have f3 : Fr [p] H3 (upd H3 p (.dK (mkv c))) := fr_one fun xs => not_rd (k23 _ _ pp0) (fun z => nomatch z) fun ob z => nomatch z
  refine q _ c rfl rfl rfl rfl rfl ⟨old _ _ rsz, old _ _ rtr, by simp [c], by simp [c], by simp [c], nepd, nehp⟩ ⟨upd_same, ls_fr (ls_mono lpm k23) f3 (by simp; exact nepp) pp_tups, fp _ _ nehp hh3, ls_fr ldm f3 (by simp; exact nedp) rfl, fun b o _ h => h⟩ kE fun d hd => ?_
  simp only [Mc.own, c, List.mem_cons, List.not_mem_nil, or_false] at hd
  rcases hd with z | z | z | z
  · rw [z]; exact hp
  · rw [z]; exact npH
  · rw [z]; exact nhH
  · rw [z]; exact ndH
def tagOf : Chg → Str
  | .part _ _ => "put"
  | .name _ _ => "name"
def numOf : Chg → Nat
  | .part k _ => k
  | .name n _ => n
def valOf : Chg → D0
  | .part _ ws => pis ws
  | .name _ u => optD u
def setM (st : MS) : Chg → MS
  | .part k ws => { st with parts := setP st.parts k ws }
  | .name n u => { st with ws := setW st.ws n u }
def smOk (st : MS) : Chg → Prop
  | .part k _ => k < st.parts.length
  | .name n u => (u = none → (held st.ws n).isSome = true) ∧ st.ws.length ≤ 1000
def spSet (K : PySem.W.Frag) (c : Mc) : Sp := fun vs H Q _ => ∃ st g vw, vs = [.ref c.m, .str (tagOf g), .int ((numOf g : Nat) : Int), vw] ∧ Dp K H vw (valOf g) ∧ MAt K c H st ∧ smOk st g ∧ ∀ H', Fr [c.pm, c.hm] H H' → MAt K c H' (setM st g) → Q .non H'
theorem cal_g_set (C : Ctx K mg) (c : Mc) (S : Mst K c) : C8.Cal P w K mg base 1 "_law_gset" (spSet K c) [] := by
  refine cal_of (k := 0) C.h_g_set c_g_set (fun vs H Q E ⟨_, _, _, h, _⟩ => by rw [h]; rfl) fun cdv A outer s H vs Q E hr ⟨st, g, vw, e, rw', ma, ok, q⟩ => ?_
  subst e
  have nd := c_g_set.nd
  cases g with
  | part k ws =>
    have hk : k < st.parts.length := ok
    refine b_ifv (b := true) (Tv.to (tv_eqS (ev_v 1 rfl (.str _)) ev_str) (show decide (("put" : Str) = "put") = true by decide)) (fun _ H1 k1 => ?_) (fun z => by cases z)
    have ma1 := ma.mono k1
    refine b_setL (Ev.go (d := pp ((st.parts.getD k ([], [])).1, ws)) (Ev.to (ev_tup (eva2 (ev_ixT (ev_ixL (er_ev (er_mk 0 hr rfl ma1.obj rfl) ma1.parts.dp) (ev_v 2 rfl (.int _)) (at_map (getD_part hk))) ev_int (at_nat (n := 0) rfl)) (ev_v 3 rfl (dp_mono k1 rw')))) rfl) fun v H2 k2 r2 => Er.go (er_mk 0 hr rfl (ma1.mono k2).obj rfl) fun H3 k3 => ew_v 2 rfl ?_)
    have ma3 := (ma1.mono k2).mono k3
    obtain ⟨xs, h1, h2⟩ := ma3.parts
    have hxl := dpa_len h2
    rw [List.length_map] at hxl
    refine ⟨c.pm, xs, k, k, rfl, rfl, h1, ixN_at (by omega), ?_⟩
    have hset : DpAll K H3 (xs.set k v) ((setP st.parts k ws).map pp) := by
      unfold setP
      rw [List.map_set]
      exact dpa_set (dp_mono k3 r2) k h2
    obtain ⟨ma4, f4⟩ := ma3.putP S hset
    exact bw_nil (bw_nil (q _ ((Fr.of ((k1.trans k2).trans k3)).trans (f4.mono (by simp))) ma4))
  | name n u =>
    obtain ⟨hu, hw⟩ := ok
    refine b_ifv (b := false) (Tv.to (tv_eqS (ev_v 1 rfl (.str _)) ev_str) (show decide (("name" : Str) = "put") = false by decide)) (fun z => by cases z) (fun _ H1 k1 => ?_)
    have ma1 := ma.mono k1
    refine b_ifv (b := u.isNone) (tv_isN (ev_v 3 rfl (dp_mono k1 rw'))) (fun hb1 H2 k2 => ?_) (fun hb1 H2 k2 => ?_)
    · have hun : u = none := by cases u with
        | none => rfl
        | some x => cases hb1
      subst hun
      obtain ⟨v0, hv0⟩ := Option.isSome_iff_exists.mp (hu rfl)
      have ma2 := ma1.mono k2
      refine b_expr (ew_pe (pe_dpop1 pe_ew pe_ew ⟨rfl, rfl, rfl, rfl⟩) (show EW _ _ _ _ _ from Er.go (er_mk 0 hr rfl ma2.obj rfl) fun H3 k3 => ⟨c.hm, rfl, .inl ⟨_, .inl (ma2.mono k3).held⟩, ew_v 2 rfl ⟨wsV st.ws, Sum.inl (n : Int), .int (v0 : Int), (ma2.mono k3).held, rfl, ?_, ?_⟩⟩))
      · rw [wsV_val, show st.ws.lookup n = some v0 from hv0]; rfl
      · rw [wsV_drop]
        obtain ⟨ma4, f4⟩ := (ma2.mono k3).putH S (dropW st.ws n)
        exact bw_nil (bw_nil (bw_nil (q _ ((Fr.of ((k1.trans k2).trans k3)).trans (f4.mono (by simp))) ma4)))
    · cases u with
      | none => cases hb1
      | some u =>
        have ma2 := ma1.mono k2
        refine b_dput hr (Ev.go (ev_v 3 rfl (dp_mono (k1.trans k2) rw')) fun v H3 k3 r3 => Er.go (er_mk 0 hr rfl (ma2.mono k3).obj rfl) fun H4 k4 => ew_v 2 rfl ⟨c.hm, _, rfl, DPut.k (k := Sum.inl (n : Int)) ((ma2.mono k3).mono k4).held (by unfold wsV; rw [List.length_map]; exact Nat.lt_of_le_of_lt hw (by decide)), ?_⟩)
        rw [dp_int r3, wsV_put]
        obtain ⟨ma5, f5⟩ := ((ma2.mono k3).mono k4).putH S (putW st.ws n u)
        exact bw_nil (bw_nil (bw_nil (q _ ((Fr.of (((k1.trans k2).trans k3).trans k4)).trans (f5.mono (by simp))) ma5)))
end
end SO
set_option Elab.async false
set_option linter.all false
set_option maxRecDepth 100000
set_option maxHeartbeats 4000000
/-! So57: deeds, do. -/
namespace SO
open PySem PySem.Spec PyProof.Rows L2
inductive Deed | put (k : Nat) (ws : List Int) | settle (n u : Nat) | free (n : Nat) | back
def deedD : Deed → D0
  | .put k ws => .tuple [.str "put", pn k, pis ws]
  | .settle n u => .tuple [.str "settle", pn n, pn u]
  | .free n => .tuple [.str "free", pn n]
  | .back => .tuple [.str "back"]
theorem deed_tup {d : Deed} : tupOnly (deedD d) = true := by
  cases d <;> simp [deedD, tupOnly, tupOnlyL, tup_pis]
/-- the change that is noted before a deed -/
def note (st : MS) : Chg → MS := fun g => { st with done := st.done ++ [g] }
def doM (st : MS) : Deed → MS
  | .put k ws => setM (note st (.part k (st.parts.getD k ([], [])).2)) (.part k ws)
  | .settle n u => setM (note st (.name n (held st.ws n))) (.name n (some u))
  | .free n => setM (note st (.name n (held st.ws n))) (.name n none)
  | .back => match st.done.getLast? with
    | none => st
    | some g => setM { st with done := st.done.dropLast } g
def doOk (st : MS) : Deed → Prop
  | .put k _ => k < st.parts.length
  | .settle _ _ => True
  | .free n => (held st.ws n).isSome = true
  | .back => ∃ cs g, st.done = cs ++ [g] ∧ smOk { st with done := cs } g
def spDo (K : PySem.W.Frag) (c : Mc) : Sp := fun vs H Q _ => ∃ st d vd, vs = [.ref c.m, vd] ∧ Dp K H vd (deedD d) ∧ MAt K c H st ∧ doOk st d ∧ st.ws.length ≤ 1000 ∧ st.done.length ≤ 1000 ∧ ∀ H', Fr c.own H H' → MAt K c H' (doM st d) → Q .non H'
theorem mown {c : Mc} {D : List Addr} {H H' : Hp} (h : Fr D H H') (k : ∀ d ∈ D, d = c.pm ∨ d = c.hm ∨ d = c.dm) : Fr c.own H H' := h.mono fun d hd => by
  have := k d hd
  simp only [Mc.own, List.mem_cons, List.not_mem_nil, or_false]
  exact this
section
variable {P : Program} {w : World} {K : PySem.W.Frag} {mg : Str → Option Value} {base : Heap}
theorem cal_g_do (C : Ctx K mg) (c : Mc) (S : Mst K c) : C8.Cal P w K mg base 2 "_law_gdo" (spDo K c) [] := by
  refine cal_of (k := 1) C.h_g_do c_g_do (fun vs H Q E ⟨_, _, _, h, _⟩ => by rw [h]; rfl) fun cdv A outer s H vs Q E hr ⟨st, d, vd, e, rd, ma, ok, hw, hdl, q⟩ => ?_
  subst e
  have nd := c_g_do.nd
  cases d with
  | back =>
    obtain ⟨cs, g, hc, hg⟩ := ok
    have hdo : doM st .back = setM { st with done := cs } g := by
      unfold doM
      rw [hc, List.getLast?_concat, List.dropLast_concat]
    rw [hdo] at q
    refine b_ifv (b := true) (Tv.to (tv_eqS (z := "back") (ev_ixT (ev_v 1 rfl rd) ev_int (at_nat (n := 0) rfl)) ev_str) (by decide)) (fun _ H1 k1 => ?_) (fun z => by cases z)
    have ma1 := ma.mono k1
    refine b_asg (g_three 2 3 4 rfl nd) (ew_m0 (id := "list.pop") tyL_ok PySem.F.plainAttrs_list PySem.F.slot_list_pop mt_pop (Er.go (er_mk 0 hr rfl ma1.obj rfl) fun H2 k2 => ?_))
    have ma2 := ma1.mono k2
    obtain ⟨xs, hx, hd⟩ := ma2.done
    rw [hc, List.map_append] at hd
    have hlx := dpa_len hd
    obtain ⟨y, hy, ry⟩ := dpa_get (i := cs.length) (d := dngD g) hd (by rw [List.getElem?_append_right (by rw [List.length_map]; exact Nat.le_refl _), List.length_map, Nat.sub_self]; rfl)
    rw [List.length_append, List.length_map] at hlx
    simp only [List.map_cons, List.map_nil, List.length_singleton] at hlx
    have hdl2 : DpAll K H2 xs.dropLast (cs.map dngD) := by
      have := dpa_dropLast hd
      rwa [show [g].map dngD = [dngD g] from rfl, List.dropLast_concat] at this
    obtain ⟨ma3, f3⟩ := ma2.putD S hdl2
    refine ⟨⟨c.dm, xs, rfl, hx⟩, c.dm, xs, y, rfl, rfl, hx, by rw [hlx, Nat.add_sub_cancel]; exact hy, ?_⟩
    have ry2 : Dp K (upd H2 c.dm (.lst xs.dropLast)) y (.tuple [.str (tagOf g), pn (numOf g), valOf g]) := by
      have := dp_tp f3.tp dng_tup ry
      cases g <;> exact this
    generalize upd H2 c.dm (.lst xs.dropLast) = H3 at ma3 f3 ry2 ⊢
    refine g3_go ry2 fun w1 w2 w3 q1 q2 q3 => ?_
    rw [dp_str q1, dp_int q2]
    refine b_expr (ew_call (cal_g_set C c S) hr (by decide) (aw_cons (ew_v 0 rfl (aw_cons (ew_v 2 rfl (aw_cons (ew_v 3 rfl (aw_one (ew_v 4 rfl ⟨_, g, w3, rfl, q3, ma3, hg, fun H4 f4 ma4 => bw_nil (bw_nil (q H4 ?_ ma4))⟩)))))))))
    exact ((Fr.of (k1.trans k2)).trans (mown f3 (by simp))).trans (mown f4 (by simp))
  | put k ws =>
    have hk : k < st.parts.length := ok
    have hpk := getD_part hk
    refine b_ifv (b := false) (Tv.to (tv_eqS (z := "put") (ev_ixT (ev_v 1 rfl rd) ev_int (at_nat (n := 0) rfl)) ev_str) (by decide)) (fun z => by cases z) (fun _ H1 k1 => ?_)
    refine b_ifv (b := true) (Tv.to (tv_eqS (z := "put") (ev_ixT (ev_v 1 rfl (dp_mono k1 rd)) ev_int (at_nat (n := 0) rfl)) ev_str) (by decide)) (fun _ H2 k2 => ?_) (fun z => by cases z)
    have ma2 := (ma.mono k1).mono k2
    have rd2 := dp_mono (k1.trans k2) rd
    refine b_appendE (d := dngD (.part k (st.parts.getD k ([], [])).2)) (er_mk 0 hr rfl ma2.obj rfl) ma2.done (Ev.to (ev_tup (eva3 ev_str (ev_ixT (ev_v 1 rfl rd2) ev_int (at_nat (n := 1) rfl)) (ev_ixT (ev_ixL (er_ev (er_mk 0 hr rfl ma2.obj rfl) ma2.parts.dp) (ev_ixT (ev_v 1 rfl rd2) ev_int (at_nat (n := 1) rfl)) (at_map hpk)) ev_int (at_nat (n := 1) rfl)))) rfl) (by rw [List.length_map]; omega) fun H4 xs k4 hx _ v _ _ rv hd => ?_
    obtain ⟨ma5, f5⟩ := (ma2.mono k4).putD S (xs := xs ++ [v]) (cs := st.done ++ [.part k (st.parts.getD k ([], [])).2]) (by rw [List.map_append]; exact dpa_app hd (.cons rv .nil))
    have rd5 := dp_tp f5.tp deed_tup (dp_mono k4 rd2)
    generalize upd H4 c.dm (.lst (xs ++ [v])) = H5 at ma5 f5 rd5 ⊢
    refine b_expr (ew_call (cal_g_set C c S) hr (by decide) (aw_cons (ew_v 0 rfl (aw_cons (ew_pe pe_str (aw_cons (Ev.go (ev_ixT (d := pn k) (ev_v 1 rfl rd5) ev_int (at_nat (n := 1) rfl)) fun u6 H6 k6 r6 => aw_one (Ev.go (ev_ixT (d := pis ws) (ev_v 1 rfl (dp_mono k6 rd5)) ev_int (at_nat (n := 2) rfl)) fun u7 H7 k7 r7 => ?_))))))))
    rw [dp_int r6]
    refine ⟨_, .part k ws, u7, rfl, r7, (ma5.mono k6).mono k7, hk, fun H8 f8 ma8 => bw_nil (bw_nil (bw_nil (q H8 ?_ ma8)))⟩
    exact ((((Fr.of ((k1.trans k2).trans k4)).trans (mown f5 (by simp))).trans (Fr.of (k6.trans k7)))).trans (mown f8 (by simp))
  | settle n u =>
    refine b_ifv (b := false) (Tv.to (tv_eqS (z := "settle") (ev_ixT (ev_v 1 rfl rd) ev_int (at_nat (n := 0) rfl)) ev_str) (by decide)) (fun z => by cases z) (fun _ H1 k1 => ?_)
    refine b_ifv (b := false) (Tv.to (tv_eqS (z := "settle") (ev_ixT (ev_v 1 rfl (dp_mono k1 rd)) ev_int (at_nat (n := 0) rfl)) ev_str) (by decide)) (fun z => by cases z) (fun _ H2 k2 => ?_)
    have ma2 := (ma.mono k1).mono k2
    have rd2 := dp_mono (k1.trans k2) rd
    refine b_appendE (d := dngD (.name n (held st.ws n))) (er_mk 0 hr rfl ma2.obj rfl) ma2.done (Ev.to (d1 := .tuple [.str "name", pn n, optD (held st.ws n)]) (ev_tup (eva3 ev_str (ev_ixT (ev_v 1 rfl rd2) ev_int (at_nat (n := 1) rfl)) fun H3 k3 => ew_pe (pe_dget2 (room_in hr) pe_ew pe_ew pe_ew ⟨rfl, rfl, rfl, rfl⟩) (show EW _ _ _ _ _ from Er.go (er_mk 0 hr rfl (ma2.mono k3).obj rfl) fun H4 k4 => ⟨c.hm, rfl, .inl ⟨_, .inl ((ma2.mono k3).mono k4).held⟩, Ev.go (d := pn n) (ev_ixT (ev_v 1 rfl (dp_mono (k3.trans k4) rd2)) ev_int (at_nat (n := 1) rfl)) fun u5 H5 k5 r5 => ew_pe pe_non ⟨valV (wsV st.ws) (Sum.inl (n : Int)), by rw [dp_int r5]; exact DGet.k (k := Sum.inl (n : Int)) (((ma2.mono k3).mono k4).mono k5).held, k4.trans k5, ?_⟩⟩))) rfl) (by rw [List.length_map]; omega) fun H4 xs k4 hx _ v _ _ rv hd => ?_
    · rw [wsV_val]
      unfold held
      cases st.ws.lookup n with
      | none => exact .non
      | some x => exact .int _
    · obtain ⟨ma5, f5⟩ := (ma2.mono k4).putD S (xs := xs ++ [v]) (cs := st.done ++ [.name n (held st.ws n)]) (by rw [List.map_append]; exact dpa_app hd (.cons rv .nil))
      have rd5 := dp_tp f5.tp deed_tup (dp_mono k4 rd2)
      generalize upd H4 c.dm (.lst (xs ++ [v])) = H5 at ma5 f5 rd5 ⊢
      refine b_expr (ew_call (cal_g_set C c S) hr (by decide) (aw_cons (ew_v 0 rfl (aw_cons (ew_pe pe_str (aw_cons (Ev.go (ev_ixT (d := pn n) (ev_v 1 rfl rd5) ev_int (at_nat (n := 1) rfl)) fun u6 H6 k6 r6 => aw_one (Ev.go (d := optD (some u)) (ev_if (x := true) (Tv.to (tv_eqS (z := "settle") (ev_ixT (ev_v 1 rfl (dp_mono k6 rd5)) ev_int (at_nat (n := 0) rfl)) ev_str) (by decide)) (fun _ => ev_ixT (ev_v 1 rfl (dp_mono k6 rd5)) ev_int (at_nat (n := 2) rfl)) (fun z => by cases z)) fun u7 H7 k7 r7 => ?_))))))))
      rw [dp_int r6]
      refine ⟨_, .name n (some u), u7, rfl, r7, (ma5.mono k6).mono k7, ⟨fun z => (by cases z), hw⟩, fun H8 f8 ma8 => bw_nil (bw_nil (bw_nil (q H8 ?_ ma8)))⟩
      exact ((((Fr.of ((k1.trans k2).trans k4)).trans (mown f5 (by simp))).trans (Fr.of (k6.trans k7)))).trans (mown f8 (by simp))
  | free n =>
    have hs : (held st.ws n).isSome = true := ok
    refine b_ifv (b := false) (Tv.to (tv_eqS (z := "free") (ev_ixT (ev_v 1 rfl rd) ev_int (at_nat (n := 0) rfl)) ev_str) (by decide)) (fun z => by cases z) (fun _ H1 k1 => ?_)
    refine b_ifv (b := false) (Tv.to (tv_eqS (z := "free") (ev_ixT (ev_v 1 rfl (dp_mono k1 rd)) ev_int (at_nat (n := 0) rfl)) ev_str) (by decide)) (fun z => by cases z) (fun _ H2 k2 => ?_)
    have ma2 := (ma.mono k1).mono k2
    have rd2 := dp_mono (k1.trans k2) rd
    refine b_appendE (d := dngD (.name n (held st.ws n))) (er_mk 0 hr rfl ma2.obj rfl) ma2.done (Ev.to (d1 := .tuple [.str "name", pn n, optD (held st.ws n)]) (ev_tup (eva3 ev_str (ev_ixT (ev_v 1 rfl rd2) ev_int (at_nat (n := 1) rfl)) fun H3 k3 => ew_pe (pe_dget2 (room_in hr) pe_ew pe_ew pe_ew ⟨rfl, rfl, rfl, rfl⟩) (show EW _ _ _ _ _ from Er.go (er_mk 0 hr rfl (ma2.mono k3).obj rfl) fun H4 k4 => ⟨c.hm, rfl, .inl ⟨_, .inl ((ma2.mono k3).mono k4).held⟩, Ev.go (d := pn n) (ev_ixT (ev_v 1 rfl (dp_mono (k3.trans k4) rd2)) ev_int (at_nat (n := 1) rfl)) fun u5 H5 k5 r5 => ew_pe pe_non ⟨valV (wsV st.ws) (Sum.inl (n : Int)), by rw [dp_int r5]; exact DGet.k (k := Sum.inl (n : Int)) (((ma2.mono k3).mono k4).mono k5).held, k4.trans k5, ?_⟩⟩))) rfl) (by rw [List.length_map]; omega) fun H4 xs k4 hx _ v _ _ rv hd => ?_
    · rw [wsV_val]
      unfold held
      cases st.ws.lookup n with
      | none => exact .non
      | some x => exact .int _
    · obtain ⟨ma5, f5⟩ := (ma2.mono k4).putD S (xs := xs ++ [v]) (cs := st.done ++ [.name n (held st.ws n)]) (by rw [List.map_append]; exact dpa_app hd (.cons rv .nil))
      have rd5 := dp_tp f5.tp deed_tup (dp_mono k4 rd2)
      generalize upd H4 c.dm (.lst (xs ++ [v])) = H5 at ma5 f5 rd5 ⊢
      refine b_expr (ew_call (cal_g_set C c S) hr (by decide) (aw_cons (ew_v 0 rfl (aw_cons (ew_pe pe_str (aw_cons (Ev.go (ev_ixT (d := pn n) (ev_v 1 rfl rd5) ev_int (at_nat (n := 1) rfl)) fun u6 H6 k6 r6 => aw_one (Ev.go (d := optD none) (ev_if (x := false) (Tv.to (tv_eqS (z := "free") (ev_ixT (ev_v 1 rfl (dp_mono k6 rd5)) ev_int (at_nat (n := 0) rfl)) ev_str) (by decide)) (fun z => by cases z) (fun _ => ev_non)) fun u7 H7 k7 r7 => ?_))))))))
      rw [dp_int r6]
      refine ⟨_, .name n none, u7, rfl, r7, (ma5.mono k6).mono k7, ⟨fun _ => hs, hw⟩, fun H8 f8 ma8 => bw_nil (bw_nil (bw_nil (q H8 ?_ ma8)))⟩
      exact ((((Fr.of ((k1.trans k2).trans k4)).trans (mown f5 (by simp))).trans (Fr.of (k6.trans k7)))).trans (mown f8 (by simp))
end
end SO
set_option Elab.async false
set_option linter.all false
set_option maxRecDepth 100000
set_option maxHeartbeats 4000000
/-! So58: say. -/
namespace SO
open PySem PySem.Spec PyProof.Rows L2
def doS (c : Kc) (st : KS) : Deed → KS
  | .put k ws => putS c st k ws
  | .settle n u => settleS c st n u
  | .free n => freeS c st n
  | .back => match st.changes.getLast? with
    | none => st
    | some g => backS c st st.changes.dropLast g
def sayOk (c : Kc) (st : KS) : Deed → Prop
  | .put k ws => k < st.parts.length ∧ PartOk c.sz ((st.parts.getD k ([], [])).1, ws) ∧ small12 ws ∧ anyOk c.wd ws
  | .settle n u => n < c.sz.length ∧ u < c.sz.getD n 0
  | .free n => n < c.sz.length ∧ (held st.ws n).isSome = true
  | .back => ∃ cs g, st.changes = cs ++ [g] ∧ bkOk st g
def spSay (K : PySem.W.Frag) (c : Kc) : Sp := fun vs H Q _ => ∃ st d vd, vs = [.ref c.a, vd] ∧ Dp K H vd (deedD d) ∧ KAt K c H st ∧ MOk c st ∧ sayOk c st d ∧ ∀ H', Fr c.own H H' → KAt K c H' (doS c st d) → Q .non H'
section
variable {P : Program} {w : World} {K : PySem.W.Frag} {mg : Str → Option Value} {base : Heap}
theorem cal_g_say (C : Ctx K mg) (c : Kc) (S : Kst K c) {root : Nat} {par rk : Nat → Nat} (T : TOk c root par rk) : C8.Cal P w K mg base 5 "_law_gsay" (spSay K c) [] := by
  refine cal_of (k := 4) C.h_g_say c_g_say (fun vs H Q E ⟨_, _, _, h, _⟩ => by rw [h]; rfl) fun cdv A outer s H vs Q E hr ⟨st, d, vd, e, rd, ka, mo, ok, q⟩ => ?_
  subst e
  have nd := c_g_say.nd
  cases d with
  | put k ws =>
    obtain ⟨hk, hp, hs, ha⟩ := ok
    refine b_ifv (b := true) (Tv.to (tv_eqS (z := "put") (ev_ixT (ev_v 1 rfl rd) ev_int (at_nat (n := 0) rfl)) ev_str) (by decide)) (fun _ H1 k1 => ?_) (fun z => by cases z)
    have ka1 := ka.mono k1
    refine b_ret (ew_mt (met_put C c S T) hr (by decide) (ew_v 0 rfl ⟨rfl, ka1.obj, aw_cons (Ev.go (ev_ixT (d := pn k) (ev_v 1 rfl (dp_mono k1 rd)) ev_int (at_nat (n := 1) rfl)) fun u2 H2 k2 r2 => aw_one (Ev.go (ev_ixT (d := pis ws) (ev_v 1 rfl (dp_mono (k1.trans k2) rd)) ev_int (at_nat (n := 2) rfl)) fun u3 H3 k3 r3 => ?_))⟩))
    rw [dp_int r2]
    exact ⟨st, k, ws, u3, rfl, r3, (ka1.mono k2).mono k3, mo, hk, hp, hs, ha, fun H4 f4 ka4 => q H4 ((Fr.of ((k1.trans k2).trans k3)).trans f4) ka4⟩
  | settle n u =>
    obtain ⟨hn, hu⟩ := ok
    refine b_ifv (b := false) (Tv.to (tv_eqS (z := "settle") (ev_ixT (ev_v 1 rfl rd) ev_int (at_nat (n := 0) rfl)) ev_str) (by decide)) (fun z => by cases z) (fun _ H1 k1 => bw_nil ?_)
    refine b_ifv (b := true) (Tv.to (tv_eqS (z := "settle") (ev_ixT (ev_v 1 rfl (dp_mono k1 rd)) ev_int (at_nat (n := 0) rfl)) ev_str) (by decide)) (fun _ H2 k2 => ?_) (fun z => by cases z)
    have ka2 := (ka.mono k1).mono k2
    have rd2 := dp_mono (k1.trans k2) rd
    refine b_ret (ew_mt (met_settle C c S T) hr (by decide) (ew_v 0 rfl ⟨rfl, ka2.obj, aw_cons (Ev.go (ev_ixT (d := pn n) (ev_v 1 rfl rd2) ev_int (at_nat (n := 1) rfl)) fun u3 H3 k3 r3 => aw_one (Ev.go (ev_ixT (d := pn u) (ev_v 1 rfl (dp_mono k3 rd2)) ev_int (at_nat (n := 2) rfl)) fun u4 H4 k4 r4 => ?_))⟩))
    rw [dp_int r3, dp_int r4]
    exact ⟨st, n, u, rfl, (ka2.mono k3).mono k4, mo, hn, hu, fun H5 f5 ka5 => q H5 ((Fr.of (((k1.trans k2).trans k3).trans k4)).trans f5) ka5⟩
  | free n =>
    obtain ⟨hn, hs⟩ := ok
    refine b_ifv (b := false) (Tv.to (tv_eqS (z := "free") (ev_ixT (ev_v 1 rfl rd) ev_int (at_nat (n := 0) rfl)) ev_str) (by decide)) (fun z => by cases z) (fun _ H1 k1 => bw_nil ?_)
    refine b_ifv (b := false) (Tv.to (tv_eqS (z := "free") (ev_ixT (ev_v 1 rfl (dp_mono k1 rd)) ev_int (at_nat (n := 0) rfl)) ev_str) (by decide)) (fun z => by cases z) (fun _ H2 k2 => bw_nil ?_)
    have ka2 := (ka.mono k1).mono k2
    have rd2 := dp_mono (k1.trans k2) rd
    refine b_ret (ew_if (Tv.go (b := true) (Tv.to (tv_eqS (z := "free") (ev_ixT (ev_v 1 rfl rd2) ev_int (at_nat (n := 0) rfl)) ev_str) (by decide)) fun H3 k3 => ?_))
    rw [if_pos rfl]
    refine ew_mt (met_free C c S T) hr (by decide) (ew_v 0 rfl ⟨rfl, (ka2.mono k3).obj, aw_one (Ev.go (ev_ixT (d := pn n) (ev_v 1 rfl (dp_mono k3 rd2)) ev_int (at_nat (n := 1) rfl)) fun u4 H4 k4 r4 => ?_)⟩)
    rw [dp_int r4]
    exact ⟨st, n, rfl, (ka2.mono k3).mono k4, mo, hn, hs, fun H5 f5 ka5 => q H5 ((Fr.of (((k1.trans k2).trans k3).trans k4)).trans f5) ka5⟩
  | back =>
    obtain ⟨cs, g, hc, hb⟩ := ok
    have hdo : doS c st .back = backS c st cs g := by
      unfold doS
      rw [hc, List.getLast?_concat, List.dropLast_concat]
    rw [hdo] at q
    refine b_ifv (b := false) (Tv.to (tv_eqS (z := "back") (ev_ixT (ev_v 1 rfl rd) ev_int (at_nat (n := 0) rfl)) ev_str) (by decide)) (fun z => by cases z) (fun _ H1 k1 => bw_nil ?_)
    refine b_ifv (b := false) (Tv.to (tv_eqS (z := "back") (ev_ixT (ev_v 1 rfl (dp_mono k1 rd)) ev_int (at_nat (n := 0) rfl)) ev_str) (by decide)) (fun z => by cases z) (fun _ H2 k2 => bw_nil ?_)
    have ka2 := (ka.mono k1).mono k2
    have rd2 := dp_mono (k1.trans k2) rd
    refine b_ret (ew_if (Tv.go (b := false) (Tv.to (tv_eqS (z := "back") (ev_ixT (ev_v 1 rfl rd2) ev_int (at_nat (n := 0) rfl)) ev_str) (by decide)) fun H3 k3 => ?_))
    rw [if_neg (by decide)]
    exact ew_mt0 (met_back C c S T) hr (by decide) (ew_v 0 rfl ⟨rfl, (ka2.mono k3).obj, st, cs, g, rfl, ka2.mono k3, mo, hc, hb, fun H5 f5 ka5 => q H5 ((Fr.of ((k1.trans k2).trans k3)).trans f5) ka5⟩)
end
end SO
set_option Elab.async false
set_option linter.all false
set_option maxRecDepth 100000
set_option maxHeartbeats 4000000
/-! So59: sorted of a dict; deed. -/
namespace SO
open PySem PySem.Spec PyProof.Rows L2
section
variable {X : Cx} {e : Expr} {σ : L2.St} {H : Hp} {pos p : Pos} {a : Addr} {ws : List (Nat × Nat)}
theorem evl_sortedD (hc : X.calm = true) (hm : X.mg "sorted" = none) (h : Er X e σ H (.ref a)) (ho : H a = some (.dK (wsV ws))) (hl : ws.length < 64) (hg : Gl X "sorted" := by rfl)
    (he : starEach [e] X.env = (false, eval e X.env) :: starEach [] X.env := by rfl) (hpl : (backTo pos (starEach [] X.env)).any (·.1) = false := by rfl) :
    EvL X (.Call (.Name "sorted" p) [e] [] pos) σ H ((sortN (ws.map (·.1))).map pn) := fun H1 k => by
  refine ew_callB (call_sortedDI hc) hm (by decide +kernel) (aw_one ((h H1 k).mono fun u H2 ⟨k2, eu⟩ => ?_) he) hg (by decide) (by decide) he hpl
  subst eu
  refine ⟨a, wsV ws, zs (ws.map (·.1)), rfl, .inl (k2 _ _ (k _ _ ho)), ?_, by rw [zs_len, List.length_map]; exact hl, fun ys q hp hs hq => ⟨k2.trans (same_new hq), q, rfl, none_back k2 hq, _, upd_same, ?_⟩⟩
  · unfold wsV zs
    rw [List.map_map, List.map_map, List.map_map]
    rfl
  · rw [sortN_int hp hs, map_pn]
    exact dpa_of_ints
end
theorem getD_memD {α : Type} {l : List α} {i : Nat} (h : i < l.length) (d : α) : l.getD i d ∈ l := by
  rw [List.getD_eq_getElem?_getD, List.getElem?_eq_getElem h]
  exact List.getElem_mem h
theorem fl_dng {n : Nat} (g : Chg) : Fl (n + 2) (dngD g) := by
  cases g with
  | part k ws =>
    refine fl_tup fun d hd => ?_
    simp only [List.mem_cons, List.not_mem_nil, or_false] at hd
    rcases hd with rfl | rfl | rfl
    · exact fl_str (by decide +kernel)
    · exact fl_int
    · exact fl_ints
  | name k u =>
    refine fl_tup fun d hd => ?_
    simp only [List.mem_cons, List.not_mem_nil, or_false] at hd
    rcases hd with rfl | rfl | rfl
    · exact fl_str (by decide +kernel)
    · exact fl_int
    · cases u
      · exact fl_non
      · exact fl_int
theorem fl_dngs {n : Nat} {gs : List Chg} : Fl (n + 3) (.list (gs.map dngD)) := fl_lst fun d hd => by
  obtain ⟨g, _, rfl⟩ := List.mem_map.mp hd
  exact fl_dng g
def dOk (c : Mc) (st : MS) : Deed → Prop
  | .put k ws => k < st.parts.length ∧ ws.length = (st.parts.getD k ([], [])).2.length ∧ small12 ws ∧ anyOk c.wd ws
  | .settle n u => n < c.sz.length ∧ u < c.sz.getD n 0
  | .free n => (held st.ws n).isSome = true
  | .back => st.done ≠ []
structure DeedOk (c : Mc) (st : MS) : Prop where
  part : ∀ p ∈ st.parts, p.2.length ≤ 100 ∧ small12 p.2 ∧ anyOk c.wd p.2
  plen : st.parts.length ≤ 1000
  ws : st.ws.length < 64
  sz0 : 0 < c.sz.length
  szl : c.sz.length ≤ 1000
  sz : ∀ n ∈ c.sz, 0 < n ∧ n ≤ 1000
theorem small2 {x y : V} : [x, y].length ≤ sizeLine := by show 2 ≤ sizeLine; decide
theorem small3 {x y z : V} : [x, y, z].length ≤ sizeLine := by show 3 ≤ sizeLine; decide
theorem held_some : ∀ {ws : List (Nat × Nat)} {n : Nat}, n ∈ ws.map (·.1) → (held ws n).isSome = true
  | [], n, h => by cases h
  | (a, b) :: ws, n, h => by
    unfold held
    rw [List.lookup_cons]
    by_cases e : n == a
    · rw [e]; rfl
    · rw [Bool.not_eq_true] at e
      rw [e]
      refine held_some ?_
      rcases List.mem_cons.mp h with z | z
      · subst z
        rw [beq_self_eq_true] at e
        cases e
      · exact z
def spDeed (K : PySem.W.Frag) (tc : Tc) (c : Mc) : Sp := fun vs H Q _ => ∃ n st, vs = [.ref tc.t, .ref c.m] ∧ TAt K tc H n ∧ n < 800000 ∧ MAt K c H st ∧ DeedOk c st ∧ (tc.t ∉ c.own ∧ tc.t ≠ c.m) ∧ (tc.t ∈ c.M ∨ c.B tc.t = none) ∧
  ∀ v d H', Fr [tc.t] H H' → TAt K tc H' (n + 200) → MAt K c H' st → Dp K H' v (deedD d) → dOk c st d → Q v H'
section
variable {P : Program} {w : World} {K : PySem.W.Frag} {mg : Str → Option Value} {base : Heap}
theorem cal_g_deed (C : Ctx K mg) (tc : Tc) (c : Mc) (S : Mst K c) : C8.Cal P w K mg base 5 "_law_gdeed" (spDeed K tc c) [] := by
  refine cal_of (k := 4) C.h_g_deed c_g_deed (fun vs H Q E ⟨_, _, h, _⟩ => by rw [h]; rfl) fun cdv A outer s H vs Q E hr ⟨n, st, e, ta, hn, ma, dk, sep, sepB, q⟩ => ?_
  subst e
  have nd := c_g_deed.nd
  have mfr : ∀ {H H' : Hp}, MAt K c H st → Fr [tc.t] H H' → MAt K c H' st := fun h f => h.fr f (by simpa using sep) (by simpa using sepB)
  refine b_set 2 nd (ew_draw (m := 8) (cal_g_draw C tc) hr (by decide) (ew_v 0 rfl ⟨rfl, rfl⟩) ev_int (by decide) (by decide) ta (by omega) fun way H1 hway f1 t1 => ?_)
  have ma1 := mfr ma f1
  refine b_setl 3 nd (evl_sortedD rfl C.m_sorted (er_mk 1 hr rfl ma1.obj rfl) ma1.held dk.ws) fun l H2 nl k2 l2 => ?_
  have ma2 := ma1.mono k2
  have t2 := t1.mono k2
  have f2 := f1.trans (Fr.of k2)
  refine b_when (b := decide ((way : Int) < 3) && !(st.parts.map pp).isEmpty) (tv_wv (wv_and (tv_lt (ev_v 2 rfl (.int _)) ev_int) fun _ => wv_and1 (Tv.to (tv_neD (n := 4) hr (er_ev (er_mk 1 hr rfl ma2.obj rfl) ma2.parts.dp) (EvL.ev (evl_lst eva_nil)) (fl_lst fun d hd => by obtain ⟨x, _, rfl⟩ := List.mem_map.mp hd; exact fl_mono (fl_part (n := 0)) (by decide)) (fl_lst fun d hd => by cases hd)) (by rw [eqv_nil])))) (fun hb H3 k3 => ?_) (fun hb H3 k3 => ?_)
  · have hpos : 0 < st.parts.length := by
      cases hps : st.parts with
      | nil => rw [hps] at hb; simp at hb
      | cons x xs => simp
    have ma3 := ma2.mono k3
    have t3 := t2.mono k3
    have f3 := f2.trans (Fr.of k3)
    refine b_set 4 nd (ew_draw (m := st.parts.length) (cal_g_draw C tc) hr (by decide) (ew_v 0 rfl ⟨rfl, rfl⟩) (Ev.to (ev_lenL C.m_len (er_ev (er_mk 1 hr rfl ma3.obj rfl) ma3.parts.dp)) (by rw [List.length_map])) hpos (by have := dk.plen; omega) t3 (by omega) fun k H4 hk f4 t4 => ?_)
    have ma4 := mfr ma3 f4
    have f4' := f3.trans f4
    have hp := dk.part _ (getD_memD hk ([], []))
    refine b_setv 5 nd (ev_ixT (ev_ixL (er_ev (er_mk 1 hr rfl ma4.obj rfl) ma4.parts.dp) (ev_v 4 rfl (.int _)) (at_map (getD_part hk))) ev_int (at_nat (n := 1) rfl)) fun v5 H5 k5 r5 => ?_
    have ma5 := ma4.mono k5
    have t5 := t4.mono k5
    have f5 := f4'.trans (Fr.of k5)
    refine b_when (b := decide ((0 : Int) < (way : Int))) (tv_gt (ev_v 2 rfl (.int _)) ev_int) (fun _ H6 k6 => ?_) (fun _ H6 k6 => ?_)
    · have ma6 := ma5.mono k6
      have t6 := t5.mono k6
      have f6 := f5.trans (Fr.of k6)
      refine b_set 5 nd (ew_call (cal_g_worths C tc) hr (by decide) (aw_cons (ew_v 0 rfl (aw_cons (Er.go (er_mk 1 hr rfl ma6.obj rfl) fun H7 k7 => aw_one (Ev.go (ev_lenT C.m_len (ev_v 5 rfl (dp_mono (k6.trans k7) r5))) fun u8 H8 k8 r8 => ?_))))))
      rw [dp_int r8]
      refine ⟨_, c.wd, (st.parts.getD k ([], [])).2.length, by rw [List.length_map], hp.1, (t6.mono k7).mono k8, by omega, fun v9 ws9 H9 f9 t9 e9 s9 a9 r9 => ?_⟩
      have ma9 := mfr ((ma6.mono k7).mono k8) f9
      have f9' := (f6.trans (Fr.of (k7.trans k8))).trans f9
      refine bw_nil (b_retv (d := deedD (.put k ws9)) (ev_tup (eva3 ev_str (ev_v 4 rfl (.int _)) (ev_v 5 rfl r9))) fun v10 H10 k10 r10 => q v10 (.put k ws9) H10 (f9'.trans (Fr.of k10)) ((t9.mono k10).le (by have := hp.1; omega)) (ma9.mono k10) r10 ⟨hk, e9, s9, a9⟩)
    · exact b_retv (d := deedD (.put k (st.parts.getD k ([], [])).2)) (ev_tup (eva3 ev_str (ev_v 4 rfl (.int _)) (ev_v 5 rfl (dp_mono k6 r5)))) fun v10 H10 k10 r10 => q v10 (.put k (st.parts.getD k ([], [])).2) H10 (f5.trans (Fr.of (k6.trans k10))) ((t5.mono (k6.trans k10)).le (by omega)) (ma5.mono (k6.trans k10)) r10 ⟨hk, rfl, hp.2.1, hp.2.2⟩
  · have ma3 := ma2.mono k3
    have t3 := t2.mono k3
    have f3 := f2.trans (Fr.of k3)
    have l3 := ls_mono l2 k3
    refine b_when (b := decide ((way : Int) = 3) && !((sortN (st.ws.map (·.1))).map pn).isEmpty) (tv_wv (wv_and (tv_eqI (ev_v 2 rfl (.int _)) ev_int) fun _ => wv_and1 (Tv.to (tv_neD (n := 4) hr (ev_v 3 rfl l3.dp) (EvL.ev (evl_lst eva_nil)) fl_natl (fl_lst fun d hd => by cases hd)) (by rw [eqv_nil])))) (fun hb H4 k4 => ?_) (fun hb H4 k4 => ?_)
    · have hpos : 0 < (sortN (st.ws.map (·.1))).length := by
        cases hps : sortN (st.ws.map (·.1)) with
        | nil => rw [hps] at hb; simp at hb
        | cons x xs => simp
      have ma4 := ma3.mono k4
      have t4 := t3.mono k4
      have f4 := f3.trans (Fr.of k4)
      have l4 := ls_mono l3 k4
      refine b_ret (ew_tup (aw_cons (ew_pe pe_str (aw_one (ew_ix ix_list (ew_v 3 rfl (ew_draw (m := (sortN (st.ws.map (·.1))).length) (cal_g_draw C tc) hr (by decide) (ew_v 0 rfl ⟨rfl, rfl⟩) (Ev.to (ev_lenL C.m_len (ev_v 3 rfl l4.dp)) (by rw [List.length_map])) hpos (by rw [sortN_len, List.length_map]; have := dk.ws; omega) t4 (by omega) fun i H5 hi f5 t5 => ?_)))))))
      have hlt : l ≠ tc.t := fun z => t1.neF nl z.symm
      obtain ⟨xs, h1, h2⟩ := l4
      obtain ⟨y, hy, ry⟩ := dpa_get (i := i) (d := pn ((sortN (st.ws.map (·.1))).getD i 0)) h2 (by rw [List.getElem?_map, getD_at hi]; rfl)
      rw [dp_int ry] at hy
      have ma5 := mfr ma4 f5
      have f5' := f4.trans f5
      refine ⟨l, xs, i, _, rfl, rfl, SqL.of (f5.same _ _ (by simp; exact hlt) h1), at_nat hy, small2, fun p hp => ?_⟩
      have k6 := same_new (o := .tup [.str "free", .int (((sortN (st.ws.map (·.1))).getD i 0 : Nat) : Int)]) hp
      refine q _ (.free ((sortN (st.ws.map (·.1))).getD i 0)) _ (f5'.trans (Fr.of k6)) ((t5.mono k6).le (by omega)) (ma5.mono k6) (.tup (SqT.of upd_same) (.cons (.str _) (.cons (.int _) .nil))) ?_
      have hm := sortN_mem.mp (getD_memD hi 0)
      obtain ⟨e, he, e1⟩ := List.mem_map.mp hm
      exact held_some (by rw [← e1]; exact List.mem_map.mpr ⟨e, he, rfl⟩)
    · have ma4 := ma3.mono k4
      have t4 := t3.mono k4
      have f4 := f3.trans (Fr.of k4)
      refine b_when (b := decide ((5 : Int) < (way : Int)) && !(st.done.map dngD).isEmpty) (tv_wv (wv_and (tv_gt (ev_v 2 rfl (.int _)) ev_int) fun _ => wv_and1 (Tv.to (tv_neD (n := 4) hr (er_ev (er_mk 1 hr rfl ma4.obj rfl) ma4.done.dp) (EvL.ev (evl_lst eva_nil)) (fl_dngs (n := 1)) (fl_lst fun d hd => by cases hd)) (by rw [eqv_nil])))) (fun hb H5 k5 => ?_) (fun hb H5 k5 => ?_)
      · exact b_retv (d := deedD .back) (ev_tup (eva1 ev_str)) fun v10 H10 k10 r10 => q v10 .back H10 (f4.trans (Fr.of (k5.trans k10))) ((t4.mono (k5.trans k10)).le (by omega)) (ma4.mono (k5.trans k10)) r10 (by
          intro z
          rw [z] at hb
          simp at hb)
      · have ma5 := ma4.mono k5
        have t5 := t4.mono k5
        have f5 := f4.trans (Fr.of k5)
        refine b_set 6 nd (ew_draw (m := c.sz.length) (cal_g_draw C tc) hr (by decide) (ew_v 0 rfl ⟨rfl, rfl⟩) (Ev.to (ev_lenT C.m_len (er_ev (er_mk 1 hr rfl ma5.obj rfl) (S.dsz ma5))) (by rw [List.length_map])) dk.sz0 (by have := dk.szl; omega) t5 (by omega) fun nm H6 hnm f6 t6 => ?_)
        have ma6 := mfr ma5 f6
        have f6' := f5.trans f6
        have hsz := dk.sz _ (getD_memD hnm 0)
        refine b_ret (ew_tup (aw_cons (ew_pe pe_str (aw_cons (ew_v 6 rfl (aw_one (ew_draw (m := c.sz.getD nm 0) (cal_g_draw C tc) hr (by decide) (ew_v 0 rfl ⟨rfl, rfl⟩) (ev_ixT (er_ev (er_mk 1 hr rfl ma6.obj rfl) (S.dsz ma6)) (ev_v 6 rfl (.int _)) (at_pns (getD_at hnm))) hsz.1 (by omega) t6 (by omega) fun u H7 hu f7 t7 => ?_)))))))
        refine ⟨small3, fun p hp => ?_⟩
        have ma7 := mfr ma6 f7
        have f7' := f6'.trans f7
        have k8 := same_new (o := .tup [.str "settle", .int (nm : Int), .int (u : Int)]) hp
        exact q _ (.settle nm u) _ (f7'.trans (Fr.of k8)) ((t7.mono k8).le (by omega)) (ma7.mono k8) (.tup (SqT.of upd_same) (.cons (.str _) (.cons (.int _) (.cons (.int _) .nil)))) ⟨hnm, hu⟩
end
end SO
set_option Elab.async false
set_option linter.all false
set_option maxRecDepth 100000
set_option maxHeartbeats 4000000
/-! So60: all rests and the whole. -/
namespace SO
open PySem PySem.Spec PyProof.Rows L2
theorem Ext.ROf {c : Kc} {st st' : KS} (h : Ext st st') : ROf c st' = ROf c st := by
  funext i j
  unfold SO.ROf
  rw [h.oOf]
theorem Ext.WOf {c : Kc} {st st' : KS} (h : Ext st st') : WOf c st' = WOf c st := by
  unfold SO.WOf
  rw [h.ROf]
theorem KAt.ne0 {K : PySem.W.Frag} {c : Kc} {H : Hp} {st : KS} (h : KAt K c H st) : ∀ d ∈ c.own, H d ≠ none := fun d hd z => by
  simp only [Kc.own, List.mem_cons, List.not_mem_nil, or_false] at hd
  rcases hd with rfl | rfl | rfl | rfl | rfl
  · have := h.obj; rw [z] at this; cases this
  · obtain ⟨xs, h1, _⟩ := h.parts; rw [z] at h1; cases h1
  · have := h.worths; rw [z] at this; cases this
  · obtain ⟨xs, h1, _⟩ := h.known; rw [z] at h1; cases h1
  · obtain ⟨xs, h1, _⟩ := h.changes; rw [z] at h1; cases h1
theorem one_small {x : V} : [x].length ≤ sizeLine := by show 1 ≤ sizeLine; decide
/-- what is told -/
def tellD (c : Kc) (st : KS) : List D0 := (List.range c.nr.length).map (fun i => pp (ROf c st i none)) ++ [.int (WOf c st)]
def AllIn (c : Kc) (st : KS) : Prop := ∀ i < c.nr.length, ∀ k ∈ nbOf c.nr i, (k, i) ∈ keys st.known
def spAll (K : PySem.W.Frag) (c : Kc) : Sp := fun vs H Q _ => ∃ st, vs = [.ref c.a, .int (c.nr.length : Int)] ∧ KAt K c H st ∧ StOk c st ∧ 0 < c.nr.length ∧ c.nr.length ≤ 1000 ∧
  ∀ q H' st', H q = none → Fr [c.a, c.ka] H H' → KAt K c H' st' → StOk c st' → Ext st st' → AllIn c st' → Ls K H' q (tellD c st) → Q (.ref q) H'
section
variable {P : Program} {w : World} {K : PySem.W.Frag} {mg : Str → Option Value} {base : Heap}
theorem cal_g_all (C : Ctx K mg) (c : Kc) (S : Kst K c) {root : Nat} {par rk : Nat → Nat} (T : TOk c root par rk) : C8.Cal P w K mg base 33 "_law_gall" (spAll K c) [] := by
  refine cal_of (k := 32) C.h_g_all c_g_all (fun vs H Q E ⟨_, h, _⟩ => by rw [h]; rfl) fun cdv A outer s H vs Q E hr ⟨st, e, ka, ok, hpos, hle, q⟩ => ?_
  subst e
  have nd := c_g_all.nd
  refine b_ret (ew_op op_cat (ew_lc (lcw_rng [("i", 2)] 2 rfl nd C.m_range (blkOk_by (N := n_g_all) (sc := defScope s_g_all) (by decide +kernel)) (ew_v 1 rfl ⟨c.nr.length, rfl, by omega, [c.a, c.ka], fun i ds H1 => ∃ st1, KAt K c H1 st1 ∧ StOk c st1 ∧ Ext st st1 ∧ (∀ j < i, ∀ k ∈ nbOf c.nr j, (k, j) ∈ keys st1.known) ∧ ds = (List.range i).map (fun j => pp (ROf c st j none)) ∧ Fr [c.a, c.ka] H H1, ⟨?_, ?_, ?_, ?_⟩, fun l H2 ds nl zz len ht hl => ?_⟩))))
  · exact ⟨st, ka, ok, Ext.refl, fun j hj => absurd hj (by omega), rfl, Fr.refl⟩
  · rintro i ds H1 H2 D hD ⟨st1, ka1, ok1, ex1, in1, e1, f1⟩ fD
    exact ⟨st1, ka.new ka1 fD hD, ok1, ex1, in1, e1, f1.drop fD hD⟩
  · intro d hd
    refine ka.ne0 d ?_
    rcases List.mem_cons.mp hd with rfl | hd
    · simp [Kc.own]
    · rw [List.mem_singleton.mp hd]; simp [Kc.own]
  · rintro i ds H1 hi ⟨st1, ka1, ok1, ex1, in1, e1, f1⟩
    intro s' H0 C' cl fp
    refine ew_mt (met_rest C c S T) hr (by decide) (ew_v 0 rfl ⟨rfl, ka1.obj, aw_one (ew_v 2 rfl ⟨st1, i, rfl, ka1, ok1, hi, fun v H2 st2 f2 ka2 ok2 ex2 in2 r2 => ⟨_, tup_pp, ⟨st2, ka2, ok2, ex1.trans ex2, fun j hj k hk => ?_, ?_, f1.trans f2⟩, r2, f2⟩⟩)⟩)
    · rcases Nat.lt_succ_iff_lt_or_eq.mp hj with h | h
      · exact ex2.sub _ (in1 j h k hk)
      · subst h; exact in2 k hk
    · rw [e1, List.range_succ, List.map_append, ex1.ROf]
      rfl
  · obtain ⟨st1, ka1, ok1, ex1, in1, e1, f1⟩ := zz
    obtain ⟨xs, h1, h2⟩ := hl
    refine ew_lst (aw_one (ew_mt0 (met_whole C c S T) hr (by decide) (ew_v 0 rfl ⟨rfl, ka1.obj, st1, rfl, ka1, ok1, hpos, fun v H3 st3 f3 ka3 ok3 ex3 r3 => ⟨one_small, fun p hp => ?_⟩⟩)))
    have nla : l ≠ c.a := fun z => ka.ne0 c.a (by simp [Kc.own]) (z ▸ nl)
    have nlk : l ≠ c.ka := fun z => ka.ne0 c.ka (by simp [Kc.own]) (z ▸ nl)
    have k4 := same_new (o := .lst [v]) hp
    refine ⟨l, p, xs, [v], rfl, rfl, k4 _ _ (f3.same _ _ (by simp; exact ⟨nla, nlk⟩) h1), upd_same, ?_, fun l2 hl2 => ?_⟩
    · rw [dpa_len h2, len]
      exact small (by show c.nr.length + 1 ≤ 100000; omega)
    · have k5 := k4.trans (same_new (o := .lst (xs ++ [v])) hl2)
      refine q l2 _ st3 ?_ (((f1.trans f3)).trans (Fr.of k5)) (ka3.mono k5) ok3 (ex1.trans ex3) (fun i hi k hk => ex3.sub _ (in1 i hi k hk)) ⟨_, upd_same, ?_⟩
      · cases hq : H l2 with
        | none => rfl
        | some o =>
          exact absurd (none_back k4 hl2) (fun z => by
            by_cases hm : l2 ∈ [c.a, c.ka]
            · refine ka3.ne0 l2 ?_ z
              rcases List.mem_cons.mp hm with rfl | hm
              · simp [Kc.own]
              · rw [List.mem_singleton.mp hm]; simp [Kc.own]
            · have := (f1.trans f3).same _ _ hm hq
              rw [z] at this
              cases this)
      · unfold tellD
        rw [← e1]
        refine dpa_mono k5 (dpa_app (dpa_tp f3.tp ht h2) (.cons ?_ .nil))
        rw [ex1.WOf] at r3
        exact r3
end
end SO
set_option Elab.async false
set_option linter.all false
set_option maxRecDepth 100000
set_option maxHeartbeats 4000000
/-! So61: which bags a deed touches. -/
namespace SO
open PySem PySem.Spec PyProof.Rows L2
def deedTag : Deed → Str
  | .put _ _ => "put"
  | .settle _ _ => "settle"
  | .free _ => "free"
  | .back => "back"
def deedNum : Deed → Nat
  | .put k _ => k
  | .settle n _ => n
  | .free n => n
  | .back => 0
def deedL : Deed → List D0
  | .put k ws => [.str "put", pn k, pis ws]
  | .settle n u => [.str "settle", pn n, pn u]
  | .free n => [.str "free", pn n]
  | .back => [.str "back"]
theorem deed_L {d : Deed} : deedD d = .tuple (deedL d) := by cases d <;> rfl
theorem dng_L {g : Chg} : dngD g = .tuple [.str (tagOf g), pn (numOf g), valOf g] := by cases g <;> rfl
theorem at_last {ds : List D0} {d : D0} : atI (ds ++ [d]) (-1) = some d := by
  unfold atI ixN
  rw [if_neg (by omega), if_pos (by rw [List.length_append, List.length_singleton]; omega)]
  show (ds ++ [d])[((-1 : Int) + _).toNat]? = _
  rw [List.length_append, List.length_singleton, show ((-1 : Int) + ((ds.length + 1 : Nat) : Int)).toNat = ds.length by omega, List.getElem?_append_right (Nat.le_refl _), Nat.sub_self]
  rfl
def touchM (bags : List (List Nat)) (parts : List Part) (z : Str) (n : Nat) : List Nat := if z = "put" then [bagOf bags (parts.getD n ([], [])).1] else bagsWith bags n
def touchG (bags : List (List Nat)) (parts : List Part) (g : Chg) : List Nat := touchM bags parts (tagOf g) (numOf g)
def touchD (bags : List (List Nat)) (st : MS) : Deed → List Nat
  | .back => match st.done.getLast? with
    | none => []
    | some g => touchG bags st.parts g
  | d => touchM bags st.parts (deedTag d) (deedNum d)
structure TouOk (c : Mc) (st : MS) (d : Deed) : Prop where
  part : ∀ p ∈ st.parts, p.1.length ≤ 1000 ∧ ∃ b ∈ c.t.1, ∀ n ∈ p.1, n ∈ b
  few : c.t.1.length ≤ 1000
  put : deedTag d = "put" → deedNum d < st.parts.length
  back : d = .back → ∃ cs g, st.done = cs ++ [g] ∧ (tagOf g = "put" → numOf g < st.parts.length)
def spTouched (K : PySem.W.Frag) (c : Mc) : Sp := fun vs H Q _ => ∃ st d vd, vs = [.ref c.m, vd] ∧ Dp K H vd (deedD d) ∧ MAt K c H st ∧ TouOk c st d ∧
  ∀ q H', H q = none → Same H H' → Ls K H' q ((touchD c.t.1 st d).map pn) → Q (.ref q) H'
section
variable {P : Program} {w : World} {K : PySem.W.Frag} {mg : Str → Option Value} {base : Heap}
theorem cal_g_touched (C : Ctx K mg) (c : Mc) (S : Mst K c) : C8.Cal P w K mg base 3 "_law_gtouched" (spTouched K c) [] := by
  refine cal_of (k := 2) C.h_g_touched c_g_touched (fun vs H Q E ⟨_, _, _, h, _⟩ => by rw [h]; rfl) fun cdv A outer s H vs Q E hr ⟨st, d, vd, e, rd, ma, to, q⟩ => ?_
  subst e
  rw [deed_L] at rd
  have nd := c_g_touched.nd
  refine b_setv 2 nd (ev_ixT (d := bagsD c.t.1) (er_ev (er_mk 0 hr rfl ma.obj rfl) (S.dtree ma)) ev_int (at_nat (n := 0) rfl)) fun vb H1 k1 rb => ?_
  have ma1 := ma.mono k1
  have rd1 := dp_mono k1 rd
  refine b_asg (g_two 3 4 rfl nd) (Ev.go (ev_tup (eva2 (ev_ixT (d := .str (deedTag d)) (ev_v 1 rfl rd1) ev_int (at_nat (n := 0) (by cases d <;> rfl))) (ev_if (d := pn (deedNum d)) (x := decide ((1 : Int) < ((deedL d).length : Nat))) (tv_gt (ev_lenT C.m_len (ev_v 1 rfl rd1)) ev_int) (fun hx => ev_ixT (ev_v 1 rfl rd1) ev_int (at_nat (n := 1) (by cases d with | back => cases hx | _ => rfl))) (fun hx => Ev.to ev_int (by cases d with | back => rfl | _ => cases hx))))) fun v2 H2 k2 rp => g2_go rp fun w1 w2 q1 q2 => ?_)
  rw [dp_str q1, dp_int q2]
  have ma2 := ma1.mono k2
  have k12 := k1.trans k2
  refine b_when (b := decide (deedTag d = "back")) (tv_eqS (ev_v 3 rfl (.str _)) ev_str) (fun hb H3 k3 => ?_) (fun hb H3 k3 => ?_)
  · have hdb : d = .back := by cases d <;> first | rfl | (cases (of_decide_eq_true hb))
    obtain ⟨cs, g, hc, hput0⟩ := to.back hdb
    have ma3 := ma2.mono k3
    have hat : atI (st.done.map dngD) (-1) = some (dngD g) := by
      rw [hc, List.map_append]
      exact at_last
    rw [dng_L] at hat
    refine b_asg (g_two 3 4 rfl nd) (Ev.go (ev_tup (eva2 (ev_ixT (d := .str (tagOf g)) (ev_ixL (i := -1) (er_ev (er_mk 0 hr rfl ma3.obj rfl) ma3.done.dp) (ev_neg ev_int) hat) ev_int (at_nat (n := 0) rfl)) (ev_ixT (d := pn (numOf g)) (ev_ixL (i := -1) (er_ev (er_mk 0 hr rfl ma3.obj rfl) ma3.done.dp) (ev_neg ev_int) hat) ev_int (at_nat (n := 1) rfl)))) fun v4 H4 k4 rp4 => g2_go rp4 fun w3 w4 q3 q4 => bw_nil ?_)
    rw [dp_str q3, dp_int q4]
    have ma4 := ma3.mono k4
    have k14 := (k12.trans k3).trans k4
    have htd : touchD c.t.1 st d = touchM c.t.1 st.parts (tagOf g) (numOf g) := by
      rw [hdb]
      unfold touchD
      rw [hc, List.getLast?_concat]
      rfl
    have hput := hput0
    generalize tagOf g = z at htd hput ⊢
    generalize numOf g = n at htd hput ⊢
    refine b_when (b := decide (z = "put")) (tv_eqS (ev_v 3 rfl (.str z)) ev_str) (fun hz H8 k8 => ?_) (fun hz H8 k8 => ?_)
    · have hz := of_decide_eq_true hz
      have hn := hput hz
      have ma8 := ma4.mono k8
      have hp := to.part _ (getD_memD hn ([], []))
      refine b_ret (ew_lst (aw_one (ew_call (cal_g_laid C) hr (by decide) (aw_cons (Er.go (er_mk 0 hr rfl ma8.obj rfl) fun H9 k9 => aw_one (Ev.go (ev_ixT (ev_ixL (er_ev (er_mk 0 hr rfl (ma8.mono k9).obj rfl) (ma8.mono k9).parts.dp) (ev_v 4 rfl (.int _)) (at_map (getD_part hn))) ev_int (at_nat (n := 0) rfl)) fun u9 H10 k10 r10 => ?_))))))
      refine ⟨_, _, .cons (S.dtree ((ma8.mono k9).mono k10)) (.cons r10 .nil), ⟨c.t, (st.parts.getD n ([], [])).1, rfl, to.few, hp.1, hp.2, rfl⟩, fun v11 H11 k11 r11 => ⟨one_small, fun p hpp => ?_⟩⟩
      rw [dp_int r11]
      have k12 := same_new (o := .lst [.int (bagOf c.t.1 (st.parts.getD n ([], [])).1 : Nat)]) hpp
      have kk := ((((k14.trans k8).trans k9).trans k10).trans k11)
      refine q p _ (none_back kk hpp) (kk.trans k12) ⟨_, upd_same, ?_⟩
      rw [htd]
      unfold touchM
      rw [if_pos hz]
      exact .cons (.int _) .nil
    · have hz := of_decide_eq_false hz
      have ma8 := ma4.mono k8
      refine b_ret (EvL.go (EvL.to (evl_lc (lcv_two (xs := c.t.1.zipIdx) (enc := fun a => pn a.2) (enc2 := fun a => pns a.1) (f := fun a => pn a.2) (c := fun a => decide (n ∈ a.1)) (β := Nat) [("i", 5), ("bag", 6)] 5 6 rfl nd (pi_enumT C.m_enumerate pa_aw) (src_conv (src_enumT (ev_v 2 rfl (dp_mono ((((k2.trans k3).trans k4)).trans k8) rb))) (by rw [List.length_map, List.length_zipIdx]) fun m x H' h => by
          rw [List.zipIdx_map, List.map_map] at h
          exact h) (blkOk_by (N := n_g_touched) (sc := defScope s_g_touched) (by decide +kernel)) (fun _ _ _ _ _ => g_two 5 6 rfl nd) pts_blk (by rw [List.length_zipIdx]; have := to.few; omega) (fun _ _ _ => rfl) (fun a ha v u H5 k5 q1 q2 Q q s' H0 C' cl fp => Tv.go (tv_inT (ev_v 4 rfl (.int _)) (ev_v 6 rfl q2)) q) (fun a ha v u H5 k5 q1 q2 hc s' H0 C' cl fp => ev_v 5 rfl q1))) (es := (bagsWith c.t.1 n).map pn) (by unfold bagsWith; rw [List.map_map]; rfl)) fun q1 H9 n9 k9 l9 => ?_)
      refine q q1 _ (none_back (k14.trans k8) n9) ((k14.trans k8).trans k9) ?_
      rw [htd]
      unfold touchM
      rw [if_neg hz]
      exact l9
  · have ma3 := ma2.mono k3
    have k13 := k12.trans k3
    have htd : touchD c.t.1 st d = touchM c.t.1 st.parts (deedTag d) (deedNum d) := by
      cases d with
      | back => exact absurd rfl (of_decide_eq_false hb)
      | _ => rfl
    have hput := to.put
    generalize deedTag d = z at htd hput ⊢
    generalize deedNum d = n at htd hput ⊢
    refine b_when (b := decide (z = "put")) (tv_eqS (ev_v 3 rfl (.str z)) ev_str) (fun hz H8 k8 => ?_) (fun hz H8 k8 => ?_)
    · have hz := of_decide_eq_true hz
      have hn := hput hz
      have ma8 := ma3.mono k8
      have hp := to.part _ (getD_memD hn ([], []))
      refine b_ret (ew_lst (aw_one (ew_call (cal_g_laid C) hr (by decide) (aw_cons (Er.go (er_mk 0 hr rfl ma8.obj rfl) fun H9 k9 => aw_one (Ev.go (ev_ixT (ev_ixL (er_ev (er_mk 0 hr rfl (ma8.mono k9).obj rfl) (ma8.mono k9).parts.dp) (ev_v 4 rfl (.int _)) (at_map (getD_part hn))) ev_int (at_nat (n := 0) rfl)) fun u9 H10 k10 r10 => ?_))))))
      refine ⟨_, _, .cons (S.dtree ((ma8.mono k9).mono k10)) (.cons r10 .nil), ⟨c.t, (st.parts.getD n ([], [])).1, rfl, to.few, hp.1, hp.2, rfl⟩, fun v11 H11 k11 r11 => ⟨one_small, fun p hpp => ?_⟩⟩
      rw [dp_int r11]
      have k12 := same_new (o := .lst [.int (bagOf c.t.1 (st.parts.getD n ([], [])).1 : Nat)]) hpp
      have kk := ((((k13.trans k8).trans k9).trans k10).trans k11)
      refine q p _ (none_back kk hpp) (kk.trans k12) ⟨_, upd_same, ?_⟩
      rw [htd]
      unfold touchM
      rw [if_pos hz]
      exact .cons (.int _) .nil
    · have hz := of_decide_eq_false hz
      have ma8 := ma3.mono k8
      refine b_ret (EvL.go (EvL.to (evl_lc (lcv_two (xs := c.t.1.zipIdx) (enc := fun a => pn a.2) (enc2 := fun a => pns a.1) (f := fun a => pn a.2) (c := fun a => decide (n ∈ a.1)) (β := Nat) [("i", 5), ("bag", 6)] 5 6 rfl nd (pi_enumT C.m_enumerate pa_aw) (src_conv (src_enumT (ev_v 2 rfl (dp_mono (((k2.trans k3)).trans k8) rb))) (by rw [List.length_map, List.length_zipIdx]) fun m x H' h => by
          rw [List.zipIdx_map, List.map_map] at h
          exact h) (blkOk_by (N := n_g_touched) (sc := defScope s_g_touched) (by decide +kernel)) (fun _ _ _ _ _ => g_two 5 6 rfl nd) pts_blk (by rw [List.length_zipIdx]; have := to.few; omega) (fun _ _ _ => rfl) (fun a ha v u H5 k5 q1 q2 Q q s' H0 C' cl fp => Tv.go (tv_inT (ev_v 4 rfl (.int _)) (ev_v 6 rfl q2)) q) (fun a ha v u H5 k5 q1 q2 hc s' H0 C' cl fp => ev_v 5 rfl q1))) (es := (bagsWith c.t.1 n).map pn) (by unfold bagsWith; rw [List.map_map]; rfl)) fun q1 H9 n9 k9 l9 => ?_)
      refine q q1 _ (none_back (k13.trans k8) n9) ((k13.trans k8).trans k9) ?_
      rw [htd]
      unfold touchM
      rw [if_neg hz]
      exact l9
end
end SO
set_option Elab.async false
set_option linter.all false
set_option maxRecDepth 100000
set_option maxHeartbeats 4000000
/-! So62: a fresh keeper's tale. -/
namespace SO
open PySem PySem.Spec PyProof.Rows L2
structure FreshOk (c : Mc) (st : MS) (root : Nat) (par rk : Nat → Nat) : Prop where
  init : InitOk c.sz st.parts c.t
  tree : RTree (nearsOf c.t).length root par rk (nbOf (nearsOf c.t))
  sz : SzOk c.sz
  part : ∀ p ∈ st.parts, PartOk c.sz p ∧ small12 p.2
  hd : HdOk c.sz (held st.ws)
  ws : st.ws.length < 64
  pos : 0 < c.t.1.length
/-- the fresh keeper's tale -/
structure FreshTold (c : Mc) (st : MS) (cf : Kc) (sf : KS) : Prop where
  wd : cf.wd = c.wd
  sz : cf.sz = c.sz
  bags : cf.bags = c.t.1
  nr : cf.nr = nearsOf c.t
  laid : cf.laid = laidOf st.parts c.t
  parts : sf.parts = st.parts
  held : held sf.ws = held st.ws
theorem putW_len {ws : List (Nat × Nat)} {n u : Nat} : (putW ws n u).length ≤ ws.length + 1 := by
  unfold putW
  split
  · rw [List.length_map]; omega
  · rw [List.length_append, List.length_singleton]; omega
theorem held_none : ∀ {ws : List (Nat × Nat)} {n : Nat}, n ∉ ws.map (·.1) → held ws n = none
  | [], n, h => rfl
  | (a, b) :: ws, n, h => by
    unfold held
    rw [List.lookup_cons]
    have e : (n == a) = false := by
      rw [beq_eq_false_iff_ne]
      exact fun z => h (by rw [z]; exact List.mem_cons_self)
    rw [e]
    exact held_none fun z => h (List.mem_cons_of_mem _ z)
def spTold (K : PySem.W.Frag) (c : Mc) : Sp := fun vs H Q _ => ∃ st root par rk, vs = [.ref c.m, .int (c.t.1.length : Int)] ∧ MAt K c H st ∧ FreshOk c st root par rk ∧
  ∀ q H' cf sf, H q = none → Same H H' → FreshTold c st cf sf → Ls K H' q (tellD cf sf) → Q (.ref q) H'
theorem nearsOf_len {t : TreeD} : (nearsOf t).length = t.1.length := by unfold nearsOf; rw [List.length_map, List.length_range]
theorem rise_few {many : Nat} {ns : List Nat} (h : Rise many ns) : ns.length ≤ many := h.nm.few
section
variable {P : Program} {w : World} {K : PySem.W.Frag} {mg : Str → Option Value} {base : Heap}
theorem cal_g_fresh_told (C : Ctx K mg) (c : Mc) (S : Mst K c) : C8.Cal P w K mg base 34 "_law_gfresh_told" (spTold K c) [] := by
  refine cal_of (k := 33) C.h_g_fresh_told c_g_fresh_told (fun vs H Q E ⟨_, _, _, _, h, _⟩ => by rw [h]; rfl) fun cdv A outer s H vs Q E hr ⟨st, root, par, rk, e, ma, fo, q⟩ => ?_
  subst e
  have nd := c_g_fresh_told.nd
  refine b_set 2 nd (ew_mk (mak_keeper C []) hr (by decide) (aw_cons (Er.go (er_mk 0 hr rfl ma.obj rfl) fun H1 k1 => aw_cons (Ev.go (d := sheetD c.sz st.parts) (Ev.to (ev_tup (eva2 (er_ev (er_mk 0 hr rfl (ma.mono k1).obj rfl) (S.dsz (ma.mono k1))) (ev_tupleL C.m_tuple (er_ev (er_mk 0 hr rfl (ma.mono k1).obj rfl) (ma.mono k1).parts.dp)))) rfl) fun u2 H2 k2 r2 => aw_one (Er.go (er_mk 0 hr rfl ((ma.mono k1).mono k2).obj rfl) fun H3 k3 x dx nx ndx ne => ?_)))))
  have ma3 := ((ma.mono k1).mono k2).mono k3
  have kk := (k1.trans k2).trans k3
  have e0 : Same H3 (upd (upd H3 dx (.own x)) x (.ins (kC K) dx [])) := (same_new ndx).trans (same_new (by rw [upd_ne (Ne.symm ne)]; exact nx))
  have em : Same H3 (mask [x] (upd (upd H3 dx (.own x)) x (.ins (kC K) dx []))) := fun b o hb => by
    unfold mask
    rw [if_neg (by simp; exact fun z => by rw [z, nx] at hb; cases hb)]
    exact e0 b o hb
  refine ⟨x, dx, c.wd, c.sz, st.parts, c.t, u2, c.vtree, rfl, upd_same, by simp, by simp, dp_mono em (dp_mono k3 r2), dp_mono em (S.dtree ma3), fo.init, fun H4 cf ea ewd esz ebags enr elaid eM eB Sf kaf ff hnew => ⟨rfl, ?_⟩⟩
  have T : TOk cf root par rk := ⟨by rw [enr]; exact fo.tree, by rw [enr, ebags, nearsOf_len]⟩
  -- what was there stands as long as the keeper's own things change
  have hfree : ∀ d ∈ cf.own, H3 d = none := fun d hd => by
    by_cases hdx : d = x
    · rw [hdx]; exact nx
    · exact none_back e0 (hnew d hd hdx)
  have s4 : Same H3 H4 := fun b o hb => ff.same b o (by simp; exact fun z => by rw [z, nx] at hb; cases hb) (e0 b o hb)
  have tl := fo.init.tree.len
  have mok : ∀ (sf : KS), sf.parts = st.parts → sf.known = [] → sf.ws.length ≤ 100 → sf.changes.length ≤ 100 → MOk cf sf := fun sf h1 h2 h3 h4 => ⟨by rw [esz]; exact fo.sz, by rw [esz, h1]; exact fun p hp => (fo.part p hp).1, by rw [h1, elaid]; unfold laidOf; rw [List.length_map], by rw [h2]; exact ⟨fun e he => (by cases he), List.nodup_nil⟩, by rw [enr, nearsOf_len]; exact tl, by rw [ebags]; exact tl, by rw [ebags]; exact fun b hb => Nat.le_trans (rise_few (fo.init.tree.rise b hb)) (Nat.le_trans fo.init.szl (by decide)), Nat.le_trans h3 (by decide), Nat.le_trans h4 (by decide)⟩
  have ma4 := ma3.mono s4
  refine b_forN (g_name 3 nd) rfl (evl_sortedD rfl C.m_sorted (er_mk 0 hr rfl ma4.obj rfl) ma4.held fo.ws) fun ql xs H5 nql k5 hx hd => ?_
  have ka5 := kaf.mono k5
  have hql : ql ∉ cf.own := fun z => kaf.ne0 ql z nql
  have hL : (sortN (st.ws.map (·.1))).length < 64 := by rw [sortN_len, List.length_map]; exact fo.ws
  have see : ∀ {H' : Hp}, Fr cf.own H5 H' → Same H3 H' := fun f => ((Fr.of (s4.trans k5)).trans f).to (Same.refl _) hfree
  refine ⟨fun i σ' H' => ∃ o3 sf, σ' = [some (.ref c.m), some (.int (c.t.1.length : Int)), some (.ref x), o3] ∧ KAt K cf H' sf ∧ sf.parts = st.parts ∧ sf.known = [] ∧ sf.changes.length ≤ i ∧ sf.ws.length ≤ i ∧ (∀ n, held sf.ws n = if n ∈ (sortN (st.ws.map (·.1))).take i then held st.ws n else none) ∧ Fr cf.own H5 H', ?_, ?_, ?_, ?_⟩
  · exact ⟨none, ks0 st.parts, rfl, ka5, rfl, rfl, Nat.zero_le _, Nat.zero_le _, fun n => by simp; rfl, Fr.refl⟩
  · rintro i σ' H' ⟨o3, sf, rfl, ka', _, _, _, _, _, f'⟩
    exact f'.same _ _ hql hx
  · rintro i d v σ' H' hd1 hd2 rv ⟨o3, sf, rfl, ka', h1, h2, h3, h4, h5, f'⟩
    obtain ⟨n, hn⟩ : ∃ n, (sortN (st.ws.map (·.1)))[i]? = some n := by
      rw [List.getElem?_map] at hd1
      cases e : (sortN (st.ws.map (·.1)))[i]? with
      | none => rw [e] at hd1; cases hd1
      | some n => exact ⟨n, rfl⟩
    have hil : i < (sortN (st.ws.map (·.1))).length := (List.getElem?_eq_some_iff.mp hn).1
    rw [List.getElem?_map, hn] at hd1
    cases hd1
    rw [dp_int rv]
    have hmem : n ∈ st.ws.map (·.1) := sortN_mem.mp (List.mem_of_getElem? hn)
    obtain ⟨u, hu⟩ := Option.isSome_iff_exists.mp (held_some hmem)
    obtain ⟨hn1, hu1⟩ := fo.hd.lt n u hu
    have ma' := ma3.mono (see f')
    have hval : valV (wsV st.ws) (Sum.inl (n : Int)) = some (V.int (u : Int)) := by rw [wsV_val, show st.ws.lookup n = some u from hu]; rfl
    show BW _ _ _ _ _
    refine b_expr (ew_mt (met_settle C cf Sf T) hr (by decide) (ew_v 2 rfl ⟨by rw [ea], ka'.obj, aw_cons (ew_v 3 rfl (aw_one (Ev.go (ev_dgetK hr (er_mk 0 hr rfl ma'.obj rfl) (ev_v 3 rfl (.int _)) ma'.held hval (.int _)) fun u6 H6 k6 r6 => ?_)))⟩))
    rw [dp_int r6]
    refine ⟨sf, n, u, rfl, ka'.mono k6, mok sf h1 h2 (by omega) (by omega), by rw [esz]; exact hn1, by rw [esz]; exact hu1, fun H7 f7 ka7 => bw_nil ⟨_, settleS cf sf n u, rfl, ka7, h1, ?_, ?_, ?_, fun m => ?_, (f'.trans (Fr.of k6)).trans f7⟩⟩
    · show sf.known.filter _ = []
      rw [h2]; rfl
    · show (sf.changes ++ [_]).length ≤ i + 1
      rw [List.length_append, List.length_singleton]; omega
    · show (putW sf.ws n u).length ≤ i + 1
      exact Nat.le_trans (putW_len) (by omega)
    · show (putW sf.ws n u).lookup m = _
      rw [lookup_put, List.take_add_one, hn]
      by_cases hm : m = n
      · subst hm
        rw [if_pos rfl, if_pos (by simp), hu]
      · rw [if_neg hm]
        have := h5 m
        unfold held at this ⊢
        rw [this]
        simp [hm]
  · rintro σ' H' ⟨o3, sf, rfl, ka', h1, h2, h3, h4, h5, f'⟩
    have ma' := ma3.mono (see f')
    have hall : held sf.ws = held st.ws := by
      funext n
      rw [h5 n]
      rw [List.length_map, List.take_length]
      by_cases hn : n ∈ sortN (st.ws.map (·.1))
      · rw [if_pos hn]
      · rw [if_neg hn]
        exact (held_none fun z => hn (sortN_mem.mpr z)).symm
    rw [List.length_map] at h3 h4
    have sto : StOk cf sf := ⟨⟨by rw [esz]; exact fo.sz, by rw [esz, h1]; exact fun p hp => (fo.part p hp).1, by rw [h1]; exact fun p hp => (fo.part p hp).2, by rw [h1]; exact fo.init.few, by rw [h1, elaid]; unfold laidOf; rw [List.length_map], by rw [esz, ebags]; exact fo.init.tree.rise, by rw [ebags]; exact tl, by rw [esz, hall]; exact fo.hd⟩, by rw [h2]; exact ⟨fun e he => (by cases he), fun e he => (by cases he), List.nodup_nil⟩⟩
    have hlen : cf.nr.length = c.t.1.length := by rw [enr, nearsOf_len]
    refine b_ret (ew_call (cal_g_all C cf Sf T) hr (by decide) (aw_cons (ew_v 2 rfl (aw_one (ew_v 1 rfl ⟨sf, by rw [ea, hlen], ka', sto, by rw [hlen]; exact fo.pos, by rw [hlen]; exact Nat.le_trans tl (by decide), fun p H8 s8 np f8 ka8 sto8 ex8 in8 l8 => ?_⟩)))))
    have s8' : Same H3 H8 := ((f'.mono fun d hd => hd).trans (f8.mono fun d hd => by
      rcases List.mem_cons.mp hd with rfl | hd
      · simp [Kc.own]
      · rw [List.mem_singleton.mp hd]; simp [Kc.own])) |> fun z => see z
    exact q p H8 cf sf (none_back (kk.trans (see f')) np) (kk.trans s8') ⟨ewd, esz, ebags, enr, elaid, h1, hall⟩ l8
end
end SO
set_option Elab.async false
set_option linter.all false
set_option maxRecDepth 100000
set_option maxHeartbeats 4000000
/-! So63: the bags of an order, plain. -/
namespace SO
open PySem PySem.Spec PyProof.Rows L2
theorem extOne_mem {bag : List Nat} {ls : List (List Nat)} {o z y : Nat} (ho : o < ls.length) : y ∈ (extOne bag ls o).getD z [] ↔ y ∈ ls.getD z [] ∨ (z = o ∧ y ∈ bag) := by
  unfold extOne
  simp only [List.getD_eq_getElem?_getD, List.getElem?_set]
  by_cases h : o = z
  · subst h
    rw [if_pos rfl, if_pos ho]
    simp
  · rw [if_neg h]
    simp [Ne.symm h]
theorem extFold_mem {bag : List Nat} {z y : Nat} : ∀ (os : List Nat) (ls : List (List Nat)), (∀ o ∈ os, o < ls.length) → (y ∈ (os.foldl (extOne bag) ls).getD z [] ↔ y ∈ ls.getD z [] ∨ (z ∈ os ∧ y ∈ bag))
  | [], ls, h => by simp
  | o :: os, ls, h => by
    rw [List.foldl_cons, extFold_mem os _ (fun o' ho' => by unfold extOne; rw [List.length_set]; exact h o' (List.mem_cons_of_mem _ ho')), extOne_mem (h o List.mem_cons_self), List.mem_cons]
    constructor
    · rintro ((h1 | ⟨h1, h2⟩) | ⟨h1, h2⟩)
      · exact Or.inl h1
      · exact Or.inr ⟨Or.inl h1, h2⟩
      · exact Or.inr ⟨Or.inr h1, h2⟩
    · rintro (h1 | ⟨h1 | h1, h2⟩)
      · exact Or.inl (Or.inl h1)
      · exact Or.inl (Or.inr ⟨h1, h2⟩)
      · exact Or.inr ⟨h1, h2⟩
theorem extFold_lens {bag : List Nat} {z : Nat} {b : Nat} (hb : bag.length ≤ b) : ∀ (os : List Nat) (ls : List (List Nat)), os.Nodup → (∀ o ∈ os, o < ls.length) → ((os.foldl (extOne bag) ls).getD z []).length ≤ (ls.getD z []).length + (if z ∈ os then b else 0)
  | [], ls, _, h => by simp
  | o :: os, ls, hd, h => by
    obtain ⟨h1, h2⟩ := List.nodup_cons.mp hd
    rw [List.foldl_cons]
    refine Nat.le_trans (extFold_lens hb os _ h2 (fun o' ho' => by unfold extOne; rw [List.length_set]; exact h o' (List.mem_cons_of_mem _ ho'))) ?_
    have e : ((extOne bag ls o).getD z []).length ≤ (ls.getD z []).length + (if z = o then b else 0) := by
      unfold extOne
      simp only [List.getD_eq_getElem?_getD, List.getElem?_set]
      by_cases hz : o = z
      · subst hz
        rw [if_pos rfl, if_pos (h o List.mem_cons_self)]
        simp
        omega
      · rw [if_neg hz, if_neg (Ne.symm hz)]
        exact Nat.le_refl _
    by_cases hz : z = o
    · subst hz
      rw [if_pos rfl] at e
      rw [if_neg h1, if_pos List.mem_cons_self]
      omega
    · rw [if_neg hz] at e
      have : (if z ∈ o :: os then b else 0) = if z ∈ os then b else 0 := by
        simp [hz]
      rw [this]
      omega
/-- what the drawn sheet's names are: those below b stand alone, few others -/
structure Cls10 (ps : List Part) (many b : Nat) (ord : List Nat) : Prop where
  mn : many ≤ 12
  bm : b ≤ many
  pl : ps.length ≤ 12
  part : ∀ p ∈ ps, p.1.Pairwise (· < ·) ∧ ∀ x ∈ p.1, b ≤ x ∧ x < many
  ord : ord.Perm (List.range many)
theorem near0_mem {ps : List Part} {x y : Nat} : y ∈ near0 ps x ↔ y = x ∨ ∃ p ∈ ps, x ∈ p.1 ∧ y ∈ p.1 := by
  unfold near0
  rw [List.mem_cons, List.mem_flatMap]
  refine or_congr Iff.rfl ⟨fun ⟨p, hp, h⟩ => ?_, fun ⟨p, hp, h1, h2⟩ => ⟨p, hp, by rw [if_pos h1]; exact h2⟩⟩
  by_cases hx : x ∈ p.1
  · rw [if_pos hx] at h; exact ⟨p, hp, hx, h⟩
  · rw [if_neg hx] at h; cases h
theorem getD_range_map {α : Type} {f : Nat → α} {n x : Nat} {d : α} (h : x < n) : ((List.range n).map f).getD x d = f x := by
  rw [List.getD_eq_getElem?_getD, List.getElem?_map, List.getElem?_range h]
  rfl
section
variable {ps : List Part} {many b : Nat} {ord : List Nat}
theorem Cls10.len (h : Cls10 ps many b ord) : ord.length = many := by rw [h.ord.length_eq, List.length_range]
theorem Cls10.lt (h : Cls10 ps many b ord) {x : Nat} : x ∈ ord ↔ x < many := by rw [h.ord.mem_iff, List.mem_range]
theorem Cls10.nd (h : Cls10 ps many b ord) : ord.Nodup := h.ord.nodup_iff.mpr List.nodup_range
/-- who may be near whom -/
def kin (b many x y : Nat) : Prop := y = x ∨ (b ≤ x ∧ b ≤ y ∧ y < many)
theorem near_kin (h : Cls10 ps many b ord) : ∀ k, k ≤ ord.length → ∀ x, x < many → ∀ y ∈ (nearAt ps many ord k).getD x [], kin b many x y
  | 0, _, x, hx, y, hy => by
    unfold nearAt at hy
    rw [getD_range_map hx, near0_mem] at hy
    rcases hy with rfl | ⟨p, hp, h1, h2⟩
    · exact Or.inl rfl
    · exact Or.inr ⟨((h.part p hp).2 x h1).1, (h.part p hp).2 y h2⟩
  | k + 1, hk, x, hx, y, hy => by
    have ih := near_kin h k (by omega)
    have ho : ord.getD k 0 < many := h.lt.mp (List.mem_of_getElem? (getD_len (by omega)))
    have hbag : ∀ z ∈ bagAt (nearAt ps many ord k) ord k, kin b many (ord.getD k 0) z := fun z hz => by
      unfold bagAt at hz
      exact ih _ ho z (List.mem_filter.mp (sd_mem.mp hz)).1
    have hlt : ∀ z ∈ bagAt (nearAt ps many ord k) ord k, z < many := fun z hz => by
      rcases hbag z hz with rfl | ⟨_, _, h3⟩
      · exact ho
      · exact h3
    unfold nearAt extAll at hy
    rw [extFold_mem _ _ (fun o hoo => by rw [nearAt_len]; exact hlt o hoo)] at hy
    rcases hy with hy | ⟨h1, h2⟩
    · exact ih x hx y hy
    · have a1 := hbag x h1
      have a2 := hbag y h2
      unfold kin at a1 a2 ⊢
      omega
theorem near_lt (h : Cls10 ps many b ord) {k x y : Nat} (hk : k ≤ ord.length) (hx : x < many) (hy : y ∈ (nearAt ps many ord k).getD x []) : y < many := by
  rcases near_kin h k hk x hx y hy with rfl | ⟨_, _, h3⟩
  · exact hx
  · exact h3
theorem bag_lt (h : Cls10 ps many b ord) {k y : Nat} (hk : k < ord.length) (hy : y ∈ bagAt (nearAt ps many ord k) ord k) : y < many := by
  unfold bagAt at hy
  exact near_lt h (Nat.le_of_lt hk) (h.lt.mp (List.mem_of_getElem? (getD_len hk))) (List.mem_filter.mp (sd_mem.mp hy)).1
theorem near_step (h : Cls10 ps many b ord) {k x y : Nat} (hk : k < ord.length) : y ∈ (nearAt ps many ord (k + 1)).getD x [] ↔ y ∈ (nearAt ps many ord k).getD x [] ∨ (x ∈ bagAt (nearAt ps many ord k) ord k ∧ y ∈ bagAt (nearAt ps many ord k) ord k) := by
  show y ∈ (extAll _ _).getD x [] ↔ _
  unfold extAll
  exact extFold_mem _ _ (fun o hoo => by rw [nearAt_len]; exact bag_lt h hk hoo)
theorem near_up (h : Cls10 ps many b ord) {k x y : Nat} : ∀ j, k ≤ j → j ≤ ord.length → y ∈ (nearAt ps many ord k).getD x [] → y ∈ (nearAt ps many ord j).getD x []
  | 0, h1, _, hy => by rw [Nat.le_zero.mp h1] at hy; exact hy
  | j + 1, h1, h2, hy => by
    rcases Nat.lt_or_ge k (j + 1) with h3 | h3
    · exact (near_step h (by omega)).mpr (Or.inl (near_up h j (by omega) (by omega) hy))
    · rw [show j + 1 = k by omega]; exact hy
theorem bag_few (h : Cls10 ps many b ord) (hb : many ≤ b + 3) {k : Nat} (hk : k < ord.length) : (bagAt (nearAt ps many ord k) ord k).length ≤ 3 := by
  have ho : ord.getD k 0 < many := h.lt.mp (List.mem_of_getElem? (getD_len hk))
  have hkin : ∀ z ∈ bagAt (nearAt ps many ord k) ord k, kin b many (ord.getD k 0) z := fun z hz => by
    unfold bagAt at hz
    exact near_kin h k (Nat.le_of_lt hk) _ ho z (List.mem_filter.mp (sd_mem.mp hz)).1
  have hnd : (bagAt (nearAt ps many ord k) ord k).Nodup := (sd_lt _).imp fun h => Nat.ne_of_lt h
  by_cases hbo : b ≤ ord.getD k 0
  · have hl := sub_len (sm := [b, b + 1, b + 2]) (seen := bagAt (nearAt ps many ord k) ord k) ⟨hnd, fun z hz => by
      have := hkin z hz
      unfold kin at this
      have hz : z = b ∨ z = b + 1 ∨ z = b + 2 := by omega
      simpa using hz⟩
    simpa using hl
  · have hl := sub_len (sm := [ord.getD k 0]) (seen := bagAt (nearAt ps many ord k) ord k) ⟨hnd, fun z hz => by
      have := hkin z hz
      unfold kin at this
      have hz : z = ord.getD k 0 := by omega
      rw [hz]; exact List.mem_singleton.mpr rfl⟩
    exact Nat.le_trans hl (by show 1 ≤ 3; omega)
theorem flat_len {x : Nat} : ∀ {ps : List Part}, (∀ p ∈ ps, p.1.length ≤ 3) → (ps.flatMap fun p => if x ∈ p.1 then p.1 else []).length ≤ 3 * ps.length
  | [], _ => by simp
  | p :: ps, h => by
    rw [List.flatMap_cons, List.length_append, List.length_cons]
    have h1 := flat_len (x := x) (ps := ps) fun q hq => h q (List.mem_cons_of_mem _ hq)
    have h2 := h p List.mem_cons_self
    have : (if x ∈ p.1 then p.1 else []).length ≤ 3 := by
      by_cases hx : x ∈ p.1
      · rw [if_pos hx]; exact h2
      · rw [if_neg hx]; show 0 ≤ 3; omega
    omega
theorem part_few (h : Cls10 ps many b ord) (hb : many ≤ b + 3) {p : Part} (hp : p ∈ ps) : p.1.length ≤ 3 := by
  have hl := sub_len (sm := [b, b + 1, b + 2]) (seen := p.1) ⟨(h.part p hp).1.imp fun h => Nat.ne_of_lt h, fun z hz => by
    have := (h.part p hp).2 z hz
    have hz : z = b ∨ z = b + 1 ∨ z = b + 2 := by omega
    simpa using hz⟩
  simpa using hl
theorem near_len3 (h : Cls10 ps many b ord) (hb : many ≤ b + 3) {x : Nat} (hx : x < many) : ∀ k, k ≤ ord.length → ((nearAt ps many ord k).getD x []).length ≤ 1 + 3 * ps.length + 3 * k
  | 0, _ => by
    unfold nearAt
    rw [getD_range_map hx]
    unfold near0
    rw [List.length_cons]
    have := flat_len (x := x) fun p hp => part_few h hb hp
    omega
  | k + 1, hk => by
    have ih := near_len3 h hb hx k (by omega)
    have hf := bag_few h hb (k := k) (by omega)
    have := extFold_lens (z := x) hf (bagAt (nearAt ps many ord k) ord k) (nearAt ps many ord k) ((sd_lt _).imp fun h => Nat.ne_of_lt h) (fun o ho => by rw [nearAt_len]; exact bag_lt h (by omega) ho)
    show ((extAll _ _).getD x []).length ≤ _
    unfold extAll
    have h3 : (if x ∈ bagAt (nearAt ps many ord k) ord k then 3 else 0) ≤ 3 := by
      by_cases hx : x ∈ bagAt (nearAt ps many ord k) ord k
      · rw [if_pos hx]; omega
      · rw [if_neg hx]; omega
    omega
theorem Cls10.bg (h : Cls10 ps many b ord) (hb : many ≤ b + 3) (hm : many ≤ 10) (hp : ps.length ≤ 7) : BgOk ps many ord := by
  refine ⟨h.mn, h.pl, fun p hp x hx => ((h.part p hp).2 x hx).2, fun p hp => Nat.le_trans (part_few h hb hp) (by omega), fun x hx => h.lt.mp hx, by rw [h.len]; exact h.mn, fun k hk l hl => ?_⟩
  obtain ⟨x, hx, rfl⟩ := List.mem_iff_getElem.mp hl
  have hxm : x < many := by rw [nearAt_len] at hx; exact hx
  have e : (nearAt ps many ord k)[x] = (nearAt ps many ord k).getD x [] := by
    rw [List.getD_eq_getElem?_getD, List.getElem?_eq_getElem hx]; rfl
  rw [e]
  have h1 := near_len3 h hb hxm k hk
  rw [h.len] at hk
  exact ⟨by omega, fun y hy => near_lt h (by rw [h.len]; exact hk) hxm hy⟩
/-! ### the facts of bags -/
theorem bags_at {k : Nat} (hk : k < ord.length) : (bagsOf ps many ord).getD k [] = bagAt (nearAt ps many ord k) ord k := by
  unfold bagsOf
  exact getD_range_map hk
theorem take_not (h : Cls10 ps many b ord) {j k : Nat} (hk : k ≤ j) (hj : j < ord.length) : ord.getD j 0 ∉ ord.take k := fun z => by
  obtain ⟨i, hi, e⟩ := List.mem_iff_getElem.mp z
  rw [List.length_take] at hi
  rw [List.getElem_take] at e
  have e2 : ord.getD j 0 = ord[j] := by rw [List.getD_eq_getElem?_getD, List.getElem?_eq_getElem hj]; rfl
  rw [e2] at e
  have := nodup_ix h.nd (List.getElem?_eq_getElem (by omega) : ord[i]? = some ord[i]) (by rw [List.getElem?_eq_getElem hj, e])
  omega
theorem near_own (h : Cls10 ps many b ord) {k x : Nat} (hk : k ≤ ord.length) (hx : x < many) : x ∈ (nearAt ps many ord k).getD x [] := by
  refine near_up h k (Nat.zero_le _) hk ?_
  unfold nearAt
  rw [getD_range_map hx]
  exact List.mem_cons_self
theorem bag_mem {k x : Nat} : x ∈ bagAt (nearAt ps many ord k) ord k ↔ x ∈ (nearAt ps many ord k).getD (ord.getD k 0) [] ∧ x ∉ ord.take k := by
  unfold bagAt
  rw [sd_mem, List.mem_filter]
  simp
theorem bag_own (h : Cls10 ps many b ord) {k : Nat} (hk : k < ord.length) : ord.getD k 0 ∈ bagAt (nearAt ps many ord k) ord k :=
  bag_mem.mpr ⟨near_own h (Nat.le_of_lt hk) (h.lt.mp (List.mem_of_getElem? (getD_len hk))), take_not h (Nat.le_refl _) hk⟩
theorem bag_next (h : Cls10 ps many b ord) {k j x : Nat} (hkj : k < j) (hj : j < ord.length) (hx : x ∈ bagAt (nearAt ps many ord k) ord k) (ho : ord.getD j 0 ∈ bagAt (nearAt ps many ord k) ord k) (hn : x ∉ ord.take j) : x ∈ bagAt (nearAt ps many ord j) ord j :=
  bag_mem.mpr ⟨near_up h j hkj (Nat.le_of_lt hj) ((near_step h (by omega)).mpr (Or.inr ⟨ho, hx⟩)), hn⟩
theorem bag_part (h : Cls10 ps many b ord) {k x : Nat} {p : Part} (hk : k < ord.length) (hp : p ∈ ps) (hx : x ∈ p.1) (ho : ord.getD k 0 ∈ p.1) (hn : x ∉ ord.take k) : x ∈ bagAt (nearAt ps many ord k) ord k := by
  refine bag_mem.mpr ⟨near_up h k (Nat.zero_le _) (Nat.le_of_lt hk) ?_, hn⟩
  unfold nearAt
  rw [getD_range_map (h.lt.mp (List.mem_of_getElem? (getD_len hk)))]
  exact near0_mem.mpr (Or.inr ⟨p, hp, ho, hx⟩)
/-- the place of a name in the order -/
theorem ord_ix (h : Cls10 ps many b ord) {x : Nat} (hx : x < many) : ord.idxOf x < ord.length ∧ ord.getD (ord.idxOf x) 0 = x := by
  have hi := List.idxOf_lt_length_iff.mpr (h.lt.mpr hx)
  refine ⟨hi, ?_⟩
  rw [List.getD_eq_getElem?_getD, List.getElem?_eq_getElem hi, List.getElem_idxOf hi]
  rfl
theorem not_take (h : Cls10 ps many b ord) {x k : Nat} (hx : x < many) : x ∉ ord.take k ↔ k ≤ ord.idxOf x := by
  obtain ⟨h1, h2⟩ := ord_ix h hx
  constructor
  · intro hn
    rcases Nat.lt_or_ge (ord.idxOf x) k with hk | hk
    · refine absurd ?_ hn
      refine List.mem_iff_getElem.mpr ⟨ord.idxOf x, by rw [List.length_take]; omega, ?_⟩
      rw [List.getElem_take, List.getElem_idxOf h1]
    · exact hk
  · intro hk
    have := take_not h hk h1
    rw [h2] at this
    exact this
end
end SO
set_option Elab.async false
set_option linter.all false
set_option maxRecDepth 100000
set_option maxHeartbeats 4000000
/-! So64: the tree that is drawn is a right tree of bags. Plain. -/
namespace SO
open PySem PySem.Spec PyProof.Rows L2
structure GTr (many n root : Nat) (par rk : Nat → Nat) (B : Nat → List Nat) (ties : List Tie) : Prop where
  rlt : root < n
  tie : ∀ e ∈ ties, e.1 < e.2 ∧ e.2 < n
  nd : ties.Nodup
  len : ties.length + 1 = n
  adj : ∀ i j, ((i, j) ∈ ties ∨ (j, i) ∈ ties) ↔ (i < n ∧ j < n ∧ ((i ≠ root ∧ par i = j) ∨ (j ≠ root ∧ par j = i)))
  up : ∀ i, i < n → i ≠ root → par i < n ∧ rk (par i) < rk i
  rkn : ∀ i, i < n → rk i < n
  rise : ∀ i, i < n → Rise many (B i)
  low : ∀ j, j < n → j ≠ root → par j < j → ∀ x ∈ B j, x ∈ B (par j)
  top : ∀ x, x < many → ∃ t, t < n ∧ x ∈ B t ∧ ∀ i, i < n → x ∈ B i → i ≠ t → i ≠ root ∧ x ∈ B (par i)
theorem parB_mem {ord : List Nat} {bags : List (List Nat)} {k j : Nat} (hk : k < j) (hj : j < ord.length) (hm : ord.getD j 0 ∈ bags.getD k []) : parB ord bags k ≤ j ∧ ord.getD (parB ord bags k) 0 ∈ bags.getD k [] := by
  unfold parB
  have hjm : j ∈ (List.range' (k + 1) (ord.length - (k + 1))).filter fun j => decide (ord.getD j 0 ∈ bags.getD k []) := by
    rw [List.mem_filter, List.mem_range'_1]
    exact ⟨by omega, decide_eq_true hm⟩
  have hp : ((List.range' (k + 1) (ord.length - (k + 1))).filter fun j => decide (ord.getD j 0 ∈ bags.getD k [])).Pairwise (· < ·) := (List.pairwise_lt_range' (s := k + 1) (n := ord.length - (k + 1))).filter _
  cases h : ((List.range' (k + 1) (ord.length - (k + 1))).filter fun j => decide (ord.getD j 0 ∈ bags.getD k [])) with
  | nil => rw [h] at hjm; cases hjm
  | cons x xs =>
    rw [h] at hjm hp
    have hx : x ∈ (List.range' (k + 1) (ord.length - (k + 1))).filter fun j => decide (ord.getD j 0 ∈ bags.getD k []) := by rw [h]; exact List.mem_cons_self
    refine ⟨?_, of_decide_eq_true (List.mem_filter.mp hx).2⟩
    show x ≤ j
    rcases List.mem_cons.mp hjm with rfl | hj'
    · exact Nat.le_refl _
    · exact Nat.le_of_lt ((List.pairwise_cons.mp hp).1 j hj')
section
variable {ps : List Part} {many b : Nat} {ord : List Nat}
theorem gt_base (h : Cls10 ps many b ord) (hm : 0 < many) : GTr many many (many - 1) (parB ord (bagsOf ps many ord)) (fun i => many - 1 - i) (fun i => (bagsOf ps many ord).getD i []) (baseTies ord (bagsOf ps many ord)) := by
  have hl := h.len
  have hp : ∀ k, k < many - 1 → k < parB ord (bagsOf ps many ord) k ∧ parB ord (bagsOf ps many ord) k < many := fun k hk => by
    have := parB_lt (ord := ord) (bags := bagsOf ps many ord) (k := k) (by omega)
    omega
  have hm2 : ∀ i j, (i, j) ∈ baseTies ord (bagsOf ps many ord) ↔ i < many - 1 ∧ parB ord (bagsOf ps many ord) i = j := fun i j => by
    unfold baseTies
    rw [List.mem_map]
    constructor
    · rintro ⟨k, hk, e⟩
      have hk := List.mem_range.mp hk
      cases e
      exact ⟨by omega, rfl⟩
    · rintro ⟨h1, rfl⟩
      exact ⟨i, List.mem_range.mpr (by omega), rfl⟩
  refine ⟨by omega, fun e he => ?_, ?_, ?_, fun i j => ?_, fun i hi hr => ?_, fun i hi => by omega, fun i hi => ?_, fun j hj hr hlt => ?_, fun x hx => ?_⟩
  · obtain ⟨i, j⟩ := e
    obtain ⟨h1, rfl⟩ := (hm2 i j).mp he
    have := hp i h1
    exact this
  · unfold baseTies
    refine List.pairwise_map.mpr (List.nodup_range.imp fun hne z => hne ?_)
    exact congrArg Prod.fst z
  · unfold baseTies
    rw [List.length_map, List.length_range]
    omega
  · rw [hm2, hm2]
    constructor
    · rintro (⟨h1, h2⟩ | ⟨h1, h2⟩)
      · have := hp _ h1
        exact ⟨by omega, by omega, Or.inl ⟨by omega, h2⟩⟩
      · have := hp _ h1
        exact ⟨by omega, by omega, Or.inr ⟨by omega, h2⟩⟩
    · rintro ⟨h1, h2, ⟨h3, h4⟩ | ⟨h3, h4⟩⟩
      · exact Or.inl ⟨by omega, h4⟩
      · exact Or.inr ⟨by omega, h4⟩
  · have := hp i (by omega)
    exact ⟨this.2, by show many - 1 - _ < many - 1 - i; omega⟩
  · show Rise many ((bagsOf ps many ord).getD i [])
    rw [bags_at (by omega)]
    refine ⟨?_, fun n hn => bag_lt h (by omega) hn⟩
    unfold bagAt
    exact sd_lt _
  · have := hp j (by omega)
    omega
  · obtain ⟨h1, h2⟩ := ord_ix h hx
    refine ⟨ord.idxOf x, by omega, ?_, fun i hi hxi hne => ?_⟩
    · show x ∈ (bagsOf ps many ord).getD (ord.idxOf x) []
      rw [bags_at h1]
      have := bag_own h h1
      rw [h2] at this
      exact this
    · have hxi : x ∈ (bagsOf ps many ord).getD i [] := hxi
      have hxi2 := hxi
      rw [bags_at (by omega)] at hxi2
      have hle := (not_take h hx).mp (bag_mem.mp hxi2).2
      have hlt : i < ord.idxOf x := by omega
      refine ⟨by omega, ?_⟩
      show x ∈ (bagsOf ps many ord).getD (parB ord (bagsOf ps many ord) i) []
      obtain ⟨p1, p2⟩ := parB_mem (ord := ord) (bags := bagsOf ps many ord) hlt h1 (by rw [h2]; exact hxi)
      have p3 := hp i (by omega)
      rw [bags_at (by omega)]
      rw [bags_at (by omega)] at p2
      exact bag_next h p3.1 (by omega) hxi2 p2 ((not_take h hx).mpr p1)
theorem gt_more {n root at_ : Nat} {par rk : Nat → Nat} {B : Nat → List Nat} {ties : List Tie} {sub : List Nat} (g : GTr many n root par rk B ties) (ha : at_ < n) (hs : sub.Sublist (B at_)) : GTr many (n + 1) root (fun l => if l = n then at_ else par l) (fun l => if l = n then n else rk l) (fun l => if l = n then sub else B l) (ties ++ [(at_, n)]) := by
  have hr := g.rlt
  refine ⟨by omega, fun e he => ?_, ?_, ?_, fun i j => ?_, fun i hi hr => ?_, fun i hi => ?_, fun i hi => ?_, fun j hj hr hlt x hx => ?_, fun x hx => ?_⟩
  · rcases List.mem_append.mp he with he | he
    · have := g.tie e he; omega
    · rw [List.mem_singleton.mp he]; exact ⟨ha, Nat.lt_succ_self _⟩
  · refine List.nodup_append.mpr ⟨g.nd, List.nodup_cons.mpr ⟨by simp, List.nodup_nil⟩, fun e he f hf z => ?_⟩
    rw [List.mem_singleton.mp hf] at z
    have := (g.tie e he).2
    rw [z] at this
    exact Nat.lt_irrefl _ this
  · have := g.len
    rw [List.length_append, List.length_singleton]
    omega
  · have ga := g.adj i j
    have gt : ∀ i j, (i, j) ∈ ties → i < n ∧ j < n := fun i j h => by have := g.tie _ h; simp at this; omega
    simp only [List.mem_append, List.mem_singleton, Prod.mk.injEq]
    constructor
    · rintro ((h1 | ⟨rfl, rfl⟩) | (h1 | ⟨rfl, rfl⟩))
      · have h2 := gt _ _ h1
        obtain ⟨a1, a2, a3⟩ := ga.mp (Or.inl h1)
        rw [if_neg (by omega), if_neg (by omega)]
        exact ⟨by omega, by omega, a3⟩
      · exact ⟨by omega, by omega, Or.inr ⟨by omega, by rw [if_pos rfl]⟩⟩
      · have h2 := gt _ _ h1
        obtain ⟨a1, a2, a3⟩ := ga.mp (Or.inr h1)
        rw [if_neg (by omega), if_neg (by omega)]
        exact ⟨by omega, by omega, a3⟩
      · exact ⟨by omega, by omega, Or.inl ⟨by omega, by rw [if_pos rfl]⟩⟩
    · rintro ⟨h1, h2, h3⟩
      by_cases hi : i = n
      · by_cases hj : j = n
        · rw [if_pos hi, if_pos hj] at h3; omega
        · rw [if_pos hi, if_neg hj] at h3
          rcases h3 with ⟨_, h3⟩ | ⟨h3, h4⟩
          · exact Or.inr (Or.inr ⟨h3.symm, hi⟩)
          · have := (g.up j (by omega) h3).1; omega
      · by_cases hj : j = n
        · rw [if_neg hi, if_pos hj] at h3
          rcases h3 with ⟨h3, h4⟩ | ⟨_, h3⟩
          · have := (g.up i (by omega) h3).1; omega
          · exact Or.inl (Or.inr ⟨h3.symm, hj⟩)
        · rw [if_neg hi, if_neg hj] at h3
          rcases ga.mpr ⟨by omega, by omega, h3⟩ with h | h
          · exact Or.inl (Or.inl h)
          · exact Or.inr (Or.inl h)
  · try dsimp only
    by_cases h : i = n
    · subst h
      rw [if_pos rfl, if_pos rfl, if_neg (by omega)]
      exact ⟨by omega, g.rkn _ ha⟩
    · have hu := g.up i (by omega) hr
      rw [if_neg h, if_neg h, if_neg (by omega)]
      exact ⟨by omega, hu.2⟩
  · try dsimp only
    by_cases h : i = n
    · rw [if_pos h]; omega
    · have := g.rkn i (by omega)
      rw [if_neg h]; omega
  · try dsimp only
    by_cases h : i = n
    · rw [if_pos h]
      have hb := g.rise at_ ha
      exact ⟨hb.up.sublist hs, fun x hx => hb.lt x (hs.subset hx)⟩
    · rw [if_neg h]
      exact g.rise i (by omega)
  · try dsimp only at hlt hx ⊢
    by_cases h : j = n
    · rw [if_pos h] at hlt hx ⊢
      rw [if_neg (by omega)]
      exact hs.subset hx
    · rw [if_neg h] at hlt hx ⊢
      have := (g.up j (by omega) hr).1
      rw [if_neg (by omega)]
      exact g.low j (by omega) hr hlt x hx
  · obtain ⟨t, h1, h2, h3⟩ := g.top x hx
    refine ⟨t, by omega, by (try dsimp only); rw [if_neg (by omega)]; exact h2, fun i hi hxi hne => ?_⟩
    try dsimp only at hxi ⊢
    by_cases h : i = n
    · rw [if_pos h] at hxi
      rw [if_pos h, if_neg (by omega)]
      exact ⟨by omega, hs.subset hxi⟩
    · rw [if_neg h] at hxi
      obtain ⟨a1, a2⟩ := h3 i (by omega) hxi hne
      have := (g.up i (by omega) a1).1
      rw [if_neg h, if_neg (by omega)]
      exact ⟨a1, a2⟩
theorem gt_congr {n root : Nat} {par rk : Nat → Nat} {B B' : Nat → List Nat} {ties : List Tie} (g : GTr many n root par rk B ties) (h : ∀ i, i < n → B i = B' i) : GTr many n root par rk B' ties := by
  refine ⟨g.rlt, g.tie, g.nd, g.len, g.adj, g.up, g.rkn, fun i hi => by rw [← h i hi]; exact g.rise i hi, fun j hj hr hl x hx => ?_, fun x hx => ?_⟩
  · rw [← h j hj] at hx
    rw [← h _ (g.up j hj hr).1]
    exact g.low j hj hr hl x hx
  · obtain ⟨t, h1, h2, h3⟩ := g.top x hx
    refine ⟨t, h1, by rw [← h t h1]; exact h2, fun i hi hxi hne => ?_⟩
    rw [← h i hi] at hxi
    obtain ⟨a1, a2⟩ := h3 i hi hxi hne
    exact ⟨a1, by rw [← h _ (g.up i hi a1).1]; exact a2⟩
theorem gt_grown (h : Cls10 ps many b ord) (hm : 0 < many) {m : Nat} {bags : List (List Nat)} {ties : List Tie} (hg : Grown ps many ord m bags ties) : ∃ par rk, GTr many bags.length (many - 1) par rk (fun i => bags.getD i []) ties ∧ ∀ i, i < many → bags.getD i [] = (bagsOf ps many ord).getD i [] := by
  induction hg with
  | base =>
    have hl : (bagsOf ps many ord).length = many := by simp [bagsOf, h.len]
    rw [hl]
    exact ⟨_, _, gt_base h hm, fun _ _ => rfl⟩
  | @more m2 bags2 ties2 at_ sub hg ha hs ih =>
    obtain ⟨par, rk, g, e⟩ := ih
    have hl := hg.len
    have hlen := h.len
    rw [List.length_append, List.length_singleton]
    refine ⟨_, _, gt_congr (gt_more g ha hs) fun i hi => ?_, fun i hi => ?_⟩
    · simp only [List.getD_eq_getElem?_getD]
      by_cases h : i = bags2.length
      · rw [if_pos h, h, List.getElem?_append_right (Nat.le_refl _), Nat.sub_self]; rfl
      · rw [if_neg h, List.getElem?_append_left (by omega)]
    · rw [← e i hi]
      simp only [List.getD_eq_getElem?_getD]
      rw [List.getElem?_append_left (by omega)]
theorem take1_sub {l : List Nat} {x : Nat} (h : x ∈ l.take 1) : x ∈ l := List.mem_of_mem_take h
theorem gt_wide {n root : Nat} {par rk : Nat → Nat} {B : Nat → List Nat} {ties : List Tie} (g : GTr many n root par rk B ties) {e : Tie} (he : e ∈ ties) : GTr many n root par rk (fun l => if l = e.1 then sd (B e.1 ++ (B e.2).take 1) else B l) ties := by
  obtain ⟨i, j⟩ := e
  have ht := g.tie _ he
  try dsimp only at ht ⊢
  have hmem : ∀ z x, x ∈ (if z = i then sd (B i ++ (B j).take 1) else B z) ↔ x ∈ B z ∨ (z = i ∧ x ∈ (B j).take 1) := fun z x => by
    by_cases h : z = i
    · rw [if_pos h, sd_mem, List.mem_append, h]; simp
    · rw [if_neg h]; simp [h]
  refine ⟨g.rlt, g.tie, g.nd, g.len, g.adj, g.up, g.rkn, fun z hz => ?_, fun z hz hr hl x hx => ?_, fun x hx => ?_⟩
  · by_cases h : z = i
    · try dsimp only
      rw [if_pos h]
      refine sd_rise fun x hx => ?_
      rcases List.mem_append.mp hx with hx | hx
      · exact (g.rise i (by omega)).lt x hx
      · exact (g.rise j ht.2).lt x (take1_sub hx)
    · try dsimp only
      rw [if_neg h]
      exact g.rise z hz
  · rw [hmem] at hx ⊢
    rcases hx with hx | ⟨rfl, hx⟩
    · exact Or.inl (g.low z hz hr hl x hx)
    · have hxj := take1_sub hx
      obtain ⟨_, _, h3⟩ := (g.adj z j).mp (Or.inl he)
      rcases h3 with ⟨_, h3⟩ | ⟨h3, h4⟩
      · omega
      · have := g.low j ht.2 h3 (by omega) x hxj
        rw [h4] at this
        exact Or.inl (g.low z hz hr hl x this)
  · obtain ⟨t, h1, h2, h3⟩ := g.top x hx
    refine ⟨t, h1, (hmem t x).mpr (Or.inl h2), fun z hz hxz hne => ?_⟩
    rw [hmem] at hxz
    rw [hmem]
    rcases hxz with hxz | ⟨rfl, hxz⟩
    · obtain ⟨a1, a2⟩ := h3 z hz hxz hne
      exact ⟨a1, Or.inl a2⟩
    · have hxj := take1_sub hxz
      obtain ⟨_, _, h4⟩ := (g.adj z j).mp (Or.inl he)
      rcases h4 with ⟨h4, h5⟩ | ⟨h4, h5⟩
      · exact ⟨h4, Or.inl (by rw [h5]; exact hxj)⟩
      · have := g.low j ht.2 h4 (by omega) x hxj
        rw [h5] at this
        obtain ⟨a1, a2⟩ := h3 z hz this hne
        exact ⟨a1, Or.inl a2⟩
end
end SO
set_option Elab.async false
set_option linter.all false
set_option maxRecDepth 100000
set_option maxHeartbeats 4000000
/-! So65: the drawn tree, renumbered. Plain. -/
namespace SO
open PySem PySem.Spec PyProof.Rows L2
structure Prm (n : Nat) (f g : Nat → Nat) : Prop where
  pf : ∀ i, i < n → f i < n ∧ g (f i) = i
  pg : ∀ k, k < n → g k < n ∧ f (g k) = k
theorem prm_of {n : Nat} {trn : List Nat} (h : trn.Perm (List.range n)) : Prm n (fun i => trn.getD i 0) (fun k => trn.idxOf k) := by
  have hl : trn.length = n := by rw [h.length_eq, List.length_range]
  have hm : ∀ k, k ∈ trn ↔ k < n := fun k => by rw [h.mem_iff, List.mem_range]
  have hd : trn.Nodup := h.nodup_iff.mpr List.nodup_range
  have h2 : ∀ k, k < n → trn.idxOf k < n ∧ trn.getD (trn.idxOf k) 0 = k := fun k hk => by
    have hi := List.idxOf_lt_length_iff.mpr ((hm k).mpr hk)
    refine ⟨by omega, ?_⟩
    rw [List.getD_eq_getElem?_getD, List.getElem?_eq_getElem hi, List.getElem_idxOf hi]
    rfl
  refine ⟨fun i hi => ?_, h2⟩
  have e := getD_len (ns := trn) (a := i) (by omega)
  have hlt := (hm _).mp (List.mem_of_getElem? e)
  refine ⟨hlt, ?_⟩
  obtain ⟨a1, a2⟩ := h2 _ hlt
  refine nodup_ix hd (b := trn.getD i 0) ?_ e
  rw [getD_len (by omega), a2]
theorem sp2_eq {a b c d : Nat} : sp2 a b = (c, d) ↔ (a ≤ b ∧ a = c ∧ b = d) ∨ (b < a ∧ b = c ∧ a = d) := by
  unfold sp2
  rw [Prod.mk.injEq]
  omega
theorem nodup_map_on {α β : Type} {f : α → β} : ∀ {l : List α}, (∀ x ∈ l, ∀ y ∈ l, f x = f y → x = y) → l.Nodup → (l.map f).Nodup
  | [], _, _ => List.nodup_nil
  | a :: l, h, hd => by
    obtain ⟨h1, h2⟩ := List.nodup_cons.mp hd
    refine List.nodup_cons.mpr ⟨fun z => ?_, nodup_map_on (fun x hx y hy => h x (List.mem_cons_of_mem _ hx) y (List.mem_cons_of_mem _ hy)) h2⟩
    obtain ⟨y, hy, e⟩ := List.mem_map.mp z
    rw [h a List.mem_cons_self y (List.mem_cons_of_mem _ hy) e.symm] at h1
    exact h1 hy
theorem near_nodup {ts : List Tie} (hd : ts.Nodup) (ht : ∀ t ∈ ts, t.1 < t.2) (i : Nat) : (near ts i).Nodup := by
  unfold near
  refine (sortN_perm _).nodup_iff.mpr (nodup_map_on (fun x hx y hy e => ?_) (hd.filter _))
  obtain ⟨x1, x2⟩ := List.mem_filter.mp hx
  obtain ⟨y1, y2⟩ := List.mem_filter.mp hy
  have := ht x x1
  have := ht y y1
  have x3 : i = x.1 ∨ i = x.2 := by simpa using x2
  have y3 : i = y.1 ∨ i = y.2 := by simpa using y2
  refine Prod.ext ?_ ?_ <;> omega
section
variable {many n root : Nat} {par rk f g' : Nat → Nat} {B : Nat → List Nat} {ties : List Tie} {t : TreeD}
structure Rn (n : Nat) (f g : Nat → Nat) (B : Nat → List Nat) (ties : List Tie) (t : TreeD) : Prop where
  prm : Prm n f g
  bags : t.1 = (List.range n).map fun k => B (g k)
  ties : t.2.Perm (ties.map fun e => sp2 (f e.1) (f e.2))
  le : t.2.Pairwise tieLe
theorem Rn.len (r : Rn n f g' B ties t) : t.1.length = n := by rw [r.bags, List.length_map, List.length_range]
theorem Rn.tie (r : Rn n f g' B ties t) (g : GTr many n root par rk B ties) : ∀ e ∈ t.2, e.1 < e.2 ∧ e.2 < n := fun e he => by
  obtain ⟨d, hd, rfl⟩ := List.mem_map.mp (r.ties.mem_iff.mp he)
  have h := g.tie d hd
  have h1 := r.prm.pf d.1 (by omega)
  have h2 := r.prm.pf d.2 h.2
  have hne : f d.1 ≠ f d.2 := fun z => by rw [z, h2.2] at h1; omega
  unfold sp2
  dsimp only
  omega
theorem Rn.nd (r : Rn n f g' B ties t) (g : GTr many n root par rk B ties) : t.2.Nodup := by
  refine r.ties.nodup_iff.mpr (nodup_map_on (fun x hx y hy e => ?_) g.nd)
  have a := g.tie x hx
  have b := g.tie y hy
  have x1 := r.prm.pf x.1 (by omega)
  have x2 := r.prm.pf x.2 a.2
  have y1 := r.prm.pf y.1 (by omega)
  have y2 := r.prm.pf y.2 b.2
  unfold sp2 at e
  rw [Prod.mk.injEq] at e
  have h : (f x.1 = f y.1 ∧ f x.2 = f y.2) ∨ (f x.1 = f y.2 ∧ f x.2 = f y.1) := by omega
  rcases h with ⟨h1, h2⟩ | ⟨h1, h2⟩
  · rw [h1, y1.2] at x1
    rw [h2, y2.2] at x2
    exact Prod.ext x1.2.symm x2.2.symm
  · rw [h1, y2.2] at x1
    rw [h2, y1.2] at x2
    omega
theorem Rn.nbs (r : Rn n f g' B ties t) (g : GTr many n root par rk B ties) (i j : Nat) : j ∈ near t.2 i ↔ (i < n ∧ j < n ∧ ((i ≠ f root ∧ f (par (g' i)) = j) ∨ (j ≠ f root ∧ f (par (g' j)) = i))) := by
  have hroot := r.prm.pf root g.rlt
  rw [near_mem]
  have hm : ∀ a b, (a, b) ∈ t.2 ↔ ∃ e ∈ ties, sp2 (f e.1) (f e.2) = (a, b) := fun a b => by rw [r.ties.mem_iff, List.mem_map]
  have key : ((i, j) ∈ t.2 ∨ (j, i) ∈ t.2) ↔ (i < n ∧ j < n ∧ ((g' i, g' j) ∈ ties ∨ (g' j, g' i) ∈ ties)) := by
    rw [hm, hm]
    constructor
    · intro h
      have h : ∃ e ∈ ties, (f e.1 = i ∧ f e.2 = j) ∨ (f e.1 = j ∧ f e.2 = i) := by
        rcases h with ⟨e, he, h⟩ | ⟨e, he, h⟩
        · exact ⟨e, he, by rw [sp2_eq] at h; omega⟩
        · exact ⟨e, he, by rw [sp2_eq] at h; omega⟩
      obtain ⟨e, he, h⟩ := h
      have ht := g.tie e he
      have h1 := r.prm.pf e.1 (by omega)
      have h2 := r.prm.pf e.2 ht.2
      rcases h with ⟨rfl, rfl⟩ | ⟨rfl, rfl⟩
      · exact ⟨h1.1, h2.1, Or.inl (by rw [h1.2, h2.2]; exact he)⟩
      · exact ⟨h2.1, h1.1, Or.inr (by rw [h1.2, h2.2]; exact he)⟩
    · rintro ⟨hi, hj, h⟩
      have gi := r.prm.pg i hi
      have gj := r.prm.pg j hj
      rcases h with h | h
      · rcases Nat.le_total i j with hle | hle
        · exact Or.inl ⟨_, h, by rw [sp2_eq]; dsimp only; rw [gi.2, gj.2]; omega⟩
        · exact Or.inr ⟨_, h, by rw [sp2_eq]; dsimp only; rw [gi.2, gj.2]; omega⟩
      · rcases Nat.le_total i j with hle | hle
        · exact Or.inl ⟨_, h, by rw [sp2_eq]; dsimp only; rw [gi.2, gj.2]; omega⟩
        · exact Or.inr ⟨_, h, by rw [sp2_eq]; dsimp only; rw [gi.2, gj.2]; omega⟩
  rw [key]
  refine and_congr_right fun hi => and_congr_right fun hj => ?_
  have gi := r.prm.pg i hi
  have gj := r.prm.pg j hj
  rw [g.adj]
  have hx : ∀ a c, a < n → c < n → ((g' a ≠ root ∧ par (g' a) = g' c) ↔ (a ≠ f root ∧ f (par (g' a)) = c)) := fun a c ha hc => by
    have ga := r.prm.pg a ha
    have gc := r.prm.pg c hc
    constructor
    · rintro ⟨h1, h2⟩
      exact ⟨fun z => h1 (by rw [z, hroot.2]), by rw [h2, gc.2]⟩
    · rintro ⟨h1, h2⟩
      have h3 : g' a ≠ root := fun z => h1 (by rw [← z, ga.2])
      refine ⟨h3, ?_⟩
      have hp := r.prm.pf _ (g.up _ ga.1 h3).1
      rw [← hp.2, h2]
  rw [hx i j hi hj, hx j i hj hi]
  exact ⟨fun h => h.2.2, fun h => ⟨gi.1, gj.1, h⟩⟩
theorem Rn.rtree (r : Rn n f g' B ties t) (g : GTr many n root par rk B ties) : RTree n (f root) (fun k => f (par (g' k))) (fun k => rk (g' k)) (near t.2) := by
  have hroot := r.prm.pf root g.rlt
  refine ⟨near_nodup (r.nd g) fun e he => (r.tie g e he).1, r.nbs g, fun i hi hne => ?_, fun i hi => g.rkn _ (r.prm.pg i hi).1⟩
  have gi := r.prm.pg i hi
  have h3 : g' i ≠ root := fun z => hne (by rw [← z, gi.2])
  have hu := g.up _ gi.1 h3
  have hp := r.prm.pf _ hu.1
  exact ⟨hp.1, by show rk (g' (f (par (g' i)))) < _; rw [hp.2]; exact hu.2⟩
theorem Rn.tree (r : Rn n f g' B ties t) (g : GTr many n root par rk B ties) {sz : List Nat} {ns : List (List Nat)} (hsz : sz.length = many) (hn : n ≤ 12) (hparts : ∀ l ∈ ns, ∃ i, i < n ∧ ∀ x ∈ l, x ∈ B i) : BagTree sz ns t := by
  have T := r.rtree g
  have hl := r.len
  have hB : ∀ k, k < n → t.1.getD k [] = B (g' k) := fun k hk => by rw [r.bags]; exact getD_range_map hk
  refine ⟨⟨by rw [hl]; exact r.tie g, by rw [hl, r.ties.length_eq, List.length_map]; exact g.len, ?_, T.nd, ?_⟩, by rw [hl]; exact hn, fun b hb => ?_, fun l hlm => ?_, fun x hx => ?_⟩
  · refine List.Pairwise.imp_of_mem ?_ (r.le.and (r.nd g))
    intro a b _ _ h
    obtain ⟨h1, h2⟩ := h
    unfold tieLe at h1
    unfold tieLt
    rcases h1 with h1 | ⟨h1, h3⟩
    · exact Or.inl h1
    · refine Or.inr ⟨h1, ?_⟩
      rcases Nat.lt_or_eq_of_le h3 with h3 | h3
      · exact h3
      · exact absurd (Prod.ext h1 h3) h2
  · rw [hl]
    refine hangs_top (par := fun k => f (par (g' k))) (rk := fun k => rk (g' k)) (top := f root) T.nd List.nodup_range (List.mem_range.mpr (r.prm.pf root g.rlt).1) fun x hx hne => ?_
    have hx := List.mem_range.mp hx
    have hu := T.up x hx hne
    exact ⟨List.mem_range.mpr hu.1, (T.nbs x _).mpr ⟨hx, hu.1, Or.inl ⟨hne, rfl⟩⟩, hu.2⟩
  · rw [r.bags] at hb
    obtain ⟨k, hk, rfl⟩ := List.mem_map.mp hb
    rw [hsz]
    exact g.rise _ (r.prm.pg k (List.mem_range.mp hk)).1
  · obtain ⟨i, hi, h⟩ := hparts l hlm
    have fi := r.prm.pf i hi
    refine ⟨B (g' (f i)), ?_, by rw [fi.2]; exact h⟩
    rw [r.bags]
    exact List.mem_map.mpr ⟨f i, List.mem_range.mpr fi.1, rfl⟩
  · rw [hsz] at hx
    obtain ⟨tp, h1, h2, h3⟩ := g.top x hx
    have ftp := r.prm.pf tp h1
    have hmem : ∀ k, k ∈ ((List.range t.1.length).filter fun i => decide (x ∈ t.1.getD i [])) ↔ k < n ∧ x ∈ B (g' k) := fun k => by
      rw [hl, List.mem_filter, List.mem_range, decide_eq_true_eq]
      exact and_congr_right fun hk => by rw [hB k hk]
    have htop : f tp ∈ ((List.range t.1.length).filter fun i => decide (x ∈ t.1.getD i [])) := (hmem _).mpr ⟨ftp.1, by rw [ftp.2]; exact h2⟩
    refine ⟨fun z => by rw [z] at htop; (cases htop), ?_⟩
    refine hangs_top (par := fun k => f (par (g' k))) (rk := fun k => rk (g' k)) (top := f tp) T.nd (List.nodup_range.filter _) htop fun k hk hne => ?_
    obtain ⟨k1, k2⟩ := (hmem k).mp hk
    have gk := r.prm.pg k k1
    obtain ⟨a1, a2⟩ := h3 _ gk.1 k2 fun z => hne (by rw [← z, gk.2])
    have hkr : k ≠ f root := fun z => a1 (by rw [z, (r.prm.pf root g.rlt).2])
    have hu := T.up k k1 hkr
    have hp := r.prm.pf _ (g.up _ gk.1 a1).1
    exact ⟨(hmem _).mpr ⟨hu.1, by show x ∈ B (g' (f (par (g' k)))); rw [hp.2]; exact a2⟩, (T.nbs k _).mpr ⟨k1, hu.1, Or.inl ⟨hkr, rfl⟩⟩, hu.2⟩
end
/-- the least place of some names -/
theorem first_ix : ∀ (l : List Nat) (p : Nat → Nat), l ≠ [] → ∃ a ∈ l, ∀ x ∈ l, p a ≤ p x
  | [], _, h => absurd rfl h
  | [a], p, _ => ⟨a, List.mem_singleton.mpr rfl, fun x hx => by rw [List.mem_singleton.mp hx]; exact Nat.le_refl _⟩
  | a :: c :: l, p, _ => by
    obtain ⟨d, hd, h⟩ := first_ix (c :: l) p (by simp)
    rcases Nat.le_total (p a) (p d) with hle | hle
    · refine ⟨a, List.mem_cons_self, fun x hx => ?_⟩
      rcases List.mem_cons.mp hx with rfl | hx
      · exact Nat.le_refl _
      · exact Nat.le_trans hle (h x hx)
    · refine ⟨d, List.mem_cons_of_mem _ hd, fun x hx => ?_⟩
      rcases List.mem_cons.mp hx with rfl | hx
      · exact hle
      · exact h x hx
theorem drawn_tree {ps : List Part} {many b : Nat} {t : TreeD} {sz : List Nat} (hc : ∀ ord : List Nat, ord.Perm (List.range many) → Cls10 ps many b ord) (hm : 0 < many) (hm10 : many ≤ 10) (hsz : sz.length = many) (d : Drawn ps many t) : BagTree sz (ps.map (·.1)) t ∧ ∃ root par rk, RTree t.1.length root par rk (near t.2) := by
  obtain ⟨ord, m, bags, ties, bags', trn, ho, h2, hg, hw, ht, e1, e2, e3⟩ := d.ex
  have h := hc ord ho
  obtain ⟨par, rk, g, eb⟩ := gt_grown h hm hg
  have hlen := hg.len
  have hol := h.len
  have g2 : GTr many bags.length (many - 1) par rk (fun l => bags'.getD l []) ties ∧ ∀ i x, i < bags.length → x ∈ bags.getD i [] → x ∈ bags'.getD i [] := by
    rcases hw with rfl | ⟨e, he, rfl⟩
    · exact ⟨g, fun _ _ _ hx => hx⟩
    · have hlt := g.tie e he
      have hz : ∀ i, i < bags.length → (if i = e.1 then sd (bags.getD e.1 [] ++ (bags.getD e.2 []).take 1) else bags.getD i []) = (bags.set e.1 (sd (bags.getD e.1 [] ++ (bags.getD e.2 []).take 1))).getD i [] := fun i hi => by
        by_cases hie : i = e.1
        · rw [if_pos hie, hie, List.getD_eq_getElem?_getD (l := bags.set _ _), List.getElem?_set, if_pos rfl, if_pos (by omega)]; rfl
        · rw [if_neg hie, List.getD_eq_getElem?_getD (l := bags.set _ _), List.getElem?_set, if_neg (Ne.symm hie), List.getD_eq_getElem?_getD]
      refine ⟨gt_congr (gt_wide g he) hz, fun i x hi hx => ?_⟩
      rw [← hz i hi]
      by_cases hie : i = e.1
      · rw [if_pos hie, sd_mem, List.mem_append]
        rw [hie] at hx
        exact Or.inl hx
      · rw [if_neg hie]; exact hx
  have r : Rn bags.length (fun i => trn.getD i 0) (fun k => trn.idxOf k) (fun l => bags'.getD l []) ties t := ⟨prm_of ht, e1, e2, e3⟩
  refine ⟨r.tree g2.1 hsz (by omega) fun l hl => ?_, ?_⟩
  · obtain ⟨p, hp, rfl⟩ := List.mem_map.mp hl
    by_cases hn : p.1 = []
    · exact ⟨0, by omega, fun x hx => by rw [hn] at hx; cases hx⟩
    · obtain ⟨a, ha, hmin⟩ := first_ix p.1 (fun x => ord.idxOf x) hn
      have ham := ((h.part p hp).2 a ha).2
      obtain ⟨i1, i2⟩ := ord_ix h ham
      refine ⟨ord.idxOf a, by omega, fun x hx => g2.2 _ x (by omega) ?_⟩
      rw [eb _ (by omega), bags_at i1]
      exact bag_part h i1 hp hx (by rw [i2]; exact ha) ((not_take h ((h.part p hp).2 x hx).2).mpr (hmin x hx))
  · rw [r.len]
    exact ⟨_, _, _, r.rtree g2.1⟩
theorem nbOf_nears {t : TreeD} {root : Nat} {par rk : Nat → Nat} (T : RTree t.1.length root par rk (near t.2)) : nbOf (nearsOf t) = near t.2 := by
  funext i
  unfold nbOf nearsOf
  by_cases hi : i < t.1.length
  · exact getD_range_map hi
  · rw [List.getD_eq_getElem?_getD, List.getElem?_eq_none (by rw [List.length_map, List.length_range]; omega)]
    cases h : near t.2 i with
    | nil => rfl
    | cons x xs =>
      have hx : x ∈ near t.2 i := by rw [h]; exact List.mem_cons_self
      exact absurd ((T.nbs i x).mp hx).1 hi
end SO
set_option Elab.async false
set_option linter.all false
set_option maxRecDepth 100000
set_option maxHeartbeats 4000000
/-! So66: what a history keeps. Plain. -/
namespace SO
open PySem PySem.Spec PyProof.Rows L2
def setH (h : Held) (n : Nat) (v : Option Nat) : Held := fun m => if m = n then v else h m
theorem held_set {ws : List (Nat × Nat)} {n : Nat} {v : Option Nat} : held (setW ws n v) = setH (held ws) n v := by
  funext m
  cases v with
  | none => exact lookup_drop n m ws
  | some u => exact lookup_put ws n u m
theorem setP_names {ps : List Part} {k : Nat} {ws : List Int} : (setP ps k ws).map (·.1) = ps.map (·.1) := by
  unfold setP
  refine List.ext_getElem? fun i => ?_
  rw [List.getElem?_map, List.getElem?_map, List.getElem?_set]
  by_cases h : k = i
  · subst h
    rw [if_pos rfl]
    by_cases hk : k < ps.length
    · rw [if_pos hk, List.getD_eq_getElem?_getD, List.getElem?_eq_getElem hk]
      rfl
    · rw [if_neg hk, List.getElem?_eq_none (by omega)]
  · rw [if_neg h]
theorem setP_len {ps : List Part} {k : Nat} {ws : List Int} : (setP ps k ws).length = ps.length := by unfold setP; rw [List.length_set]
theorem setP_undo {ps : List Part} {k : Nat} {ws : List Int} (hk : k < ps.length) : setP (setP ps k ws) k (ps.getD k ([], [])).2 = ps := by
  unfold setP
  refine List.ext_getElem? fun i => ?_
  rw [List.set_set, List.getElem?_set]
  by_cases h : k = i
  · subst h
    rw [if_pos rfl, if_pos hk, List.getD_eq_getElem?_getD (l := ps.set _ _), List.getElem?_set, if_pos rfl, if_pos hk, List.getD_eq_getElem?_getD, List.getElem?_eq_getElem hk]
    rfl
  · rw [if_neg h]
structure Good (wd : Wd) (sz : List Nat) (ps0 ps : List Part) (h : Held) : Prop where
  names : ps.map (·.1) = ps0.map (·.1)
  ok : PsOk wd sz ps
  hd : HdOk sz h
theorem Good.len {wd : Wd} {sz : List Nat} {ps0 ps : List Part} {h : Held} (g : Good wd sz ps0 ps h) : ps.length = ps0.length := by
  have := congrArg List.length g.names
  rwa [List.length_map, List.length_map] at this
inductive Hist (wd : Wd) (sz : List Nat) (ps0 : List Part) (h0 : Held) : List Chg → List Part → Held → Prop where
  | nil : Good wd sz ps0 ps0 h0 → Hist wd sz ps0 h0 [] ps0 h0
  | put {cs : List Chg} {ps : List Part} {h : Held} (k : Nat) (ws : List Int) : Hist wd sz ps0 h0 cs ps h → k < ps.length → Good wd sz ps0 (setP ps k ws) h → Hist wd sz ps0 h0 (cs ++ [.part k (ps.getD k ([], [])).2]) (setP ps k ws) h
  | name {cs : List Chg} {ps : List Part} {h : Held} (n : Nat) (v : Option Nat) : Hist wd sz ps0 h0 cs ps h → (h n = none → v.isSome = true) → Good wd sz ps0 ps (setH h n v) → Hist wd sz ps0 h0 (cs ++ [.name n (h n)]) ps (setH h n v)
section
variable {wd : Wd} {sz : List Nat} {ps0 ps : List Part} {h0 h : Held} {L : List Chg}
theorem Hist.good (H : Hist wd sz ps0 h0 L ps h) : Good wd sz ps0 ps h := by
  cases H with
  | nil g => exact g
  | put _ _ _ _ g => exact g
  | name _ _ _ _ g => exact g
def BkTo (wd : Wd) (sz : List Nat) (ps0 : List Part) (h0 : Held) (cs : List Chg) (ps : List Part) (h : Held) : Chg → Prop
  | .part k ws => k < ps.length ∧ Hist wd sz ps0 h0 cs (setP ps k ws) h
  | .name n u => (u = none → (h n).isSome = true) ∧ Hist wd sz ps0 h0 cs ps (setH h n u)
theorem setH_undo {h : Held} {n : Nat} {v : Option Nat} : setH (setH h n v) n (h n) = h := by
  funext m
  unfold setH
  by_cases e : m = n
  · rw [if_pos e, e]
  · rw [if_neg e, if_neg e]
theorem Hist.back (H : Hist wd sz ps0 h0 L ps h) : ∀ cs g, L = cs ++ [g] → BkTo wd sz ps0 h0 cs ps h g := by
  intro cs g e
  cases H with
  | nil => simp at e
  | put k ws H hk hg =>
    obtain ⟨e1, e2⟩ := List.append_inj' e rfl
    cases e1
    cases e2
    exact ⟨by rw [setP_len]; exact hk, by rw [setP_undo hk]; exact H⟩
  | name n v H hv hg =>
    obtain ⟨e1, e2⟩ := List.append_inj' e rfl
    cases e1
    cases e2
    exact ⟨fun hn => by unfold setH; rw [if_pos rfl]; exact hv hn, by rw [setH_undo]; exact H⟩
theorem last_split {α : Type} {l : List α} (h : l ≠ []) : ∃ cs g, l = cs ++ [g] := ⟨l.dropLast, l.getLast h, (List.dropLast_concat_getLast h).symm⟩
theorem last_eq {α : Type} {cs : List α} {g : α} : (cs ++ [g]).getLast? = some g ∧ (cs ++ [g]).dropLast = cs := ⟨List.getLast?_concat, List.dropLast_concat⟩
end
section
variable {mc : Mc} {ms : MS} {d : Deed} {ps0 : List Part} {h0 : Held}
abbrev MHist (mc : Mc) (ps0 : List Part) (h0 : Held) (ms : MS) : Prop := Hist mc.wd mc.sz ps0 h0 ms.done ms.parts (held ms.ws)
theorem back_doM {cs : List Chg} {g : Chg} (e : ms.done = cs ++ [g]) : doM ms .back = setM { ms with done := cs } g := by
  unfold doM
  rw [e, last_eq.1, last_eq.2]
theorem hist_back {cs : List Chg} {g : Chg} (H : MHist mc ps0 h0 ms) (e : ms.done = cs ++ [g]) : MHist mc ps0 h0 (setM { ms with done := cs } g) := by
  have := H.back cs g e
  cases g with
  | part k ws => exact this.2
  | name n u =>
    show Hist _ _ _ _ cs ms.parts (held (setW ms.ws n u))
    rw [held_set]
    exact this.2
theorem part_put (H : MHist mc ps0 h0 ms) {k : Nat} {ws : List Int} (hk : k < ms.parts.length) (hl : ws.length = (ms.parts.getD k ([], [])).2.length) : PartOk mc.sz ((ms.parts.getD k ([], [])).1, ws) := by
  have := H.good.ok.part _ (getD_memD hk ([], []))
  exact ⟨this.rise, by show ws.length = _; rw [hl]; exact this.full⟩
theorem hist_deed (H : MHist mc ps0 h0 ms) (ok : dOk mc ms d) : MHist mc ps0 h0 (doM ms d) := by
  have g := H.good
  cases d with
  | put k ws =>
    obtain ⟨hk, hl, hs, ha⟩ := ok
    refine Hist.put k ws H hk ⟨by rw [setP_names]; exact g.names, ⟨fun p hp => ?_, fun p hp => ?_, fun p hp => ?_⟩, g.hd⟩
    · rcases List.mem_or_eq_of_mem_set hp with hp | rfl
      · exact g.ok.part p hp
      · exact part_put H hk hl
    · rcases List.mem_or_eq_of_mem_set hp with hp | rfl
      · exact g.ok.small p hp
      · exact hs
    · rcases List.mem_or_eq_of_mem_set hp with hp | rfl
      · exact g.ok.any p hp
      · exact ha
  | settle n u =>
    show Hist _ _ _ _ _ ms.parts (held (setW ms.ws n (some u)))
    rw [held_set]
    refine Hist.name n (some u) H (fun _ => rfl) ⟨g.names, g.ok, ⟨fun m v hm => ?_⟩⟩
    unfold setH at hm
    by_cases e : m = n
    · rw [if_pos e] at hm
      cases hm
      rw [e]
      exact ok
    · rw [if_neg e] at hm
      exact g.hd.lt m v hm
  | free n =>
    show Hist _ _ _ _ _ ms.parts (held (setW ms.ws n none))
    rw [held_set]
    have ok : (held ms.ws n).isSome = true := ok
    refine Hist.name n none H (fun e => by rw [e] at ok; cases ok) ⟨g.names, g.ok, ⟨fun m v hm => ?_⟩⟩
    unfold setH at hm
    by_cases e : m = n
    · rw [if_pos e] at hm
      cases hm
    · rw [if_neg e] at hm
      exact g.hd.lt m v hm
  | back =>
    obtain ⟨cs, g, e⟩ := last_split (ok : ms.done ≠ [])
    rw [back_doM e]
    exact hist_back H e
/-! ### few names are settled -/
theorem putW_nd {ws : List (Nat × Nat)} {n u : Nat} (h : (ws.map (·.1)).Nodup) : ((putW ws n u).map (·.1)).Nodup := by
  unfold putW
  split
  · have : (ws.map fun e => if e.1 = n then (e.1, u) else e).map (·.1) = ws.map (·.1) := by
      rw [List.map_map]
      refine List.map_congr_left fun e _ => ?_
      show (if e.1 = n then (e.1, u) else e).1 = e.1
      split <;> rfl
    rw [this]
    exact h
  · rename_i hn
    rw [List.map_append]
    refine List.nodup_append.mpr ⟨h, List.nodup_cons.mpr ⟨by simp, List.nodup_nil⟩, fun a ha b hb z => ?_⟩
    have hb := List.mem_singleton.mp hb
    obtain ⟨e, he, h1⟩ := List.mem_map.mp ha
    refine hn (List.any_eq_true.mpr ⟨e, he, decide_eq_true ?_⟩)
    rw [h1, z, hb]
theorem setW_nd {ws : List (Nat × Nat)} {n : Nat} {v : Option Nat} (h : (ws.map (·.1)).Nodup) : ((setW ws n v).map (·.1)).Nodup := by
  cases v with
  | none => exact List.Nodup.sublist (List.Sublist.map _ (List.filter_sublist)) h
  | some u => exact putW_nd h
theorem ws_few {sz : List Nat} {ws : List (Nat × Nat)} (hd : HdOk sz (held ws)) (h : (ws.map (·.1)).Nodup) : ws.length ≤ sz.length := by
  have : Nm sz.length (ws.map (·.1)) := ⟨h, fun n hn => by
    obtain ⟨u, hu⟩ := Option.isSome_iff_exists.mp (held_some hn)
    exact (hd.lt n u hu).1⟩
  have := this.few
  rwa [List.length_map] at this
theorem back_none (e : ms.done = []) : doM ms .back = ms := by
  unfold doM
  rw [e]
  rfl
theorem deed_nd (h : (ms.ws.map (·.1)).Nodup) : ((doM ms d).ws.map (·.1)).Nodup := by
  cases d with
  | put k ws => exact h
  | settle n u => exact setW_nd (ws := ms.ws) (n := n) (v := some u) h
  | free n => exact setW_nd (ws := ms.ws) (n := n) (v := none) h
  | back =>
    by_cases e : ms.done = []
    · rw [back_none e]; exact h
    · obtain ⟨cs, g, e⟩ := last_split e
      rw [back_doM e]
      cases g with
      | part k ws => exact h
      | name n u => exact setW_nd (ws := ms.ws) (n := n) (v := u) h
theorem deed_done : (doM ms d).done.length ≤ ms.done.length + 1 := by
  cases d with
  | put k ws => show (ms.done ++ [_]).length ≤ _; rw [List.length_append]; exact Nat.le_refl _
  | settle n u => show (ms.done ++ [_]).length ≤ _; rw [List.length_append]; exact Nat.le_refl _
  | free n => show (ms.done ++ [_]).length ≤ _; rw [List.length_append]; exact Nat.le_refl _
  | back =>
    by_cases e : ms.done = []
    · rw [back_none e]; exact Nat.le_succ _
    · obtain ⟨cs, g, e⟩ := last_split e
      rw [back_doM e]
      have : cs.length ≤ ms.done.length + 1 := by rw [e, List.length_append]; omega
      cases g with
      | part k ws => exact this
      | name n u => exact this
end
/-! ### keeper and model go together -/
structure Cor (ks : KS) (ms : MS) : Prop where
  parts : ks.parts = ms.parts
  ws : ks.ws = ms.ws
  chg : ks.changes = ms.done
section
variable {c : Kc} {mc : Mc} {ks : KS} {ms : MS} {d : Deed} {ps0 : List Part} {h0 : Held}
theorem cor_deed (h : Cor ks ms) : Cor (doS c ks d) (doM ms d) := by
  obtain ⟨parts, ws, done⟩ := ms
  obtain ⟨parts', ws', known, many, chg⟩ := ks
  obtain ⟨rfl, rfl, rfl⟩ := h
  cases d with
  | put k ws => exact ⟨rfl, rfl, rfl⟩
  | settle n u => exact ⟨rfl, rfl, rfl⟩
  | free n => exact ⟨rfl, rfl, rfl⟩
  | back =>
    unfold doS doM
    cases chg.getLast? with
    | none => exact ⟨rfl, rfl, rfl⟩
    | some g =>
      cases g with
      | part k ws => exact ⟨rfl, rfl, rfl⟩
      | name n u => exact ⟨rfl, rfl, rfl⟩
theorem cor_back {cs : List Chg} {g : Chg} (h : Cor ks ms) : Cor (backS c ks cs g) (setM { ms with done := cs } g) := by
  obtain ⟨parts, ws, done⟩ := ms
  obtain ⟨parts', ws', known, many, chg⟩ := ks
  obtain ⟨rfl, rfl, rfl⟩ := h
  cases g with
  | part k ws => exact ⟨rfl, rfl, rfl⟩
  | name n u => exact ⟨rfl, rfl, rfl⟩
theorem doS_back {cs : List Chg} {g : Chg} (e : ks.changes = cs ++ [g]) : doS c ks .back = backS c ks cs g := by
  unfold doS
  rw [e, last_eq.1, last_eq.2]
end
end SO
set_option Elab.async false
set_option linter.all false
set_option maxRecDepth 100000
set_option maxHeartbeats 4000000
/-! So67: what a deed touches, what stays known, how many letters are due. Plain. -/
namespace SO
open PySem PySem.Spec PyProof.Rows L2
theorem bagsWith_mem {bags : List (List Nat)} {n i : Nat} (h : n ∈ bags.getD i []) : i ∈ bagsWith bags n := by
  unfold bagsWith
  have hi : i < bags.length := by
    rcases Nat.lt_or_ge i bags.length with hi | hi
    · exact hi
    · rw [List.getD_eq_getElem?_getD, List.getElem?_eq_none hi] at h; cases h
  refine List.mem_map.mpr ⟨(bags.getD i [], i), List.mem_filter.mpr ⟨?_, decide_eq_true h⟩, rfl⟩
  exact List.mk_mem_zipIdx_iff_getElem?.mpr (getD_bag hi)
theorem bagOf_ok {bags : List (List Nat)} {ns : List Nat} (h : ∃ b ∈ bags, ∀ n ∈ ns, n ∈ b) : ∀ n ∈ ns, n ∈ bags.getD (bagOf bags ns) [] := by
  obtain ⟨b, hb, hn⟩ := h
  have hm : true ∈ bags.map fun b => ns.all fun n => decide (n ∈ b) := List.mem_map.mpr ⟨b, hb, List.all_eq_true.mpr fun n h => decide_eq_true (hn n h)⟩
  have hi := List.idxOf_lt_length_iff.mpr hm
  have e := List.getElem_idxOf hi
  rw [List.getElem_map] at e
  rw [List.length_map] at hi
  intro n hnn
  have := of_decide_eq_true (List.all_eq_true.mp e n hnn)
  unfold bagOf
  rw [List.getD_eq_getElem?_getD, List.getElem?_eq_getElem hi]
  exact this
theorem zip_set_filter {i : Nat} : ∀ (ps : List Part) (laid : List Nat) (k : Nat) (p : Part), laid.getD k 0 ≠ i → ps.length = laid.length → ((ps.set k p).zip laid).filter (fun x => decide ((x.2 : Int) = (i : Int))) = (ps.zip laid).filter fun x => decide ((x.2 : Int) = (i : Int))
  | [], _, _, _, _, _ => by simp
  | q :: ps, [], _, _, _, h => by simp at h
  | q :: ps, l :: laid, 0, p, hne, h => by
    have hne : l ≠ i := hne
    rw [List.set_cons_zero, List.zip_cons_cons, List.zip_cons_cons, List.filter_cons_of_neg (by simp; omega), List.filter_cons_of_neg (by simp; omega)]
  | q :: ps, l :: laid, k + 1, p, hne, h => by
    have ih := zip_set_filter ps laid k p hne (by simpa using h)
    rw [List.set_cons_succ, List.zip_cons_cons, List.zip_cons_cons, List.filter_cons, List.filter_cons, ih]
theorem own_put {wd : Wd} {sz : List Nat} {bags : List (List Nat)} {laid : List Nat} {parts : List Part} {hd : Held} {i k : Nat} {ws : List Int} (h : laid.getD k 0 ≠ i) (hl : parts.length = laid.length) : ownP wd sz bags laid (setP parts k ws) hd i = ownP wd sz bags laid parts hd i := by
  unfold ownP setP
  rw [zip_set_filter _ _ _ _ h hl]
theorem joinedP_names {wd : Wd} {sz : List Nat} {p q : Part} {x : Nat} : x ∈ (joinedP wd sz p q).1 ↔ x ∈ p.1 ∨ x ∈ q.1 := by
  show x ∈ sd (p.1 ++ q.1) ↔ _
  rw [sd_mem, List.mem_append]
theorem foldJ_names {wd : Wd} {sz : List Nat} {x : Nat} : ∀ (ps : List Part) (q : Part), x ∈ (ps.foldl (joinedP wd sz) q).1 → x ∈ q.1 ∨ ∃ p ∈ ps, x ∈ p.1
  | [], q, h => Or.inl h
  | p :: ps, q, h => by
    rcases foldJ_names ps _ h with h | ⟨p', hp, h⟩
    · rcases joinedP_names.mp h with h | h
      · exact Or.inl h
      · exact Or.inr ⟨p, List.mem_cons_self, h⟩
    · exact Or.inr ⟨p', List.mem_cons_of_mem _ hp, h⟩
theorem allJ_names {wd : Wd} {sz : List Nat} {x : Nat} {ps : List Part} (h : x ∈ (allJ wd sz ps).1) : ∃ p ∈ ps, x ∈ p.1 := by
  rcases foldJ_names ps _ h with h | h
  · cases h
  · exact h
theorem fold_hd {sz : List Nat} {hd : Held} {n : Nat} {v : Option Nat} : ∀ (ns : List Nat) (q : Part), n ∉ ns → ns.foldl (sstep sz (setH hd n v)) q = ns.foldl (sstep sz hd) q
  | [], _, _ => rfl
  | m :: ns, q, h => by
    rw [List.foldl_cons, List.foldl_cons]
    have : sstep sz (setH hd n v) q m = sstep sz hd q m := by
      unfold sstep setH
      rw [if_neg fun z => h (by rw [z]; exact List.mem_cons_self)]
    rw [this]
    exact fold_hd ns _ fun z => h (List.mem_cons_of_mem _ z)
theorem own_name {wd : Wd} {sz : List Nat} {bags : List (List Nat)} {laid : List Nat} {parts : List Part} {hd : Held} {i n : Nat} {v : Option Nat} (h : n ∉ bags.getD i []) (hl : ∀ x ∈ parts.zip laid, x.2 = i → ∀ m ∈ x.1.1, m ∈ bags.getD i []) : ownP wd sz bags laid parts (setH hd n v) i = ownP wd sz bags laid parts hd i := by
  unfold ownP
  have hn : n ∉ (allJ wd sz (((parts.zip laid).filter fun x => decide ((x.2 : Int) = (i : Int))).map fun x => x.1)).1 := fun z => by
    obtain ⟨p, hp, hx⟩ := allJ_names z
    obtain ⟨x, hx2, rfl⟩ := List.mem_map.mp hp
    obtain ⟨x1, x2⟩ := List.mem_filter.mp hx2
    exact h (hl x x1 (by have := of_decide_eq_true x2; omega) n hx)
  have e : ((bags.getD i []).filter fun n_1 => !(setH hd n v n_1).isSome) = (bags.getD i []).filter fun n => !(hd n).isSome := by
    refine List.filter_congr fun m hm => ?_
    unfold setH
    rw [if_neg fun z => h (by rw [← z]; exact hm)]
  rw [fold_hd _ _ hn, e]
/-- the keeper of a model -/
structure KM (c : Kc) (mc : Mc) (ps0 : List Part) : Prop where
  wd : c.wd = mc.wd
  sz : c.sz = mc.sz
  bags : c.bags = mc.t.1
  nr : c.nr = nearsOf mc.t
  laid : c.laid = laidOf ps0 mc.t
  some : ∀ p ∈ ps0, ∃ b ∈ mc.t.1, ∀ n ∈ p.1, n ∈ b
section
variable {c : Kc} {mc : Mc} {ks : KS} {ms : MS} {d : Deed} {ps0 : List Part} {h0 : Held} {root : Nat} {par rk : Nat → Nat}
theorem KM.laid_ps (k : KM c mc ps0) {ps : List Part} (e : ps.map (·.1) = ps0.map (·.1)) : c.laid = laidOf ps mc.t := by
  rw [k.laid]
  unfold laidOf
  have h : ∀ qs : List Part, (qs.map fun p => bagOf mc.t.1 p.1) = (qs.map (·.1)).map (bagOf mc.t.1) := fun qs => by rw [List.map_map]; rfl
  rw [h, h, e]
theorem KM.some_ps (k : KM c mc ps0) {ps : List Part} (e : ps.map (·.1) = ps0.map (·.1)) : ∀ p ∈ ps, ∃ b ∈ mc.t.1, ∀ n ∈ p.1, n ∈ b := fun p hp => by
  have : p.1 ∈ ps0.map (·.1) := by rw [← e]; exact List.mem_map.mpr ⟨p, hp, rfl⟩
  obtain ⟨q, hq, e2⟩ := List.mem_map.mp this
  rw [← e2]
  exact k.some q hq
theorem KM.zip (k : KM c mc ps0) {ps : List Part} (e : ps.map (·.1) = ps0.map (·.1)) {i : Nat} : ∀ x ∈ ps.zip c.laid, x.2 = i → ∀ m ∈ x.1.1, m ∈ c.bags.getD i [] := fun x hx hi m hm => by
  rw [k.laid_ps e] at hx
  unfold laidOf at hx
  have : x.1 ∈ ps ∧ x.2 = bagOf mc.t.1 x.1.1 := by
    rw [List.zip_map_right] at hx
    obtain ⟨y, hy, rfl⟩ := List.mem_map.mp hx
    have hy2 : y.1 = y.2 := by
      rw [show ps.zip ps = ps.map fun p => (p, p) by
        clear hx hy hi e
        induction ps with
        | nil => rfl
        | cons p ps ih => rw [List.zip_cons_cons, ih]; rfl] at hy
      obtain ⟨p, _, rfl⟩ := List.mem_map.mp hy
      rfl
    exact ⟨(List.of_mem_zip hy).1, by show bagOf mc.t.1 y.2.1 = bagOf mc.t.1 y.1.1; rw [hy2]⟩
  rw [k.bags, ← hi, this.2]
  exact bagOf_ok (k.some_ps e x.1 this.1) m hm
theorem laid_at (k : KM c mc ps0) {ps : List Part} (e : ps.map (·.1) = ps0.map (·.1)) {i : Nat} (hi : i < ps.length) : c.laid.getD i 0 = bagOf mc.t.1 (ps.getD i ([], [])).1 := by
  rw [k.laid_ps e]
  unfold laidOf
  rw [List.getD_eq_getElem?_getD, List.getElem?_map, getD_part hi]
  rfl
/-- what a deed does to what is known -/
theorem deed_known (k : KM c mc ps0) (co : Cor ks ms) (H : MHist mc ps0 h0 ms) (ok : dOk mc ms d) : (doS c ks d).known = ks.known.filter (fun e => !tchd c (touchD mc.t.1 ms d) e.1) ∧ (doS c ks d).many = ks.many := by
  have hg := H.good
  obtain ⟨parts, ws, done⟩ := ms
  obtain ⟨parts', ws', known, many, chg⟩ := ks
  obtain ⟨rfl, rfl, rfl⟩ := co
  cases d with
  | put j us =>
    refine ⟨?_, rfl⟩
    show known.filter (fun e => !tchd c [c.laid.getD j 0] e.1) = _
    rw [laid_at k hg.names ok.1]
    rfl
  | settle n u =>
    refine ⟨?_, rfl⟩
    show known.filter (fun e => !tchd c (bagsWith c.bags n) e.1) = _
    rw [k.bags]
    rfl
  | free n =>
    refine ⟨?_, rfl⟩
    show known.filter (fun e => !tchd c (bagsWith c.bags n) e.1) = _
    rw [k.bags]
    rfl
  | back =>
    obtain ⟨cs, g, e⟩ := last_split (ok : chg ≠ [])
    subst e
    have hb := H.back cs g rfl
    have e1 : touchD mc.t.1 ⟨parts', ws', cs ++ [g]⟩ .back = touchG mc.t.1 parts' g := by
      unfold touchD
      show (match (cs ++ [g]).getLast? with | none => [] | some g => touchG mc.t.1 parts' g) = _
      rw [last_eq.1]
    rw [e1, doS_back (cs := cs) (g := g) rfl]
    cases g with
    | part j us =>
      refine ⟨?_, rfl⟩
      show known.filter (fun e => !tchd c [c.laid.getD j 0] e.1) = _
      rw [laid_at k hg.names hb.1]
      rfl
    | name n u =>
      refine ⟨?_, rfl⟩
      show known.filter (fun e => !tchd c (bagsWith c.bags n) e.1) = _
      rw [k.bags]
      rfl
/-- bags that are not touched have the same own part -/
theorem deed_own (k : KM c mc ps0) (co : Cor ks ms) (H : MHist mc ps0 h0 ms) (ok : dOk mc ms d) {i : Nat} (hi : i ∉ touchD mc.t.1 ms d) : oOf c (doS c ks d) i = oOf c ks i := by
  have hg := H.good
  obtain ⟨parts, ws, done⟩ := ms
  obtain ⟨parts', ws', known, many, chg⟩ := ks
  obtain ⟨rfl, rfl, rfl⟩ := co
  have hlen : parts'.length = c.laid.length := by rw [k.laid_ps hg.names]; unfold laidOf; rw [List.length_map]
  have putc : ∀ j us, j < parts'.length → i ∉ [bagOf mc.t.1 (parts'.getD j ([], [])).1] → ownP c.wd c.sz c.bags c.laid (setP parts' j us) (held ws') i = ownP c.wd c.sz c.bags c.laid parts' (held ws') i := fun j us hj hn =>
    own_put (fun z => hn (by rw [← z, laid_at k hg.names hj]; exact List.mem_singleton.mpr rfl)) hlen
  have namec : ∀ n v, i ∉ bagsWith mc.t.1 n → ownP c.wd c.sz c.bags c.laid parts' (held (setW ws' n v)) i = ownP c.wd c.sz c.bags c.laid parts' (held ws') i := fun n v hn => by
    rw [held_set]
    exact own_name (fun z => hn (by rw [k.bags] at z; exact bagsWith_mem z)) (k.zip hg.names)
  cases d with
  | put j us => exact putc j us ok.1 hi
  | settle n u => exact namec n (some u) hi
  | free n => exact namec n none hi
  | back =>
    obtain ⟨cs, g, e⟩ := last_split (ok : chg ≠ [])
    subst e
    have hb := H.back cs g rfl
    have e1 : touchD mc.t.1 ⟨parts', ws', cs ++ [g]⟩ .back = touchG mc.t.1 parts' g := by
      unfold touchD
      show (match (cs ++ [g]).getLast? with | none => [] | some g => touchG mc.t.1 parts' g) = _
      rw [last_eq.1]
    rw [e1] at hi
    rw [doS_back (cs := cs) (g := g) rfl]
    cases g with
    | part j us => exact putc j us hb.1 hi
    | name n u => exact namec n u hi
theorem anyIn_true {touched l : List Nat} : anyIn touched l = true ↔ ∃ b ∈ l, b ∈ touched := by
  unfold anyIn
  rw [List.any_eq_true]
  exact ⟨fun ⟨b, h1, h2⟩ => ⟨b, h1, of_decide_eq_true h2⟩, fun ⟨b, h1, h2⟩ => ⟨b, h1, decide_eq_true h2⟩⟩
theorem anyIn_app {a b l : List Nat} : anyIn (a ++ b) l = (anyIn a l || anyIn b l) := by
  rw [Bool.eq_iff_iff, Bool.or_eq_true, anyIn_true, anyIn_true, anyIn_true]
  constructor
  · rintro ⟨x, h1, h2⟩
    rcases List.mem_append.mp h2 with h2 | h2
    · exact Or.inl ⟨x, h1, h2⟩
    · exact Or.inr ⟨x, h1, h2⟩
  · rintro (⟨x, h1, h2⟩ | ⟨x, h1, h2⟩)
    · exact ⟨x, h1, List.mem_append_left _ h2⟩
    · exact ⟨x, h1, List.mem_append_right _ h2⟩
theorem anyIn_congr {touched l l' : List Nat} (h : ∀ x, x ∈ l ↔ x ∈ l') : anyIn touched l = anyIn touched l' := by
  rw [Bool.eq_iff_iff, anyIn_true, anyIn_true]
  exact ⟨fun ⟨b, h1, h2⟩ => ⟨b, (h b).mp h1, h2⟩, fun ⟨b, h1, h2⟩ => ⟨b, (h b).mpr h1, h2⟩⟩
theorem tchd_app {a b : List Nat} {t : Tie} : tchd c (a ++ b) t = (tchd c a t || tchd c b t) := anyIn_app
theorem tchd_nil {t : Tie} : tchd c [] t = false := by
  unfold tchd anyIn
  rw [List.any_eq_false]
  intro x _ h
  exact absurd (of_decide_eq_true h) (by simp)
theorem deed_kn (k : KM c mc ps0) (T : TOk c root par rk) (hl : c.nr.length ≤ 12) (co : Cor ks ms) (H : MHist mc ps0 h0 ms) (ok : dOk mc ms d) (kn : KnOk (LOf c ks) (nbOf c.nr) ks.known) : KnOk (LOf c (doS c ks d)) (nbOf c.nr) (doS c ks d).known := by
  obtain ⟨e1, e2⟩ := deed_known k co H ok
  rw [e1]
  have nok := nrOk hl T.tree
  refine ⟨fun e he => kn.tie e (List.mem_filter.mp he).1, fun e he => ?_, kn.nd.sublist (List.Sublist.map _ List.filter_sublist)⟩
  obtain ⟨he, hf⟩ := List.mem_filter.mp he
  rw [kn.val e he]
  unfold LOf
  refine letP_same T.tree _ _ (kn.tie e he) fun x hx => (deed_own k co H ok fun z => ?_).symm
  have hx2 := (sideOf_mem nok T.tree (kn.tie e he) x).mpr hx
  have : tchd c (touchD mc.t.1 ms d) e.1 = true := anyIn_true.mpr ⟨x, hx2, z⟩
  rw [this] at hf
  cases hf
/-! ### how many -/
def dirs (ts : List Tie) : List Tie := ts.flatMap fun e => [(e.1, e.2), (e.2, e.1)]
theorem dirs_mem {ts : List Tie} {i j : Nat} : (i, j) ∈ dirs ts ↔ (i, j) ∈ ts ∨ (j, i) ∈ ts := by
  unfold dirs
  rw [List.mem_flatMap]
  constructor
  · rintro ⟨⟨a, b⟩, he, h⟩
    rcases List.mem_cons.mp h with h | h
    · cases h; exact Or.inl he
    · cases List.mem_singleton.mp h; exact Or.inr he
  · rintro (h | h)
    · exact ⟨_, h, List.mem_cons_self⟩
    · exact ⟨_, h, List.mem_cons_of_mem _ List.mem_cons_self⟩
theorem dirs_nd : ∀ {ts : List Tie}, ts.Nodup → (∀ t ∈ ts, t.1 < t.2) → (dirs ts).Nodup
  | [], _, _ => List.nodup_nil
  | (a, b) :: ts, hd, hl => by
    obtain ⟨h1, h2⟩ := List.nodup_cons.mp hd
    have hab : a < b := hl (a, b) List.mem_cons_self
    have hl2 : ∀ t ∈ ts, t.1 < t.2 := fun t ht => hl t (List.mem_cons_of_mem _ ht)
    have ih := dirs_nd h2 hl2
    show ((a, b) :: (b, a) :: dirs ts).Nodup
    have n1 : (a, b) ∉ dirs ts := fun z => by
      rcases dirs_mem.mp z with z | z
      · exact h1 z
      · have : b < a := hl2 _ z; omega
    have n2 : (b, a) ∉ dirs ts := fun z => by
      rcases dirs_mem.mp z with z | z
      · have : b < a := hl2 _ z; omega
      · exact h1 z
    refine List.nodup_cons.mpr ⟨fun z => ?_, List.nodup_cons.mpr ⟨n2, ih⟩⟩
    rcases List.mem_cons.mp z with z | z
    · have := (Prod.mk.injEq _ _ _ _).mp z; omega
    · exact n1 z
theorem forg_count {ts : List Tie} {n : Nat} {touched : List Nat} : ∀ r : List Tie, forg ts n touched r = (dirs r).countP fun e => anyIn touched (gside (near ts) n e.1 e.2)
  | [] => rfl
  | t :: r => by
    show b2n _ + b2n _ + forg ts n touched r = ((t.1, t.2) :: (t.2, t.1) :: dirs r).countP _
    rw [List.countP_cons, List.countP_cons, forg_count r]
    unfold b2n
    dsimp only
    omega
theorem keys_perm (T : TOk c root par rk) (tt : TiesOk c.nr.length mc.t.2) (hnb : nbOf c.nr = near mc.t.2) (kn : KnOk (LOf c ks) (nbOf c.nr) ks.known) (ai : AllIn c ks) : (keys ks.known).Perm (dirs mc.t.2) := by
  have hnd : mc.t.2.Nodup := tt.lt.imp fun {a b} h z => by
    rw [z] at h
    unfold tieLt at h
    omega
  refine (List.perm_ext_iff_of_nodup kn.nd (dirs_nd hnd fun t ht => (tt.tie t ht).1)).mpr fun t => ?_
  obtain ⟨i, j⟩ := t
  rw [dirs_mem, ← near_mem, ← hnb]
  constructor
  · intro h
    obtain ⟨e, he, h⟩ := List.mem_map.mp h
    have := kn.tie e he
    rw [h] at this
    exact this
  · intro h
    have hs := (T.tree.nbs i j).mp h
    exact ai j hs.2.1 i (T.tree.sym h)
theorem count_due (T : TOk c root par rk) (hl : c.nr.length ≤ 12) (tt : TiesOk c.nr.length mc.t.2) (hnb : nbOf c.nr = near mc.t.2) {ks1 ks2 ks3 : KS} {touched : List Nat} (kn1 : KnOk (LOf c ks1) (nbOf c.nr) ks1.known) (ai1 : AllIn c ks1) (e2 : ks2.known = ks1.known.filter fun e => !tchd c touched e.1) (em : ks2.many = ks1.many) (ex : Ext ks2 ks3) (kn3 : KnOk (LOf c ks3) (nbOf c.nr) ks3.known) (ai3 : AllIn c ks3) :
    ks3.many = ks1.many + forg mc.t.2 c.nr.length touched mc.t.2 := by
  have p1 := keys_perm T tt hnb kn1 ai1
  have p3 := keys_perm T tt hnb kn3 ai3
  have nok := nrOk hl T.tree
  have l1 : ks1.known.length = (dirs mc.t.2).length := by rw [← p1.length_eq]; unfold keys; rw [List.length_map]
  have l3 : ks3.known.length = (dirs mc.t.2).length := by rw [← p3.length_eq]; unfold keys; rw [List.length_map]
  have l2 : ks2.known.length = (dirs mc.t.2).countP fun e => !tchd c touched e := by
    rw [← p1.countP_eq, e2, ← List.countP_eq_length_filter]
    unfold keys
    rw [List.countP_map]
    rfl
  have hf : forg mc.t.2 c.nr.length touched mc.t.2 = (dirs mc.t.2).countP fun e => tchd c touched e := by
    rw [forg_count]
    refine List.countP_congr fun e he => ?_
    have hj : e.2 ∈ nbOf c.nr e.1 := by rw [hnb]; exact near_mem.mpr (dirs_mem.mp he)
    have : anyIn touched (gside (near mc.t.2) c.nr.length e.1 e.2) = tchd c touched e := by
      unfold tchd
      refine anyIn_congr fun x => ?_
      rw [← hnb, gside_mem T.tree hj, sideOf_mem nok T.tree hj]
    rw [this]
  have hs := List.length_eq_countP_add_countP (l := dirs mc.t.2) (fun e => tchd c touched e)
  have hneg : (dirs mc.t.2).countP (fun e => !tchd c touched e) = (dirs mc.t.2).countP fun a => decide ¬(tchd c touched a = true) := List.countP_congr fun e _ => by
    cases tchd c touched e <;> simp
  have hm := ex.many
  rw [hf]
  omega
end
end SO
set_option Elab.async false
set_option linter.all false
set_option maxRecDepth 100000
set_option maxHeartbeats 4000000
/-! So68: tape, keeper, model side by side; the state between deeds. -/
namespace SO
open PySem PySem.Spec PyProof.Rows L2
section
variable {K : PySem.W.Frag} {mc : Mc} {H0 H H' : Hp} {ms0 ms : MS}
theorem MAt.ne0 (h : MAt K mc H ms) : ∀ d, d = mc.m ∨ d ∈ mc.own → H d ≠ none := fun d hd z => by
  simp only [Mc.own, List.mem_cons, List.not_mem_nil, or_false] at hd
  rcases hd with rfl | rfl | rfl | rfl
  · have := h.obj; rw [z] at this; cases this
  · obtain ⟨xs, h1, _⟩ := h.parts; rw [z] at h1; cases h1
  · have := h.held; rw [z] at this; cases this
  · obtain ⟨xs, h1, _⟩ := h.done; rw [z] at h1; cases h1
theorem MAt.new {d : Addr} (h0 : MAt K mc H0 ms0) (h : MAt K mc H ms) (k : Fr [d] H H') (n : H0 d = none) : MAt K mc H' ms := by
  refine h.fr k (fun x hx => ?_) fun x hx => ?_
  · rw [List.mem_singleton.mp hx]
    exact ⟨fun z => h0.ne0 d (Or.inr z) n, fun z => h0.ne0 d (Or.inl z) n⟩
  · rw [List.mem_singleton.mp hx]
    by_cases hm : d ∈ mc.M
    · exact Or.inl hm
    · refine Or.inr ?_
      cases e : mc.B d with
      | none => rfl
      | some o =>
        have := h0.wl d o hm e
        rw [n] at this
        cases this
end
/-- what stands apart -/
structure Apart (tc : Tc) (c : Kc) (mc : Mc) (f1 : Addr) : Prop where
  tk : tc.t ∉ c.own
  tkM : tc.t ∈ c.M
  tm : tc.t ∉ mc.own ∧ tc.t ≠ mc.m
  tmM : tc.t ∈ mc.M
  kt : ∀ d ∈ c.own, tc.B d = none
  mt : ∀ d ∈ mc.own, tc.B d = none
  km : ∀ d ∈ c.own, d ∉ mc.own ∧ d ≠ mc.m
  kmM : ∀ d ∈ c.own, d ∈ mc.M
  mB : ∀ d ∈ mc.own, c.B d = none
  ft : f1 ≠ tc.t
  fk : f1 ∉ c.own
  fm : f1 ∉ mc.own
structure WAt (K : PySem.W.Frag) (tc : Tc) (c : Kc) (mc : Mc) (f1 : Addr) (fd : List D0) (H : Hp) (n : Nat) (ks : KS) (ms : MS) : Prop where
  ta : TAt K tc H n
  ka : KAt K c H ks
  ma : MAt K mc H ms
  fi : Ls K H f1 fd
section
variable {K : PySem.W.Frag} {tc : Tc} {c : Kc} {mc : Mc} {f1 : Addr} {fd : List D0} {H0 H H' : Hp} {n n' : Nat} {ks ks' ks0 : KS} {ms ms' ms0 : MS}
theorem WAt.same (h : WAt K tc c mc f1 fd H n ks ms) (k : Same H H') : WAt K tc c mc f1 fd H' n ks ms := ⟨h.ta.mono k, h.ka.mono k, h.ma.mono k, ls_mono h.fi k⟩
theorem WAt.tape (S : Apart tc c mc f1) (ft : tupOnlyL fd = true) (h : WAt K tc c mc f1 fd H n ks ms) (k : Fr [tc.t] H H') (t : TAt K tc H' n') : WAt K tc c mc f1 fd H' n' ks ms :=
  ⟨t, h.ka.fr k (fun d hd => by rw [List.mem_singleton.mp hd]; exact S.tk) (fun d hd => by rw [List.mem_singleton.mp hd]; exact Or.inl S.tkM), h.ma.fr k (fun d hd => by rw [List.mem_singleton.mp hd]; exact S.tm) (fun d hd => by rw [List.mem_singleton.mp hd]; exact Or.inl S.tmM), ls_fr h.fi k (fun z => S.ft (List.mem_singleton.mp z)) ft⟩
theorem WAt.keep (S : Apart tc c mc f1) (ft : tupOnlyL fd = true) (h : WAt K tc c mc f1 fd H n ks ms) (k : Fr c.own H H') (t : KAt K c H' ks') : WAt K tc c mc f1 fd H' n ks' ms :=
  ⟨h.ta.fr k S.tk S.kt, t, h.ma.fr k S.km (fun d hd => Or.inl (S.kmM d hd)), ls_fr h.fi k S.fk ft⟩
theorem WAt.model (S : Apart tc c mc f1) (ft : tupOnlyL fd = true) (h : WAt K tc c mc f1 fd H n ks ms) (k : Fr mc.own H H') (t : MAt K mc H' ms') : WAt K tc c mc f1 fd H' n ks ms' :=
  ⟨h.ta.fr k S.tm.1 S.mt, h.ka.fr k (fun d hd z => (S.km d z).1 hd) (fun d hd => Or.inr (S.mB d hd)), t, ls_fr h.fi k S.fm ft⟩
theorem WAt.new {d : Addr} (h0 : WAt K tc c mc f1 fd H0 n ks0 ms0) (ft : tupOnlyL fd = true) (h : WAt K tc c mc f1 fd H n' ks ms) (k : Fr [d] H H') (nn : H0 d = none) : WAt K tc c mc f1 fd H' n' ks ms :=
  ⟨h0.ta.new h.ta k nn, h0.ka.new h.ka k nn, h0.ma.new h.ma k nn, ls_fr h.fi k (fun z => by obtain ⟨xs, e, _⟩ := h0.fi; rw [List.mem_singleton.mp z, nn] at e; cases e) ft⟩
end
/-! ### the state -/
abbrev noHeld : Held := fun _ => none
structure Sta (c : Kc) (mc : Mc) (ps0 : List Part) (root : Nat) (par rk : Nat → Nat) : Prop where
  km : KM c mc ps0
  sz : SzOk mc.sz
  szl : mc.sz.length = 10
  few : ps0.length ≤ 7
  tree : BagTree mc.sz (ps0.map (·.1)) mc.t
  T : TOk c root par rk
  nb : nbOf c.nr = near mc.t.2
  pos : 0 < mc.t.1.length
structure Sv (c : Kc) (mc : Mc) (ps0 : List Part) (ks : KS) (ms : MS) (m : Nat) : Prop where
  co : Cor ks ms
  hist : MHist mc ps0 noHeld ms
  nd : (ms.ws.map (·.1)).Nodup
  done : ms.done.length ≤ m
  kn : KnOk (LOf c ks) (nbOf c.nr) ks.known
section
variable {c : Kc} {mc : Mc} {ps0 : List Part} {root : Nat} {par rk : Nat → Nat} {ks ks' : KS} {ms : MS} {m : Nat} {d : Deed}
theorem Sta.nrl (S : Sta c mc ps0 root par rk) : c.nr.length = mc.t.1.length := by rw [S.km.nr, nearsOf_len]
theorem Sta.nr12 (S : Sta c mc ps0 root par rk) : c.nr.length ≤ 12 := by rw [S.nrl]; exact S.tree.len
theorem Sv.wsl (v : Sv c mc ps0 ks ms m) (S : Sta c mc ps0 root par rk) : ms.ws.length ≤ 10 := by
  have := ws_few v.hist.good.hd v.nd
  rwa [S.szl] at this
theorem Sv.pl (v : Sv c mc ps0 ks ms m) (S : Sta c mc ps0 root par rk) : ms.parts.length ≤ 7 := by rw [v.hist.good.len]; exact S.few
theorem Sv.laid (v : Sv c mc ps0 ks ms m) (S : Sta c mc ps0 root par rk) : ks.parts.length = c.laid.length := by
  rw [v.co.parts, S.km.laid_ps v.hist.good.names]
  unfold laidOf
  rw [List.length_map]
theorem Sv.kok (v : Sv c mc ps0 ks ms m) (S : Sta c mc ps0 root par rk) : KOk c ks.parts (held ks.ws) := by
  have g := v.hist.good
  have hl := v.laid S
  have hp := v.pl S
  rw [v.co.parts] at hl
  rw [v.co.parts, v.co.ws]
  exact ⟨by rw [S.km.sz]; exact S.sz, by rw [S.km.sz]; exact g.ok.part, g.ok.small, by omega, hl, by rw [S.km.bags, S.km.sz]; exact S.tree.rise, by rw [S.km.bags]; exact S.tree.len, by rw [S.km.sz]; exact g.hd⟩
theorem Sv.sto (v : Sv c mc ps0 ks ms m) (S : Sta c mc ps0 root par rk) : StOk c ks := ⟨v.kok S, v.kn⟩
theorem Sv.mok (v : Sv c mc ps0 ks ms m) (S : Sta c mc ps0 root par rk) (hm : m ≤ 900) : MOk c ks := by
  have k := v.kok S
  have hw := v.wsl S
  have hd := v.done
  exact ⟨k.sz, k.part, k.laid, ⟨v.kn.tie, v.kn.nd⟩, S.nr12, k.bags, fun b hb => by
    have := (k.rise b hb).nm.few
    have := k.sz.len
    omega, by rw [v.co.ws]; omega, by rw [v.co.chg]; omega⟩
theorem Sv.deedOk (v : Sv c mc ps0 ks ms m) (S : Sta c mc ps0 root par rk) : DeedOk mc ms := by
  have g := v.hist.good
  have hw := v.wsl S
  have hp := v.pl S
  have hs := S.szl
  refine ⟨fun p hp => ⟨?_, g.ok.small p hp, g.ok.any p hp⟩, by omega, by omega, by omega, by omega, fun n hn => ?_⟩
  · rw [(g.ok.part p hp).full]
    have := (g.ok.part p hp).rise.nm.prod S.sz
    omega
  · obtain ⟨i, hi, rfl⟩ := List.mem_iff_getElem.mp hn
    have h1 := S.sz.le hi
    have h2 := S.sz.ge hi
    have e : mc.sz.getD i 0 = mc.sz[i] := by rw [List.getD_eq_getElem?_getD, List.getElem?_eq_getElem hi]; rfl
    omega
theorem tag_put {d : Deed} (h : deedTag d = "put") : ∃ k ws, d = .put k ws := by
  cases d with
  | put k ws => exact ⟨k, ws, rfl⟩
  | settle n u => exact absurd h (by show ("settle" : Str) ≠ "put"; decide)
  | free n => exact absurd h (by show ("free" : Str) ≠ "put"; decide)
  | back => exact absurd h (by show ("back" : Str) ≠ "put"; decide)
theorem Sv.touOk (v : Sv c mc ps0 ks ms m) (S : Sta c mc ps0 root par rk) (ok : dOk mc ms d) : TouOk mc ms d := by
  have g := v.hist.good
  refine ⟨fun p hp => ⟨?_, S.km.some_ps g.names p hp⟩, Nat.le_trans S.tree.len (by decide), fun h => ?_, fun h => ?_⟩
  · have := (g.ok.part p hp).rise.nm.few
    have := S.szl
    omega
  · obtain ⟨k, ws, rfl⟩ := tag_put h
    exact ok.1
  · subst h
    obtain ⟨cs, g, e⟩ := last_split (ok : ms.done ≠ [])
    refine ⟨cs, g, e, fun ht => ?_⟩
    have hb := v.hist.back cs g e
    cases g with
    | part k ws => exact hb.1
    | name n u => exact absurd ht (by show ("name" : Str) ≠ "put"; decide)
theorem Sv.doOk (v : Sv c mc ps0 ks ms m) (S : Sta c mc ps0 root par rk) (ok : dOk mc ms d) : doOk ms d := by
  cases d with
  | put k ws => exact ok.1
  | settle n u => exact trivial
  | free n => exact ok
  | back =>
    obtain ⟨cs, g, e⟩ := last_split (ok : ms.done ≠ [])
    have hb := v.hist.back cs g e
    have hw := v.wsl S
    refine ⟨cs, g, e, ?_⟩
    cases g with
    | part k ws => exact hb.1
    | name n u => exact ⟨hb.1, by show ms.ws.length ≤ 1000; omega⟩
theorem Sv.sayOk (v : Sv c mc ps0 ks ms m) (S : Sta c mc ps0 root par rk) (ok : dOk mc ms d) : sayOk c ks d := by
  have g := v.hist.good
  have h1 := v.co.parts
  have h2 := v.co.ws
  cases d with
  | put k ws =>
    refine ⟨by rw [h1]; exact ok.1, ?_, ok.2.2.1, by rw [S.km.wd]; exact ok.2.2.2⟩
    rw [h1, S.km.sz]
    exact part_put v.hist ok.1 ok.2.1
  | settle n u => exact ⟨by rw [S.km.sz]; exact ok.1, by rw [S.km.sz]; exact ok.2⟩
  | free n =>
    have ok : (held ms.ws n).isSome = true := ok
    obtain ⟨u, hu⟩ := Option.isSome_iff_exists.mp ok
    exact ⟨by rw [S.km.sz]; exact (g.hd.lt n u hu).1, by rw [h2]; exact ok⟩
  | back =>
    obtain ⟨cs, g, e⟩ := last_split (ok : ms.done ≠ [])
    have hb := v.hist.back cs g e
    refine ⟨cs, g, by rw [v.co.chg]; exact e, ?_⟩
    cases g with
    | part k ws => show k < ks.parts.length; rw [h1]; exact hb.1
    | name n u => show u = none → (held ks.ws n).isSome = true; rw [h2]; exact hb.1
theorem Sv.fresh (v : Sv c mc ps0 ks ms m) (S : Sta c mc ps0 root par rk) : FreshOk mc ms root par rk := by
  have g := v.hist.good
  have hw := v.wsl S
  have hp := v.pl S
  have hs := S.szl
  refine ⟨⟨by omega, by omega, fun p hp => ?_, by rw [g.names]; exact S.tree⟩, by rw [← S.km.nr]; exact S.T.tree, S.sz, fun p hp => ⟨g.ok.part p hp, g.ok.small p hp⟩, g.hd, by omega, S.pos⟩
  have := (g.ok.part p hp).rise.nm.few
  omega
theorem Sv.deed (v : Sv c mc ps0 ks ms m) (S : Sta c mc ps0 root par rk) (ok : dOk mc ms d) : Sv c mc ps0 (doS c ks d) (doM ms d) (m + 1) := by
  have h1 := deed_done (ms := ms) (d := d)
  have h2 := v.done
  exact ⟨cor_deed v.co, hist_deed v.hist ok, deed_nd v.nd, by omega, deed_kn S.km S.T S.nr12 v.co v.hist ok v.kn⟩
theorem Sv.ext (v : Sv c mc ps0 ks ms m) (ex : Ext ks ks') (st : StOk c ks') : Sv c mc ps0 ks' ms m :=
  ⟨⟨ex.parts.trans v.co.parts, ex.ws.trans v.co.ws, ex.changes.trans v.co.chg⟩, v.hist, v.nd, v.done, st.kn⟩
theorem tell_same {c' : Kc} (h1 : c'.wd = c.wd) (h2 : c'.sz = c.sz) (h3 : c'.bags = c.bags) (h4 : c'.nr = c.nr) (h5 : c'.laid = c.laid) (h6 : ks'.parts = ks.parts) (h7 : held ks'.ws = held ks.ws) : tellD c' ks' = tellD c ks := by
  have e : oOf c' ks' = oOf c ks := by
    funext i
    unfold oOf
    rw [h1, h2, h3, h5, h6, h7]
  unfold tellD WOf ROf
  rw [e, h1, h2, h3, h4]
theorem Sv.told (v : Sv c mc ps0 ks ms m) (S : Sta c mc ps0 root par rk) {cf : Kc} {sf : KS} (f : FreshTold mc ms cf sf) : tellD cf sf = tellD c ks :=
  tell_same (f.wd.trans S.km.wd.symm) (f.sz.trans S.km.sz.symm) (f.bags.trans S.km.bags.symm) (f.nr.trans S.km.nr.symm) (f.laid.trans (S.km.laid_ps v.hist.good.names).symm) (f.parts.trans v.co.parts.symm) (by rw [f.held, v.co.ws])
theorem hist_nil {wd : Wd} {sz : List Nat} {ps : List Part} {h0 h : Held} {L : List Chg} (H : Hist wd sz ps0 h0 L ps h) (e : L = []) : ps = ps0 ∧ h = h0 := by
  cases H with
  | nil _ => exact ⟨rfl, rfl⟩
  | put _ _ _ _ _ => simp at e
  | name _ _ _ _ _ => simp at e
/-- all undone -/
theorem Sv.undone (v : Sv c mc ps0 ks ms m) (e : ms.done = []) : tellD c ks = tellD c (ks0 ps0) := by
  obtain ⟨h1, h2⟩ := hist_nil v.hist e
  exact tell_same rfl rfl rfl rfl rfl (v.co.parts.trans h1) (by rw [v.co.ws, h2]; rfl)
theorem fl_tell {c : Kc} {ks : KS} : Fl 3 (.list (tellD c ks)) := by
  refine fl_lst fun d hd => ?_
  unfold tellD at hd
  rcases List.mem_append.mp hd with hd | hd
  · obtain ⟨i, _, rfl⟩ := List.mem_map.mp hd
    exact fl_part
  · rw [List.mem_singleton.mp hd]
    exact fl_int
theorem tell_tup {c : Kc} {ks : KS} : tupOnlyL (tellD c ks) = true := by
  rw [tupOnlyL_iff]
  intro d hd
  unfold tellD at hd
  rcases List.mem_append.mp hd with hd | hd
  · obtain ⟨i, _, rfl⟩ := List.mem_map.mp hd
    exact tup_pp
  · rw [List.mem_singleton.mp hd]
    rfl
end
end SO
set_option Elab.async false
set_option linter.all false
set_option maxRecDepth 100000
set_option maxHeartbeats 4000000
/-! So69: the law, its beginning. -/
namespace SO
open PySem PySem.Spec PyProof.Rows L2
section
variable {X : Cx} {a e : Expr} {σ : L2.St} {H : Hp} {pos p2 : Pos}
/-- xs[:k], xs perhaps shorter -/
theorem evl_takeM {ds : List D0} {k : Nat} (ha : Ev X a σ H (.list ds)) (he : Ev X e σ H (pn k)) : EvL X (.Subscript a (.Slice none (some e) none p2) pos) σ H (ds.take k) := fun H1 k1 =>
  ew_pe (pe_slice sl_list pe_ew po_none (po_some pe_ew)) (show EW X a σ H1 _ from (ha H1 k1).mono fun v H2 ⟨k2, r⟩ => show EW X e σ H2 _ from (he H2 (k1.trans k2)).mono fun y H3 ⟨k3, r2⟩ => ⟨k, dp_int r2, by
    obtain ⟨q, xs, rfl, h1, h2⟩ := dp_lst (dp_mono k3 r)
    refine ⟨q, xs, rfl, h1, fun t ht => ⟨(k2.trans k3).trans (same_new ht), t, rfl, none_back (k2.trans k3) ht, _, upd_same, ?_⟩⟩
    unfold cutV
    rw [HT.sIx_none, HT.sIx_nat, List.drop_zero, Nat.sub_zero]
    have e : xs.take (min k xs.length) = xs.take k := by
      rcases Nat.le_total k xs.length with h | h
      · rw [Nat.min_eq_left h]
      · rw [Nat.min_eq_right h, List.take_length, List.take_of_length_le h]
    rw [e]
    exact dpa_mono (same_new ht) (dpa_take k h2)⟩)
end
theorem tp_mask {M : List Addr} {H : Hp} (h : ∀ m ∈ M, ∀ xs, ¬Rd H m (.tup xs)) : Tp H (mask M H) := fun b xs r => by
  have hb : b ∉ M := fun z => h b z xs r
  unfold Rd at r ⊢
  unfold mask
  rw [if_neg hb]
  exact r
theorem tree_tup {t : TreeD} : tupOnly (treeD t) = true := by
  have h1 : tupOnly (bagsD t.1) = true := by
    show tupOnlyL (t.1.map pns) = true
    exact maps_tup
  have h2 : tupOnly (tiesD t.2) = true := by
    show tupOnlyL (t.2.map tieD) = true
    exact ties_tup
  show (tupOnly (bagsD t.1) && (tupOnly (tiesD t.2) && true)) = true
  rw [h1, h2]
  rfl
theorem far_cls {wd : Wd} {sz ord : List Nat} {ps : List Part} (h3 : sz.length ≤ 3) (ok : PsOk wd sz ps) (h4 : ps.length ≤ 4) (ho : ord.Perm (List.range 10)) : Cls10 (farPs sz ps) 10 (10 - sz.length) ord := by
  refine ⟨by omega, by omega, ?_, fun p hp => ?_, ho⟩
  · unfold farPs
    rw [List.length_append, List.length_replicate, List.length_map]
    omega
  · unfold farPs at hp
    rcases List.mem_append.mp hp with hp | hp
    · rw [List.eq_of_mem_replicate hp]
      exact ⟨List.Pairwise.nil, fun x hx => by cases hx⟩
    · obtain ⟨p0, hp0, rfl⟩ := List.mem_map.mp hp
      have r := (ok.part p0 hp0).rise
      refine ⟨List.pairwise_map.mpr (r.up.imp fun h => by omega), fun x hx => ?_⟩
      obtain ⟨y, hy, rfl⟩ := List.mem_map.mp hx
      have := r.lt y hy
      omega
theorem far_few {sz : List Nat} {ps : List Part} (h4 : ps.length ≤ 4) : (farPs sz ps).length ≤ 7 := by
  unfold farPs
  rw [List.length_append, List.length_replicate, List.length_map]
  omega
theorem sta_of {c : Kc} {mc : Mc} {wd : Wd} {sz : List Nat} {ps : List Part} {t : TreeD} {root : Nat} {par rk : Nat → Nat} (h3 : sz.length ≤ 3) (hz : SzOk sz) (ok : PsOk wd sz ps) (h4 : ps.length ≤ 4)
    (bt : BagTree (farSz sz) ((farPs sz ps).map (·.1)) t) (rt : RTree t.1.length root par rk (near t.2)) (c1 : c.wd = wd) (c2 : c.sz = farSz sz) (c3 : c.bags = t.1) (c4 : c.nr = nearsOf t) (c5 : c.laid = laidOf (farPs sz ps) t) (m1 : mc.wd = wd) (m2 : mc.sz = farSz sz) (m3 : mc.t = t) : Sta c mc (farPs sz ps) root par rk := by
  have hnb := nbOf_nears rt
  refine ⟨⟨c1.trans m1.symm, c2.trans m2.symm, by rw [c3, m3], by rw [c4, m3], by rw [c5, m3], fun p hp => ?_⟩, by rw [m2]; exact farSz_ok hz (by omega), by rw [m2]; exact farSz_len (by omega), far_few h4, by rw [m2, m3]; exact bt, ⟨by rw [c4, nearsOf_len, hnb]; exact rt, by rw [c4, c3, nearsOf_len]⟩, by rw [c4, hnb, m3], ?_⟩
  · rw [m3]
    exact bt.parts p.1 (List.mem_map.mpr ⟨p, hp, rfl⟩)
  · have := bt.ties.many
    rw [m3]
    omega
theorem sv_first {c : Kc} {mc : Mc} {wd : Wd} {sz : List Nat} {ps : List Part} (h3 : sz.length ≤ 3) (ok : PsOk wd sz ps) (m1 : mc.wd = wd) (m2 : mc.sz = farSz sz) : Sv c mc (farPs sz ps) (ks0 (farPs sz ps)) ⟨farPs sz ps, [], []⟩ 0 :=
  ⟨⟨rfl, rfl, rfl⟩, Hist.nil ⟨rfl, by rw [m1, m2]; exact farPs_ok (by omega) ok, ⟨fun n u h => by cases h⟩⟩, List.nodup_nil, Nat.le_refl _, ⟨fun e he => (by cases he), fun e he => (by cases he), List.nodup_nil⟩⟩
def spLaw (K : PySem.W.Frag) : Sp := fun vs H Q _ => ∃ (a : Addr) (ns : List Int), vs = [.ref a] ∧ SqL K H a (ns.map V.int) ∧ ∀ H', Q (.bl true) H'
theorem KAt.notup {K : PySem.W.Frag} {c : Kc} {H : Hp} {st : KS} (h : KAt K c H st) : ∀ d ∈ c.own, ∀ xs, ¬Rd H d (.tup xs) := fun d hd xs => by
  simp only [Kc.own, List.mem_cons, List.not_mem_nil, or_false] at hd
  rcases hd with rfl | rfl | rfl | rfl | rfl
  · exact not_rd h.obj (fun z => nomatch z) fun ob z => nomatch z
  · obtain ⟨ys, h1, _⟩ := h.parts
    exact not_rd h1 (fun z => nomatch z) fun ob z => nomatch z
  · exact not_rd h.worths (fun z => nomatch z) fun ob z => nomatch z
  · obtain ⟨ys, h1, _⟩ := h.known
    exact not_rd h1 (fun z => nomatch z) fun ob z => nomatch z
  · obtain ⟨ys, h1, _⟩ := h.changes
    exact not_rd h1 (fun z => nomatch z) fun ob z => nomatch z
theorem TAt.notup {K : PySem.W.Frag} {tc : Tc} {H : Hp} {n : Nat} (h : TAt K tc H n) : ∀ xs, ¬Rd H tc.t (.tup xs) := fun xs => by
  obtain ⟨a, s, h1, _⟩ := h.ex
  exact not_rd h1 (fun z => nomatch z) fun ob z => nomatch z
theorem TAt.ne0 {K : PySem.W.Frag} {tc : Tc} {H : Hp} {n : Nat} (h : TAt K tc H n) : H tc.t ≠ none := fun z => by
  obtain ⟨a, s, h1, _⟩ := h.ex
  rw [z] at h1
  cases h1
theorem TAt.free {K : PySem.W.Frag} {tc : Tc} {H : Hp} {n : Nat} (h : TAt K tc H n) {d : Addr} (hd : H d = none) : tc.B d = none := by
  cases e : tc.B d with
  | none => rfl
  | some o =>
    have hne : d ≠ tc.t := fun z => h.ne0 (by rw [← z]; exact hd)
    have := h.wl d o (by simp; exact hne) e
    rw [hd] at this
    cases this
theorem apart_of {K : PySem.W.Frag} {tc : Tc} {c : Kc} {mc : Mc} {f1 : Addr} {H7 H8 H9 : Hp} {n : Nat} {ks : KS} {ms : MS} (t7 : TAt K tc H7 n) (t8 : TAt K tc H8 n) (ka8 : KAt K c H8 ks) (ka9 : KAt K c H9 ks) (t9 : TAt K tc H9 n) (ma9 : MAt K mc H9 ms)
    (hown : ∀ d ∈ c.own, H7 d = none) (hm : ∀ d ∈ mc.m :: mc.own, H8 d = none) (cM : c.M = c.own ++ [tc.t]) (cB : c.B = H8) (mM : mc.M = mc.own ++ (tc.t :: c.own)) (nf : H9 f1 = none) : Apart tc c mc f1 := by
  have hm1 : ∀ d ∈ mc.own, H8 d = none := fun d hd => hm d (List.mem_cons_of_mem _ hd)
  refine ⟨fun z => t7.ne0 (hown _ z), by rw [cM]; simp, ⟨fun z => t8.ne0 (hm1 _ z), fun z => t8.ne0 (hm _ (by rw [z]; exact List.mem_cons_self))⟩, by rw [mM]; simp, fun d hd => t7.free (hown d hd), fun d hd => t8.free (hm1 d hd), fun d hd => ⟨fun z => ka8.ne0 d hd (hm1 d z), fun z => ka8.ne0 d hd (hm d (by rw [z]; exact List.mem_cons_self))⟩, fun d hd => by rw [mM]; simp [hd], fun d hd => by rw [cB]; exact hm1 d hd, fun z => t9.ne0 (by rw [← z]; exact nf), fun z => ka9.ne0 _ z nf, fun z => ma9.ne0 _ (Or.inr z) nf⟩
end SO
set_option Elab.async false
set_option linter.all false
set_option maxRecDepth 100000
set_option maxHeartbeats 4000000
/-! So70: the law's rounds. -/
namespace SO
open PySem PySem.Spec PyProof.Rows L2
theorem Sv.low {c : Kc} {mc : Mc} {ps0 : List Part} {ks : KS} {ms : MS} {m m' : Nat} (v : Sv c mc ps0 ks ms m) (h : ms.done.length ≤ m') : Sv c mc ps0 ks ms m' := ⟨v.co, v.hist, v.nd, h, v.kn⟩
theorem iteB {c : Bool} {p q : Prop} (h : c = false) (k : q) : if c = true then p else q := by rw [if_neg (by rw [h]; decide)]; exact k
theorem touch_len {bags : List (List Nat)} {ms : MS} {d : Deed} (hb : bags.length ≤ 12) : (touchD bags ms d).length ≤ 12 := by
  have h1 : ∀ n, (bagsWith bags n).length ≤ 12 := fun n => by
    unfold bagsWith
    rw [List.length_map]
    refine Nat.le_trans (List.length_filter_le _ _) ?_
    rw [List.length_zipIdx]
    exact hb
  have h2 : ∀ ps z n, (touchM bags ps z n).length ≤ 12 := fun ps z n => by
    unfold touchM
    split
    · show 1 ≤ 12; omega
    · exact h1 n
  unfold touchD
  split
  · split
    · exact Nat.zero_le _
    · exact h2 _ _ _
  · exact h2 _ _ _
theorem filter_known {c : Kc} {a b : List Nat} {kn kn2 kn3 : List (Tie × Part)} (h2 : kn2 = kn.filter fun e => !tchd c a e.1) (h3 : kn3 = kn2.filter fun e => !tchd c b e.1) : kn3 = kn.filter fun e => !tchd c (a ++ b) e.1 := by
  rw [h3, h2, List.filter_filter]
  refine List.filter_congr fun e _ => ?_
  rw [tchd_app]
  cases tchd c a e.1 <;> cases tchd c b e.1 <;> rfl
section
variable {P : Program} {w : World} {K : PySem.W.Frag} {mg : Str → Option Value} {base : Heap}
theorem law_rounds (C : Ctx K mg) {tc : Tc} {c : Kc} {mc : Mc} {f1 : Addr} {ps0 : List Part} {root : Nat} {par rk : Nat → Nat} (Sk : Kst K c) (Sm : Mst K mc) (S : Sta c mc ps0 root par rk) (ap : Apart tc c mc f1)
    {cdv : Value} {A : Around} {outer : List Env} {s : Shared} {H0 : Hp} {E : XK} {Q : VK} (hr : Room 34 (A.deeper (envOfC "law" (defScope s_law) s.heap.objs.size (He.ga K "law") cdv)))
    {v0 v2 v3 v4 : V} {H : Hp} {n : Nat} {ks : KS} (wa : WAt K tc c mc f1 (tellD c (ks0 ps0)) H n ks ⟨ps0, [], []⟩) (hn : n ≤ 1000) (sv : Sv c mc ps0 ks ⟨ps0, [], []⟩ 0) (ai : AllIn c ks) (r4 : Dp K H v4 (treeD mc.t)) (q : ∀ H', Q (.bl true) H') :
    BW (cx P w K mg base n_law "law" (defScope s_law) (He.ga K "law") cdv A outer s H0 E) ((defBody s_law).drop 7) { nx := fun _ H' => Q .non H', rt := Q } [some v0, some (.ref tc.t), some v2, some v3, some v4, some (.int (mc.t.1.length : Nat)), some (.ref c.a), some (.ref mc.m), some (.ref f1), none, none, none, none, none] H := by
  have nd := c_law.nd
  have hnl := S.nrl
  have hn12 := S.nr12
  have tt : tupOnlyL (tellD c (ks0 ps0)) = true := tell_tup
  have tie : TiesOk c.nr.length mc.t.2 := by rw [hnl]; exact S.tree.ties
  refine b_forRw (g_name 9 nd) rfl C.m_range (ew_pe pe_int ⟨3, rfl, by decide, fun i σ' H' => ∃ o9 o10 o11 o12 o13 n ks ms, σ' = [some v0, some (.ref tc.t), some v2, some v3, some v4, some (.int (mc.t.1.length : Nat)), some (.ref c.a), some (.ref mc.m), some (.ref f1), o9, o10, o11, o12, o13] ∧ WAt K tc c mc f1 (tellD c (ks0 ps0)) H' n ks ms ∧ n ≤ 1000 + 10000 * i ∧ Sv c mc ps0 ks ms (40 * i) ∧ AllIn c ks ∧ Dp K H' v4 (treeD mc.t), ⟨none, none, none, none, none, n, ks, _, rfl, wa, hn, sv, ai, r4⟩, ?_, ?_⟩)
  · clear wa hn sv ai r4
    rintro i σ' H' hi ⟨o9, o10, o11, o12, o13, n, ks, ms, rfl, wa, hn, sv, ai, r4⟩
    refine b_set 10 nd (ew_mt0 (met_reckoned C c) hr (by decide) (ew_v 6 rfl ⟨rfl, wa.ka.obj, ks, rfl, wa.ka, fun H1 k1 => ?_⟩))
    have wa1 := wa.same k1
    have r41 := dp_mono k1 r4
    refine b_setl 11 nd (evl_lst eva_nil) fun tq H2 ntq k2 ltq => ?_
    have wa2 := wa1.same k2
    have r42 := dp_mono k2 r41
    have tqk : tq ∉ c.own := fun z => wa1.ka.ne0 _ z ntq
    have tqm : tq ∉ mc.own := fun z => wa1.ma.ne0 _ (Or.inr z) ntq
    have tqt : tq ≠ tc.t := fun z => wa1.ta.ne0 (by rw [← z]; exact ntq)
    refine b_forRw (g_name 12 nd) rfl C.m_range (ew_op op_add (ew_pe pe_int (ew_draw (m := 31) (cal_g_draw C tc) hr (by decide) (ew_v 1 rfl ⟨rfl, rfl⟩) ev_int (by decide) (by decide) wa2.ta (by omega) fun dr H3 hdr f3 t3 => ?_)))
    have wa3 := wa2.tape ap tt f3 t3
    refine ⟨10, (dr : Int), rfl, rfl, 10 + dr, by show V.int _ = V.int _; congr 1, Nat.lt_of_lt_of_le (by omega : 10 + dr < 100) (by decide), fun j σ' H' => ∃ o12 o13 n' ks2 ms2 tl, σ' = [some v0, some (.ref tc.t), some v2, some v3, some v4, some (.int (mc.t.1.length : Nat)), some (.ref c.a), some (.ref mc.m), some (.ref f1), some (.int (i : Int)), some (.int (ks.many : Int)), some (.ref tq), o12, o13] ∧ WAt K tc c mc f1 (tellD c (ks0 ps0)) H' n' ks2 ms2 ∧ n' ≤ 1001 + 10000 * i + 200 * j ∧ Sv c mc ps0 ks2 ms2 (40 * i + j) ∧ Ls K H' tq (tl.map pn) ∧ ks2.known = ks.known.filter (fun e => !tchd c tl e.1) ∧ ks2.many = ks.many ∧ tl.length ≤ 12 * j ∧ Dp K H' v4 (treeD mc.t), ⟨o12, o13, n + 1, ks, ms, [], rfl, wa3, by omega, sv, ls_fr ltq f3 (fun z => tqt (List.mem_singleton.mp z)) rfl, ?_, rfl, Nat.le_refl _, dp_tp f3.tp tree_tup r42⟩, ?_, ?_⟩
    · refine (List.filter_eq_self.mpr fun e _ => ?_).symm
      rw [tchd_nil]
      rfl
    · clear wa3 t3 f3
      rintro j σ' H' hj ⟨o12, o13, n', ks2, ms2, tl, rfl, wa3, hn', sv2, ltq3, hkn, hmany, htl, r43⟩
      -- deed
      refine b_set 13 nd (ew_call (cal_g_deed C tc mc Sm) hr (by decide) (aw_cons (ew_v 1 rfl (aw_one (ew_v 7 rfl ⟨n', ms2, rfl, wa3.ta, by omega, wa3.ma, sv2.deedOk S, ap.tm, Or.inl ap.tmM, fun vd d H4 f4 t4 ma4 rd4 ok => ?_⟩)))))
      have wa4 := wa3.tape ap tt f4 t4
      have ltq4 := ls_fr ltq3 f4 (fun z => tqt (List.mem_singleton.mp z)) pns_tup
      have r44 := dp_tp f4.tp tree_tup r43
      obtain ⟨xs, hxs, rxs⟩ := ltq4
      -- touched
      refine b_expr (ew_m (id := "list.extend") tyL_ok PySem.F.plainAttrs_list PySem.F.slot_list_extend mt_extend (ew_v 11 rfl ⟨⟨tq, xs, rfl, hxs⟩, aw_one (ew_call (cal_g_touched C mc Sm) hr (by decide) (aw_cons (ew_v 7 rfl (aw_one (ew_v 13 rfl ⟨ms2, d, vd, rfl, rd4, wa4.ma, sv2.touOk S ok, fun q5 H5 nq5 k5 l5 => ?_⟩)))))⟩))
      obtain ⟨zs, hzs, rzs⟩ := l5
      have hl1 := dpa_len rxs
      have hl2 := dpa_len rzs
      rw [List.length_map] at hl1 hl2
      have hl3 := touch_len (bags := mc.t.1) (ms := ms2) (d := d) S.tree.len
      refine ⟨tq, q5, xs, zs, rfl, rfl, k5 _ _ hxs, hzs, by rw [hl1, hl2]; exact small (by omega), ?_⟩
      have f6 : Fr [tq] H5 (upd H5 tq (.lst (xs ++ zs))) := fr_one fun ys => not_rd (k5 _ _ hxs) (fun z => nomatch z) fun ob z => nomatch z
      have ltq6 : Ls K (upd H5 tq (.lst (xs ++ zs))) tq ((tl ++ touchD mc.t.1 ms2 d).map pn) := ⟨_, upd_same, by
        rw [List.map_append]
        exact dpa_app (dpa_tp f6.tp pns_tup (dpa_mono k5 rxs)) (dpa_tp f6.tp pns_tup rzs)⟩
      have wa6 := wa1.new tt (wa4.same k5) f6 ntq
      have r46 := dp_tp f6.tp tree_tup (dp_mono k5 r44)
      have rd6 := dp_tp f6.tp deed_tup (dp_mono k5 rd4)
      generalize upd H5 tq (.lst (xs ++ zs)) = H6 at f6 ltq6 wa6 r46 rd6 ⊢
      -- do
      have hwl := sv2.wsl S
      have hdl := sv2.done
      refine b_expr (ew_call (cal_g_do C mc Sm) hr (by decide) (aw_cons (ew_v 7 rfl (aw_one (ew_v 13 rfl ⟨ms2, d, vd, rfl, rd6, wa6.ma, sv2.doOk S ok, by omega, by omega, fun H7 f7 ma7 => ?_⟩)))))
      have wa7 := wa6.model ap tt f7 ma7
      have ltq7 := ls_fr ltq6 f7 tqm pns_tup
      have r47 := dp_tp f7.tp tree_tup r46
      have rd7 := dp_tp f7.tp deed_tup rd6
      -- say
      refine b_if (tw_pt (pt_cmp (pc_notN pe_ew)) (show EW _ _ _ _ _ from ew_call (cal_g_say C c Sk S.T) hr (by decide) (aw_cons (ew_v 6 rfl (aw_one (ew_v 13 rfl ⟨ks2, d, vd, rfl, rd7, wa7.ka, sv2.mok S (by omega), sv2.sayOk S ok, fun H8 f8 ka8 => ⟨_, rfl, iteB (by simp) (bw_nil (bw_nil ?_))⟩⟩))))))
      have wa8 := wa7.keep ap tt f8 ka8
      obtain ⟨dk1, dk2⟩ := deed_known S.km sv2.co sv2.hist ok
      refine ⟨_, _, n' + 200, doS c ks2 d, doM ms2 d, tl ++ touchD mc.t.1 ms2 d, rfl, wa8, by omega, sv2.deed S ok, ls_fr ltq7 f8 tqk pns_tup, filter_known hkn dk1, dk2.trans hmany, by rw [List.length_append]; omega, dp_tp f8.tp tree_tup r47⟩
    · clear wa3 t3 f3
      rintro σ' H' ⟨o12, o13, n', ks2, ms2, tl, rfl, wa3, hn', sv2, ltq3, hkn, hmany, htl, r43⟩
      -- the tales are the same
      refine b_if (tw_ww (ww_or (tw_cmp op_ne (ew_mt0 (met_reckoned C c) hr (by decide) (ew_v 6 rfl ⟨rfl, wa3.ka.obj, ks2, rfl, wa3.ka, fun H4 k4 => ew_v 10 rfl ?_⟩)))))
      refine rd_neI (K := K) _ _ H4 (Same.refl _) (.int _) (.int _) _ fun z5 H5 k5 rz5 => ⟨_, dp_bool rz5, iteB (by rw [hmany]; simp) ?_⟩
      have wa5 := (wa3.same k4).same k5
      have ltq5 := ls_mono (ls_mono ltq3 k4) k5
      have r45 := dp_mono k5 (dp_mono k4 r43)
      refine ww_or1 (tw_cmp (op_neD hr.units) (ew_call (cal_g_all C c Sk S.T) hr (by decide) (aw_cons (ew_v 6 rfl (aw_one (ew_v 5 rfl ⟨ks2, by rw [hnl], wa5.ka, sv2.sto S, by rw [hnl]; exact S.pos, Nat.le_trans hn12 (by decide), fun l1 H6 ks3 nl1 f6 ka6 sto6 ex6 ai6 l6 => ?_⟩))))))
      have f6' : Fr c.own H5 H6 := own_sub f6 (by simp)
      have wa6 := wa5.keep ap tt f6' ka6
      have sv6 := sv2.ext ex6 sto6
      have ltq6 := ls_fr ltq5 f6' tqk pns_tup
      have r46 := dp_tp f6'.tp tree_tup r45
      refine ew_call (cal_g_fresh_told C mc Sm) hr (by decide) (aw_cons (ew_v 7 rfl (aw_one (ew_v 5 rfl ⟨ms2, root, par, rk, rfl, wa6.ma, sv6.fresh S, fun l2 H7 cf sf nl2 k7 ft l7 => ?_⟩))))
      refine rd_neD (K := K) fl_tell fl_tell (by decide) _ _ H7 (Same.refl _) (ls_mono l6 k7).dp l7.dp _ fun z8 H8 k8 rz8 => ⟨_, dp_bool rz8, iteB ?_ (bw_nil ?_)⟩
      · rw [sv2.told S ft, eqv_self fl_tell]
        rfl
      have wa8 := (wa6.same k7).same k8
      have ltq8 := ls_mono (ls_mono ltq6 k7) k8
      have r48 := dp_mono k8 (dp_mono k7 r46)
      -- the count
      refine b_if (tw_cmp op_ne (ew_mt0 (met_reckoned C c) hr (by decide) (ew_v 6 rfl ⟨rfl, wa8.ka.obj, ks3, rfl, wa8.ka, fun H9 k9 => Ev.go (ev_add (j := (forg mc.t.2 c.nr.length tl mc.t.2 : Nat)) (ev_v 10 rfl (.int _)) (ev_call (cal_g_forgotten C) hr (by decide) (eva2 (ev_v 4 rfl (dp_mono k9 r48)) (ev_v 11 rfl (ls_mono ltq8 k9).dp)) ⟨mc.t, tl, c.nr.length, root, par, rk, rfl, ?_, by omega, ?_, rfl⟩)) fun u10 H10 k10 r10 => ?_⟩)))
      · have := S.tree.ties.many
        have := S.tree.len
        omega
      · rw [← S.nb]
        exact S.T.tree
      have cnt := count_due S.T hn12 tie S.nb sv.kn ai hkn hmany ex6 sv6.kn ai6
      rw [dp_int r10]
      refine rd_neI (K := K) _ _ H10 (Same.refl _) (.int _) (.int _) _ fun z11 H11 k11 rz11 => ⟨_, dp_bool rz11, iteB (by rw [cnt]; simp) (bw_nil (bw_nil ?_))⟩
      have kk := (k9.trans k10).trans k11
      exact ⟨_, _, _, _, _, n', ks3, ms2, rfl, wa8.same kk, by omega, sv6.low (by have := sv6.done; omega), ai6, dp_mono kk r48⟩
  · clear wa hn sv ai r4
    rintro σ' H' ⟨o9, o10, o11, o12, o13, n, ks, ms, rfl, wa, hn, sv, ai, r4⟩
    have hdl := sv.done
    -- all undone
    refine b_forRw (g_name 9 nd) rfl C.m_range (Ev.go (ev_lenL C.m_len (er_ev (er_mk 7 hr rfl wa.ma.obj rfl) wa.ma.done.dp)) fun v1 H1 k1 r1 => ⟨ms.done.length, by rw [dp_int r1, List.length_map], Nat.lt_of_le_of_lt hdl (by decide), fun j σ' H' => ∃ o9 ks' ms', σ' = [some v0, some (.ref tc.t), some v2, some v3, some v4, some (.int (mc.t.1.length : Nat)), some (.ref c.a), some (.ref mc.m), some (.ref f1), o9, o10, o11, o12, o13] ∧ WAt K tc c mc f1 (tellD c (ks0 ps0)) H' n ks' ms ∧ Sv c mc ps0 ks' ms' 120 ∧ ms'.done.length + j = ms.done.length, ⟨o9, ks, ms, rfl, wa.same k1, sv, rfl⟩, ?_, ?_⟩)
    · rintro j σ' H' hj ⟨o9, ks', ms', rfl, wa', sv', hlen⟩
      have hne : ms'.done ≠ [] := fun z => by rw [z] at hlen; simp at hlen; omega
      have hdk : dOk mc ms' .back := hne
      obtain ⟨cs, g, e, hb⟩ := sv'.sayOk S hdk
      have e2 : ms'.done = cs ++ [g] := by rw [← sv'.co.chg]; exact e
      refine b_expr (ew_mt0 (met_back C c Sk S.T) hr (by decide) (ew_v 6 rfl ⟨rfl, wa'.ka.obj, ks', cs, g, rfl, wa'.ka, sv'.mok S (by decide), e, hb, fun H2 f2 ka2 => bw_nil ?_⟩))
      have svn := sv'.deed S hdk
      rw [doS_back e, back_doM e2] at svn
      have hdn : (setM { ms' with done := cs } g).done = cs := by cases g <;> rfl
      have hlc : cs.length + 1 = ms'.done.length := by rw [e2, List.length_append]; rfl
      have hd' := sv'.done
      exact ⟨_, backS c ks' cs g, setM { ms' with done := cs } g, rfl, wa'.keep ap tt f2 ka2, svn.low (by rw [hdn]; omega), by rw [hdn]; omega⟩
    · rintro σ' H' ⟨o9, ks', ms', rfl, wa', sv', hlen⟩
      have hnil : ms'.done = [] := List.eq_nil_of_length_eq_zero (by omega)
      refine b_ret (ew_cmp (op_eqD hr.units) (ew_call (cal_g_all C c Sk S.T) hr (by decide) (aw_cons (ew_v 6 rfl (aw_one (ew_v 5 rfl ⟨ks', by rw [hnl], wa'.ka, sv'.sto S, by rw [hnl]; exact S.pos, Nat.le_trans hn12 (by decide), fun l1 H6 ks3 nl1 f6 ka6 sto6 ex6 ai6 l6 => ew_v 8 rfl ?_⟩))))))
      have f6' : Fr c.own H' H6 := own_sub f6 (by simp)
      have wa6 := wa'.keep ap tt f6' ka6
      refine rd_eqD (K := K) fl_tell fl_tell (by decide) _ _ H6 (Same.refl _) l6.dp wa6.fi.dp _ fun z7 H7 k7 rz7 => ?_
      rw [dp_bool rz7, sv'.undone hnil, eqv_self fl_tell]
      exact q H7
end
end SO
set_option Elab.async false
set_option linter.all false
set_option maxRecDepth 100000
set_option maxHeartbeats 4000000
/-! So71: the law. -/
namespace SO
open PySem PySem.Spec PyProof.Rows L2
section
variable {P : Program} {w : World} {K : PySem.W.Frag} {mg : Str → Option Value} {base : Heap}
theorem law_body (C : Ctx K mg) (cdv : Value) (A : Around) (outer : List Env) (s : Shared) (H : Hp) (vs : List V) (Q : VK) (E : XK) (hr : Room 34 (A.deeper (envOfC "law" (defScope s_law) s.heap.objs.size (He.ga K "law") cdv))) (hv : spLaw K vs H Q E) :
    BW (cx P w K mg base n_law "law" (defScope s_law) (He.ga K "law") cdv A outer s H E) (defBody s_law) { nx := fun _ H' => Q .non H', rt := Q } (start n_law vs) H := by
  obtain ⟨a, ns, e, hs, q⟩ := hv
  subst e
  have nd := c_law.nd
  have rs : Dp K H (.ref a) (.list (ns.map PyData.int)) := .lst hs dpa_of_ints
  refine b_set 1 nd (ew_lst (aw_cons (EvL.go (evl_listL C.m_list (EvL.ev (evl_takeM (k := 63) (ev_v 0 rfl rs) ev_int))) fun qc H1 nqc k1 lqc => aw_cons (ew_pe pe_int (aw_one (ew_pe pe_int ⟨small3, fun pt npt => ?_⟩))))))
  obtain ⟨xs, hqc, rxs⟩ := lqc
  rw [← List.map_take] at rxs
  have exs := dpa_ints rxs
  subst exs
  have nqt : qc ≠ pt := fun z => by rw [z, npt] at hqc; cases hqc
  have k2 := same_new (o := .lst [.ref qc, .int 0, .int 0]) npt
  have hpt : upd H1 pt (.lst [.ref qc, .int 0, .int 0]) pt = some (.lst [.ref qc, .int ((0 : Nat) : Int), .int 0]) := upd_same
  have hqc2 := k2 _ _ hqc
  generalize upd H1 pt (.lst [.ref qc, .int 0, .int 0]) = H2 at k2 hpt hqc2 ⊢
  obtain ⟨tc, e1, e2, e3, e4⟩ : ∃ tc : Tc, tc.t = pt ∧ tc.cc = qc ∧ tc.B = H2 ∧ tc.cells = ns.take 63 := ⟨⟨pt, qc, ns.take 63, H2⟩, rfl, rfl, rfl, rfl⟩
  have t2 : TAt K tc H2 0 := ⟨⟨0, 0, by rw [e1, e2]; exact hpt, Nat.le_refl _⟩, by
    rw [e1, e2, e3, e4]
    refine SqL.of ?_
    unfold mask
    rw [if_neg (by simp; exact nqt)]
    exact hqc2, by rw [e3]; exact fun b o _ h => h⟩
  rw [← e1]
  -- word
  refine b_set 2 nd (ew_call (cal_g_word C tc) hr (by decide) (aw_one (ew_v 1 rfl ⟨0, rfl, t2, by decide, fun wd H3 f3 t3 => ?_⟩)))
  -- sheet
  refine b_set 3 nd (ew_call (cal_g_far C) hr (by decide) (aw_cons (ew_v 1 rfl (aw_cons (ew_call (cal_g_sheet C tc) hr (by decide) ?_)))))
  refine aw_cons (ew_v 1 rfl (aw_cons (ew_v 2 rfl (aw_cons (ew_pe pe_int (aw_cons (ew_pe pe_int (aw_one (ew_pe pe_int ?_)))))))))
  refine ⟨1, wd, rfl, t3, by decide, fun v4 sz ps H4 f4 t4 hz hz0 hz3 pok hp4 r4 => ?_⟩
  refine aw_one (ew_pe pe_int ⟨_, v4, sz, ps, rfl, r4, hz3, hp4, fun p hp => ?_, fun v5 H5 k5 r5 => ?_⟩)
  · have := (pok.part p hp).rise.nm.few
    omega
  have t5 := t4.mono k5
  -- tree
  refine b_set 4 nd (ew_call (cal_g_tree C tc) hr (by decide) (aw_cons (ew_v 1 rfl (aw_one (ew_v 3 rfl ⟨101, farSz sz, farPs sz ps, v5, rfl, r5, t5, by decide, farSz_len (by omega), fun ord ho => ?_, fun v6 t H6 f6 t6 dr r6 => ?_⟩)))))
  · rw [farSz_len (by omega)] at ho ⊢
    exact (far_cls hz3 pok hp4 ho).bg (by omega) (by omega) (far_few hp4)
  rw [farSz_len (by omega)] at dr
  obtain ⟨bt, root, par, rk, rt⟩ := drawn_tree (many := 10) (sz := farSz sz) (fun ord ho => far_cls hz3 pok hp4 ho) (by omega) (by omega) (farSz_len (by omega)) dr
  -- many
  refine b_setv 5 nd (Ev.to (ev_lenT C.m_len (ev_ixT (d := bagsD t.1) (ev_v 4 rfl r6) ev_int (at_nat (n := 0) rfl))) (by rw [List.length_map])) fun v7 H7 k7 r7 => ?_
  rw [dp_int r7]
  have t7 := t6.mono k7
  have r5' := dp_mono k7 (dp_tp f6.tp sheet_tup r5)
  have r6' := dp_mono k7 r6
  have io : InitOk (farSz sz) (farPs sz ps) t := ⟨by rw [farSz_len (by omega)]; omega, by have := far_few (sz := sz) hp4; omega, fun p hp => ?_, bt⟩
  rotate_left
  · have := ((farPs_ok (by omega : sz.length ≤ 10) pok).part p hp).rise.nm.few
    rw [farSz_len (by omega)] at this
    omega
  -- keeper
  refine b_par (i := 6) (j := 7) rfl nd (ew_mk (mak_keeper C [tc.t]) hr (by decide) (aw_cons (ew_v 2 rfl (aw_cons (ew_v 3 rfl (aw_one (ew_v 4 rfl fun x dx nx ndx ne => ?_)))))))
  have e0 : Same H7 (upd (upd H7 dx (.own x)) x (.ins (kC K) dx [])) := (same_new ndx).trans (same_new (by rw [upd_ne (Ne.symm ne)]; exact nx))
  have nxt : x ≠ tc.t := fun z => t7.ne0 (by rw [← z]; exact nx)
  have em : Same (mask [tc.t] H7) (mask (x :: [tc.t]) (upd (upd H7 dx (.own x)) x (.ins (kC K) dx []))) := mask_mono fun b o hb hbo => ⟨by
    simp at hb ⊢
    exact ⟨fun z => (by rw [z, nx] at hbo; cases hbo), hb⟩, e0 b o hbo⟩
  have hnt : ∀ m ∈ [tc.t], ∀ xs, ¬Rd H7 m (.tup xs) := fun m hm => by rw [List.mem_singleton.mp hm]; exact t7.notup
  refine ⟨x, dx, wd, farSz sz, farPs sz ps, t, v5, v6, rfl, upd_same, by simp; exact nxt, fun m hm => by rw [List.mem_singleton.mp hm]; exact fun z => t7.ne0 (none_back e0 z), dp_mono em (dp_tp (tp_mask hnt) sheet_tup r5'), dp_mono em (dp_tp (tp_mask hnt) tree_tup r6'), io, fun H8 c ca cwd csz cbags cnr claid cM cB Sk ka8 f8 hown => ⟨rfl, ?_⟩⟩
  have hfree : ∀ d ∈ c.own, H7 d = none := fun d hd => by
    by_cases hdx : d = x
    · rw [hdx]; exact nx
    · exact none_back e0 (hown d hd hdx)
  have t8 : TAt K tc H8 _ := t7.new (t7.mono e0) f8 nx
  have r5'' := dp_tp f8.tp sheet_tup (dp_mono e0 r5')
  have r6'' := dp_tp f8.tp tree_tup (dp_mono e0 r6')
  have hnt8 : ∀ m ∈ tc.t :: c.own, ∀ xs, ¬Rd H8 m (.tup xs) := fun m hm => by
    rcases List.mem_cons.mp hm with rfl | hm
    · exact t8.notup
    · exact ka8.notup m hm
  refine ew_call (cal_g_begun C (tc.t :: c.own)) hr (by decide) (aw_cons (ew_v 2 rfl (aw_cons (ew_v 3 rfl (aw_one (ew_v 4 rfl ⟨wd, farSz sz, farPs sz ps, t, v5, v6, rfl, fun m hm => ?_, dp_tp (tp_mask hnt8) sheet_tup r5'', dp_tp (tp_mask hnt8) tree_tup r6'', fun H9 mc mwd msz mt mM mB Sm ma9 k9 hmown => ?_⟩))))))
  · rcases List.mem_cons.mp hm with rfl | hm
    · exact t8.ne0
    · exact ka8.ne0 m hm
  have sta := sta_of (mc := mc) hz3 hz pok hp4 bt rt cwd csz cbags cnr claid mwd msz mt
  have sv := sv_first (c := c) (mc := mc) hz3 pok mwd msz
  have ka9 := ka8.mono k9
  have t9 := t8.mono k9
  have hnl : c.nr.length = t.1.length := by rw [cnr, nearsOf_len]
  subst ca
  -- first
  refine b_set 8 nd (ew_call (cal_g_all C c Sk sta.T) hr (by decide) (aw_cons (ew_v 6 rfl (aw_one (ew_v 5 rfl ⟨ks0 (farPs sz ps), by rw [hnl], ka9, sv.sto sta, by rw [hnl, ← mt]; exact sta.pos, Nat.le_trans sta.nr12 (by decide), fun f1 H10 s1 nf1 f10 ka10 sto10 ex10 ai10 l10 => ?_⟩)))))
  have ap := apart_of t7 t8 ka8 ka9 t9 ma9 hfree hmown cM cB mM nf1
  have f10' : Fr c.own H9 H10 := own_sub f10 (by simp)
  have wa10 : WAt K tc c mc f1 (tellD c (ks0 (farPs sz ps))) H10 _ s1 ⟨farPs sz ps, [], []⟩ := ⟨t9.fr f10' ap.tk ap.kt, ka10, ma9.fr f10' ap.km fun d hd => Or.inl (ap.kmM d hd), l10⟩
  have r10 := dp_tp f10'.tp tree_tup (dp_mono k9 r6'')
  subst mt
  exact law_rounds C Sk Sm sta ap hr wa10 (by omega) (sv.ext ex10 sto10) ai10 r10 q
end
theorem law_facts {P : Program} {w : World} {K : PySem.W.Frag} {h : Heap} {mg : Str → Option Value} {f : Addr} (X : K.In h) (G : h.Ns mainGlobals mg) (hfa : mg ("law" : Str) = some (.ref f)) (c : He.SaysD fa fn K) :
    ∃ fd : FuncData, (∀ (s : Shared) (v : Value), BindsTo s fd ⟨[v], []⟩ [("script", v)]) ∧ ∀ base : Heap, K.In base → base.Ns mainGlobals mg → FnOk P w K mg base CX0 35 f fd ["script"] (spLaw K) := by
  have C : Ctx K mg := ⟨c, h, X, G⟩
  obtain ⟨fd, F⟩ := c.def_ 66 (d := d_law) rfl
  have e := hfa.symm.trans (C.glo 52 : mg "law" = _)
  cases e
  have b := FunD.bindsA (ps := ["script"]) F fun _ _ _ _ _ _ us hl => match us, hl with | [_], _ => rfl
  exact ⟨fd, fun s v => b s [v] rfl, fun base _ _ => FunD.ok F c_law (fun vs H Q E ⟨_, _, h, _⟩ => by rw [h]; rfl) fun cdv A outer s H vs Q E hr h => ⟨_, pss_bw.nox, law_body C cdv A outer s H vs Q E hr h⟩⟩
end SO
set_option Elab.async false
set_option linter.all false
set_option maxRecDepth 100000
set_option maxHeartbeats 8000000
/-! So72: the law holds. -/
open PySem PySem.W PySem.Calls PyProof.Rows
theorem PySem.Challenge.cw_sumorder_k76_whole_long_histories_holds : PySem.Challenge.rw_sumorder_k76_whole_long_histories.Holds := by
  w_on; o_law
  refine HandSHeadRun.head_any (r := SO.R) (q := view SO.R.prog [80]) (H := SO.hk) (ob := SO.ob) (M := 12000) (loose := SO.names) (d := HandSHeadRun.topDef SO.R.prog 80) (kwd := []) SO.ob_eq
    (by kernel_rfl) (fun s => by kernel_rfl) SO.run (by kernel_rfl) (by kernel_rfl) (by kernel_rfl) (by rfl) (by first | assumption | decide +kernel) (by decide +kernel) ⟨rfl, rfl, rfl, rfl, rfl, by decide +kernel⟩ ?hw ?hc
  case hw => w_witness2
  case hc =>
    refine L2.walk_ofE (l := PySem.Challenge.rw_sumorder_k76_whole_long_histories) (n := 63) (k := 35) (x := "script") (CX := L2.CX0) rfl (by decide) (by kernel_rfl) ⟨rfl, by decide, by decide⟩ ?F (fun _ _ _ _ z => z)
    intro w mg fa h Y G hmg0
    obtain ⟨K, KX, c⟩ := Y
    have hmg : mg ("law" : PySem.Str) = some (.ref fa) := by
      have e : (HandSHeadRun.topDef SO.R.prog 80).name = ("law" : PySem.Str) := by kernel_rfl
      rw [← e]
      exact hmg0
    obtain ⟨fd, hb, hF⟩ := SO.law_facts (P := (PySem.Challenge.rw_sumorder_k76_whole_long_histories).prog) (w := w) KX G hmg c
    exact ⟨K, fd, SO.spLaw K, KX, hb, fun H a ns hl _ hS => ⟨a, ns, rfl, hS, fun _ => rfl⟩, hF⟩
