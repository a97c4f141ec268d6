import PyProof.Rows.All
import Wide.All
import OpenK.AllK
import Wide.FinOn
import HandS.ForMost
import HandS.Deep
import HandS.Wide
import HandS.WideBits
import HandS.TupAny
import HandS.TupMul
import HandS.TupLe
import HandS.Zip
import HandS.IsInst
import HandS.Defaults
import HandS.Flow
import PySem.Challenge.RW_pointsenough_k18_whole_webs
import KE.KStateDown
import HandS.Base
import HandS.Call
import HandS.Ends
import HandS.More
import HandS.Words
import HandS.WordsExc
import HandS.Head0
import HandS.Head1
import HandS.Head2
import HandS.HeadEnd
import HandS.HeadHook1
import HandS.HeadHook2
set_option Elab.async false
set_option linter.all false
set_option maxRecDepth 100000
/-! ## Fw1 -/
set_option maxHeartbeats 4000000
namespace Wb
open PySem PySem.Spec PyProof.Rows L2
/-! ### data that stands in the abstract heap: lists are tracked ones -/
mutual
inductive Da (K : PySem.W.Frag) (H : Hp) : V → PyData → Prop
  | non : Da K H .non .none
  | bl (b : Bool) : Da K H (.bl b) (.bool b)
  | int (i : Int) : Da K H (.int i) (.int i)
  | str (x : Str) : Da K H (.str x) (.str x)
  | lst {a : Addr} {xs : List V} {ds : List PyData} : H a = some (.lst xs) → DaAll K H xs ds → Da K H (.ref a) (.list ds)
  | tup {a : Addr} {xs : List V} {ds : List PyData} : SqT K H a xs → DaAll K H xs ds → Da K H (.ref a) (.tuple ds)
  | ptr (a : Addr) : Da K H (.ref a) (.dict [(.int (Int.ofNat a), .none)])
inductive DaAll (K : PySem.W.Frag) (H : Hp) : List V → List PyData → Prop
  | nil : DaAll K H [] []
  | cons {v : V} {vs : List V} {d : PyData} {ds : List PyData} : Da K H v d → DaAll K H vs ds → DaAll K H (v :: vs) (d :: ds)
end
theorem sqT_mono {K : PySem.W.Frag} {H H' : Hp} {a : Addr} {xs : List V} (e : Same H H') (h : SqT K H a xs) : SqT K H' a xs := by
  rcases h with (h | ⟨o, h⟩) | h
  · exact .inl (.inl (e _ _ h))
  · exact .inl (.inr ⟨o, e _ _ h⟩)
  · exact .inr h
/-- all but the lists stand as they stood -/
def Tst (H H' : Hp) : Prop := ∀ b o, H b = some o → (∀ xs, o ≠ .lst xs) → H' b = some o
theorem sqT_tst {K : PySem.W.Frag} {H H' : Hp} {a : Addr} {xs : List V} (e : Tst H H') (h : SqT K H a xs) : SqT K H' a xs := by
  rcases h with (h | ⟨o, h⟩) | h
  · exact .inl (.inl (e _ _ h (fun _ q => nomatch q)))
  · exact .inl (.inr ⟨o, e _ _ h (fun _ q => nomatch q)⟩)
  · exact .inr h
section
variable {K : PySem.W.Frag} {H H' : Hp}
mutual
theorem da_mono (e : Same H H') : ∀ (d : PyData) (v : V), Da K H v d → Da K H' v d
  | .none, _, h => by cases h; exact .non
  | .bool b, _, h => by cases h; exact .bl b
  | .int i, _, h => by cases h; exact .int i
  | .str x, _, h => by cases h; exact .str x
  | .list ds, _, h => by
    cases h with
    | lst hs ha => exact .lst (e _ _ hs) (daAll_mono e ds _ ha)
  | .tuple ds, _, h => by
    cases h with
    | tup hs ha => exact .tup (sqT_mono e hs) (daAll_mono e ds _ ha)
  | .dict _, _, h => by cases h; exact .ptr _
theorem daAll_mono (e : Same H H') : ∀ (ds : List PyData) (vs : List V), DaAll K H vs ds → DaAll K H' vs ds
  | [], _, h => by cases h; exact .nil
  | d :: ds, _, h => by
    cases h with
    | cons h1 h2 => exact .cons (da_mono e d _ h1) (daAll_mono e ds _ h2)
end
mutual
def frozen : PyData → Bool
  | .list _ => false
  | .dict _ => true
  | .tuple xs => frozenAll xs
  | .none => true
  | .bool _ => true
  | .int _ => true
  | .str _ => true
def frozenAll : List PyData → Bool
  | [] => true
  | d :: ds => frozen d && frozenAll ds
end
mutual
theorem da_tst (e : Tst H H') : ∀ (d : PyData) (v : V), frozen d = true → Da K H v d → Da K H' v d
  | .none, _, _, h => by cases h; exact .non
  | .bool b, _, _, h => by cases h; exact .bl b
  | .int i, _, _, h => by cases h; exact .int i
  | .str x, _, _, h => by cases h; exact .str x
  | .list ds, _, f, _ => by simp [frozen] at f
  | .tuple ds, _, f, h => by
    cases h with
    | tup hs ha => exact .tup (sqT_tst e hs) (daAll_tst e ds _ (by simpa [frozen] using f) ha)
  | .dict _, _, _, h => by cases h; exact .ptr _
theorem daAll_tst (e : Tst H H') : ∀ (ds : List PyData) (vs : List V), frozenAll ds = true → DaAll K H vs ds → DaAll K H' vs ds
  | [], _, _, h => by cases h; exact .nil
  | d :: ds, _, f, h => by
    cases h with
    | cons h1 h2 =>
      have f' : frozen d = true ∧ frozenAll ds = true := by simpa [frozenAll] using f
      exact .cons (da_tst e d _ f'.1 h1) (daAll_tst e ds _ f'.2 h2)
end
mutual
theorem da_dp : ∀ (d : PyData) (v : V), d.canLay0 = true → Da K H v d → Dp K H v d
  | .none, _, _, h => by cases h; exact .non
  | .bool b, _, _, h => by cases h; exact .bl b
  | .int i, _, _, h => by cases h; exact .int i
  | .str x, _, _, h => by cases h; exact .str x
  | .list ds, _, c, h => by
    cases h with
    | lst hs ha => exact .lst (SqL.of hs) (daAll_dp ds _ (by simpa [PyData.canLay0] using c) ha)
  | .tuple ds, _, c, h => by
    cases h with
    | tup hs ha => exact .tup hs (daAll_dp ds _ (by simpa [PyData.canLay0] using c) ha)
  | .dict _, _, c, _ => nomatch c
theorem daAll_dp : ∀ (ds : List PyData) (vs : List V), PyData.canLayAll0 ds = true → DaAll K H vs ds → DpAll K H vs ds
  | [], _, _, h => by cases h; exact .nil
  | d :: ds, _, c, h => by
    cases h with
    | cons h1 h2 =>
      have c' : d.canLay0 = true ∧ PyData.canLayAll0 ds = true := by simpa [PyData.canLayAll0] using c
      exact .cons (da_dp d _ c'.1 h1) (daAll_dp ds _ c'.2 h2)
end
theorem daAll_len : ∀ {ds : List PyData} {vs : List V}, DaAll K H vs ds → vs.length = ds.length
  | [], _, h => by cases h; rfl
  | d :: ds, _, h => by
    cases h with
    | cons h1 h2 => simp [daAll_len h2]
theorem daAll_get : ∀ {ds : List PyData} {vs : List V} {i : Nat} {d : PyData}, DaAll K H vs ds → ds[i]? = some d → ∃ v, vs[i]? = some v ∧ Da K H v d
  | [], _, _, _, _, e => by simp at e
  | d :: ds, _, i, d', h, e => by
    cases h with
    | cons h1 h2 =>
      cases i with
      | zero => simp at e; subst e; exact ⟨_, rfl, h1⟩
      | succ i =>
        obtain ⟨v, e1, e2⟩ := daAll_get (i := i) h2 (by simpa using e)
        exact ⟨v, by simpa using e1, e2⟩
theorem daAll_getV : ∀ {ds : List PyData} {vs : List V} {i : Nat} {v : V}, DaAll K H vs ds → vs[i]? = some v → ∃ d, ds[i]? = some d ∧ Da K H v d
  | [], _, _, _, h, e => by cases h; simp at e
  | d :: ds, _, i, v, h, e => by
    cases h with
    | cons h1 h2 =>
      cases i with
      | zero => simp at e; subst e; exact ⟨_, rfl, h1⟩
      | succ i =>
        obtain ⟨v, e1, e2⟩ := daAll_getV (i := i) h2 (by simpa using e)
        exact ⟨v, by simpa using e1, e2⟩
theorem daAll_app : ∀ {ds es : List PyData} {vs us : List V}, DaAll K H vs ds → DaAll K H us es → DaAll K H (vs ++ us) (ds ++ es)
  | [], _, _, _, h, h' => by cases h; exact h'
  | d :: ds, _, _, _, h, h' => by
    cases h with
    | cons h1 h2 => exact .cons h1 (daAll_app h2 h')
theorem daAll_set : ∀ {ds : List PyData} {vs : List V} {d : PyData} {v : V} (i : Nat), DaAll K H vs ds → Da K H v d → DaAll K H (vs.set i v) (ds.set i d)
  | [], _, _, _, _, h, _ => by cases h; exact .nil
  | d :: ds, _, _, _, i, h, h' => by
    cases h with
    | cons h1 h2 =>
      cases i with
      | zero => exact .cons h' h2
      | succ i => exact .cons h1 (daAll_set i h2 h')
theorem daAll_drop : ∀ {ds : List PyData} {vs : List V} (i : Nat), DaAll K H vs ds → DaAll K H (vs.drop i) (ds.drop i)
  | _, _, 0, h => h
  | [], _, _ + 1, h => by cases h; exact .nil
  | d :: ds, _, i + 1, h => by
    cases h with
    | cons h1 h2 => exact daAll_drop i h2
theorem daAll_take : ∀ {ds : List PyData} {vs : List V} (i : Nat), DaAll K H vs ds → DaAll K H (vs.take i) (ds.take i)
  | _, _, 0, _ => .nil
  | [], _, _ + 1, h => by cases h; exact .nil
  | d :: ds, _, i + 1, h => by
    cases h with
    | cons h1 h2 => exact .cons h1 (daAll_take i h2)
theorem daAll_rep {ds : List PyData} {vs : List V} (h : DaAll K H vs ds) : ∀ k : Nat, DaAll K H (List.replicate k vs).flatten (List.replicate k ds).flatten
  | 0 => .nil
  | k + 1 => by
    rw [List.replicate_succ, List.replicate_succ, List.flatten_cons, List.flatten_cons]
    exact daAll_app h (daAll_rep h k)
theorem daAll_int : ∀ {ns : List Int} {vs : List V}, DaAll K H vs (ns.map .int) → vs = ns.map V.int
  | [], _, h => by cases h; rfl
  | n :: ns, _, h => by
    cases h with
    | cons h1 h2 =>
      cases h1
      rw [daAll_int h2]; rfl
theorem daAll_bl : ∀ {ns : List Bool} {vs : List V}, DaAll K H vs (ns.map .bool) → vs = ns.map V.bl
  | [], _, h => by cases h; rfl
  | n :: ns, _, h => by
    cases h with
    | cons h1 h2 =>
      cases h1
      rw [daAll_bl h2]; rfl
theorem daAll_snoc {ds : List PyData} {vs : List V} {d : PyData} {v : V} (h : DaAll K H vs ds) (h' : Da K H v d) : DaAll K H (vs ++ [v]) (ds ++ [d]) := daAll_app h (.cons h' .nil)
end
/-! ### weakest readings -/
def wpE (X : Cx) (e : Expr) : TE := fun σ H Q => ∀ (pins : List (Addr × Obj)) (s : Shared), Inv X pins σ H s → wpAny (model X.prog X.w) X.A (eval e X.env) (EP X pins σ Q) X.xe s
def wpT (X : Cx) (e : Expr) : TT := fun σ H Q => ∀ (pins : List (Addr × Obj)) (s : Shared), Inv X pins σ H s → wpAny (model X.prog X.w) X.A (isTrue e X.env (eval e X.env)) (TP X pins σ Q) X.xe s
def wpW (X : Cx) (e : Expr) : TT := fun σ H Q => ∀ (whole : Sem Value) (pins : List (Addr × Obj)) (s : Shared), Inv X pins σ H s → wpAny (model X.prog X.w) X.A (isTrue e X.env whole) (TP X pins σ Q) X.xe s
def wpA (X : Cx) (es : List Expr) : TA := fun σ H Q => ∀ (pos : Pos) (pins : List (Addr × Obj)) (s : Shared), Inv X pins σ H s → wpAny (model X.prog X.w) X.A (spliced (backTo pos (starEach es X.env))) (AP X pins σ Q) X.xe s
def wpS (X : Cx) (st : Stmt) : TS := fun D σ H => ∀ (pins : List (Addr × Obj)) (s : Shared), Inv X pins σ H s → wpAny (model X.prog X.w) X.A (exec st X.env) (SP X pins D) X.xe s
def wpSs (X : Cx) (st : List Stmt) : TS := fun D σ H => ∀ (pins : List (Addr × Obj)) (s : Shared), Inv X pins σ H s → wpAny (model X.prog X.w) X.A (execs st X.env) (SP X pins D) X.xe s
section
variable {X : Cx} {e : Expr} {es : List Expr} {st : Stmt} {sts : List Stmt} {σ : L2.St} {H : Hp}
theorem pe_wp : PE X e (wpE X e) := ⟨fun pins s _ _ _ I h => h pins s I⟩
theorem pt_wp : PT X e (wpT X e) := ⟨fun pins s _ _ _ I h => h pins s I⟩
theorem pw_wp : PW X e (wpW X e) := ⟨fun w pins s _ _ _ I h => h w pins s I⟩
theorem pa_wp : PA X es (wpA X es) := ⟨fun pos pins s _ _ _ I h => h pos pins s I⟩
theorem ps_wp : PS X st (wpS X st) := ⟨fun pins s _ _ _ I h => h pins s I⟩
theorem pss_wp : PSs X sts (wpSs X sts) := ⟨fun pins s _ _ _ I h => h pins s I⟩
theorem wpE_of {t : TE} (h : PE X e t) {Q : VK} (q : t σ H Q) : wpE X e σ H Q := fun pins s I => h.run pins s σ H Q I q
theorem wpT_of {t : TT} (h : PT X e t) {Q : Bool → Hp → Prop} (q : t σ H Q) : wpT X e σ H Q := fun pins s I => h.run pins s σ H Q I q
theorem wpW_of {t : TT} (h : PW X e t) {Q : Bool → Hp → Prop} (q : t σ H Q) : wpW X e σ H Q := fun w pins s I => h.run w pins s σ H Q I q
theorem wpA_of {t : TA} (h : PA X es t) {Q : List V → Hp → Prop} (q : t σ H Q) : wpA X es σ H Q := fun pos pins s I => h.run pos pins s σ H Q I q
theorem wpS_of {t : TS} (h : PS X st t) {D : Ends} (q : t D σ H) : wpS X st D σ H := fun pins s I => h.run pins s σ H D I q
theorem wpSs_of {t : TS} (h : PSs X sts t) {D : Ends} (q : t D σ H) : wpSs X sts D σ H := fun pins s I => h.run pins s σ H D I q
end
/-! ### the state as data: what each slot holds (none: not known), and one list that is the def's own -/
structure DSt where
  im : List (Option PyData)
  ow : Option (Nat × List PyData) := none
def DSt.at (st : DSt) (i : Nat) : Option PyData := match st.ow with
  | some (j, xs) => if j = i then some (.list xs) else (st.im[i]?).join
  | none => (st.im[i]?).join
structure EnvS (K : PySem.W.Frag) (HB H : Hp) (σ : L2.St) (st : DSt) : Prop where
  ex : Same HB H
  im : ∀ (i : Nat) (d : PyData), st.im[i]? = some (some d) → ∃ v, σ[i]? = some (some v) ∧ Da K H v d
  ow : ∀ (i : Nat) (xs : List PyData), st.ow = some (i, xs) → ∃ l vs, σ[i]? = some (some (.ref l)) ∧ H l = some (.lst vs) ∧ DaAll K H vs xs ∧ HB l = none
  len : st.im.length = σ.length
section
variable {K : PySem.W.Frag} {HB H H' : Hp} {σ : L2.St} {st : DSt}
theorem EnvS.ext (E : EnvS K HB H σ st) (e : Same H H') : EnvS K HB H' σ st where
  ex := E.ex.trans e
  im := fun i d h => by
    obtain ⟨v, h1, h2⟩ := E.im i d h
    exact ⟨v, h1, da_mono e d v h2⟩
  ow := fun i xs h => by
    obtain ⟨l, vs, h1, h2, h3, h4⟩ := E.ow i xs h
    exact ⟨l, vs, h1, e _ _ h2, daAll_mono e xs vs h3, h4⟩
  len := E.len
theorem EnvS.get (E : EnvS K HB H σ st) {i : Nat} {d : PyData} (h : st.at i = some d) : ∃ v, σ[i]? = some (some v) ∧ Da K H v d := by
  have im : (st.im[i]?).join = some d → ∃ v, σ[i]? = some (some v) ∧ Da K H v d := fun q => by
    cases e : st.im[i]? with
    | none => rw [e] at q; cases q
    | some o =>
      rw [e] at q
      have q' : o = some d := q
      subst q'
      exact E.im i d e
  unfold DSt.at at h
  cases e : st.ow with
  | none => rw [e] at h; exact im h
  | some p =>
    obtain ⟨j, xs⟩ := p
    rw [e] at h
    by_cases hj : j = i
    · subst hj
      have h' : (if j = j then some (PyData.list xs) else (st.im[j]?).join) = some d := h
      rw [if_pos rfl] at h'
      obtain ⟨l, vs, h1, h2, h3, h4⟩ := E.ow j xs e
      cases h'
      exact ⟨_, h1, .lst h2 h3⟩
    · have h' : (if j = i then some (PyData.list xs) else (st.im[i]?).join) = some d := h
      rw [if_neg hj] at h'
      exact im h'
end
/-! ### what expressions are worth -/
def DE (X : Cx) (e : Expr) (st : DSt) (d : PyData) : Prop := ∀ (HB : Hp) (σ : L2.St) (H : Hp), EnvS X.K HB H σ st → ∀ Q : VK, (∀ v H2, Same H H2 → Da X.K H2 v d → Q v H2) → wpE X e σ H Q
def DT (X : Cx) (e : Expr) (st : DSt) (b : Bool) : Prop := ∀ (HB : Hp) (σ : L2.St) (H : Hp), EnvS X.K HB H σ st → ∀ Q : Bool → Hp → Prop, (∀ H2, Same H H2 → Q b H2) → wpT X e σ H Q
def DW (X : Cx) (e : Expr) (st : DSt) (b : Bool) : Prop := ∀ (HB : Hp) (σ : L2.St) (H : Hp), EnvS X.K HB H σ st → ∀ Q : Bool → Hp → Prop, (∀ H2, Same H H2 → Q b H2) → wpW X e σ H Q
def DA (X : Cx) (es : List Expr) (st : DSt) (ds : List PyData) : Prop := ∀ (HB : Hp) (σ : L2.St) (H : Hp), EnvS X.K HB H σ st → ∀ Q : List V → Hp → Prop, (∀ vs H2, Same H H2 → DaAll X.K H2 vs ds → Q vs H2) → wpA X es σ H Q
/-- operators, calls, subscripts on data -/
def OpD (X : Cx) (f : Value → Value → Sem Value) (d1 d2 d : PyData) : Prop := ∃ r : R2, OpR X f r ∧ ∀ x y H, Da X.K H x d1 → Da X.K H y d2 → ∀ Q : VK, (∀ v H2, Same H H2 → Da X.K H2 v d → Q v H2) → r x y H Q
def CallD (X : Cx) (f : Value) (ds : List PyData) (d : PyData) : Prop := ∃ r : List V → Hp → VK → Prop, CallR X f r ∧ ∀ vs H, DaAll X.K H vs ds → ∀ Q : VK, (∀ v H2, Same H H2 → Da X.K H2 v d → Q v H2) → r vs H Q
section
variable {X : Cx} {st : DSt} {a b c e : Expr} {es : List Expr} {pos p : Pos} {d d1 d2 d3 : PyData} {ds ds' : List PyData} {x : Str} {k : Nat}
theorem same_new {H : Hp} {p : Addr} {o : HO} (h : H p = none) : Same H (upd H p o) := fun b u q => by rw [upd_ne (ne_of_none q h)]; exact q
theorem d_name (i : Nat) (h : st.at i = some d := by rfl) (hN : X.N[i]? = some x := by rfl) (hv : Vis X.env.scope x := by first | exact Or.inl rfl | exact Or.inr (Or.inl rfl) | exact Or.inr (Or.inr rfl))
    (hd : (x == ("__debug__" : Str)) = false := by decide) (hcd : (x == ("__classdict__" : Str)) = false := by decide) : DE X (.Name x pos) st d := fun HB σ H E Q q => by
  obtain ⟨v, h1, h2⟩ := E.get h
  exact wpE_of (pv i hN hv hd hcd) ⟨v, h1, q v H (Same.refl H) h2⟩
theorem d_int {i : Int} : DE X (.Constant (.int i) k pos) st (.int i) := fun HB σ H E Q q => wpE_of pe_int (q _ H (Same.refl H) (.int i))
theorem d_str : DE X (.Constant (.str x) k pos) st (.str x) := fun HB σ H E Q q => wpE_of pe_str (q _ H (Same.refl H) (.str x))
theorem d_bl {b : Bool} : DE X (.Constant (.bool b) k pos) st (.bool b) := fun HB σ H E Q q => wpE_of pe_bl (q _ H (Same.refl H) (.bl b))
theorem d_non : DE X (.Constant .none k pos) st .none := fun HB σ H E Q q => wpE_of pe_non (q _ H (Same.refl H) .non)
theorem d_glob {v : V} {u : Value} (hm : X.mg x = some u) (r : RelV v u) (hd : ∀ H, Da X.K H v d) (hg : Gl X x := by rfl) (hdb : (x == ("__debug__" : Str)) = false := by decide) : DE X (.Name x pos) st d :=
  fun HB σ H E Q q => wpE_of (pe_glob hg hm r hdb) (q _ H (Same.refl H) (hd H))
theorem d_globI {i : Int} (hm : ∃ t, X.mg x = some (.int i t)) (hg : Gl X x := by rfl) (hdb : (x == ("__debug__" : Str)) = false := by decide) : DE X (.Name x pos) st (.int i) := by
  obtain ⟨t, hm⟩ := hm
  exact d_glob (v := V.int i) hm ⟨t, rfl⟩ (fun _ => .int i) hg hdb
theorem d_bin {op : Operator} (ha : DE X a st d1) (hb : DE X b st d2) (ho : OpD X (binaryOp op) d1 d2 d) : DE X (.BinOp a op b pos) st d := fun HB σ H E Q q => by
  obtain ⟨r, hr, hq⟩ := ho
  refine wpE_of (pe_op hr pe_wp pe_wp) (ha HB σ H E _ fun v H1 e1 h1 => hb HB σ H1 (E.ext e1) _ fun u H2 e2 h2 => hq v u H2 (da_mono e2 _ _ h1) h2 Q fun w H3 e3 h3 => q w H3 ((e1.trans e2).trans e3) h3)
theorem d_cmp {op : CmpOp} (ha : DE X a st d1) (hb : DE X b st d2) (ho : OpD X (compareOp op) d1 d2 d) (hm : behindInMarks op b = false := by first | exact nomark _ | with_unfolding_all rfl) : DE X (.Compare a [op] [b] pos) st d := fun HB σ H E Q q => by
  obtain ⟨r, hr, hq⟩ := ho
  refine wpE_of (pe_cmpR hr pe_wp pe_wp hm) (ha HB σ H E _ fun v H1 e1 h1 => hb HB σ H1 (E.ext e1) _ fun u H2 e2 h2 => hq v u H2 (da_mono e2 _ _ h1) h2 Q fun w H3 e3 h3 => q w H3 ((e1.trans e2).trans e3) h3)
theorem dt_cmp {op : CmpOp} {z : Bool} (ha : DE X a st d1) (hb : DE X b st d2) (ho : OpD X (compareOp op) d1 d2 (.bool z)) (hm : behindInMarks op b = false := by first | exact nomark _ | with_unfolding_all rfl) : DT X (.Compare a [op] [b] pos) st z := fun HB σ H E Q q => by
  obtain ⟨r, hr, hq⟩ := ho
  refine wpT_of (pt_cmpR hr pe_wp pe_wp hm) (ha HB σ H E _ fun v H1 e1 h1 => hb HB σ H1 (E.ext e1) _ fun u H2 e2 h2 => hq v u H2 (da_mono e2 _ _ h1) h2 _ fun w H3 e3 h3 => ?_)
  cases h3
  exact ⟨z, rfl, q H3 ((e1.trans e2).trans e3)⟩
/-- a op1 b op2 c -/
theorem d_chain {op op' : CmpOp} {z z' : Bool} (ha : DE X a st d1) (hb : DE X b st d2) (hc : DE X c st d3) (ho : OpD X (compareOp op) d1 d2 (.bool z)) (ho' : OpD X (compareOp op') d2 d3 (.bool z'))
    (hm : lastMarks [op, op'] [b, c] = false := by with_unfolding_all rfl) : DE X (.Compare a [op, op'] [b, c] pos) st (.bool (z && z')) := fun HB σ H E Q q => by
  obtain ⟨r, hr, hq⟩ := ho
  obtain ⟨r', hr', hq'⟩ := ho'
  refine wpE_of (pe_chain hr hr' pe_wp pe_wp pe_wp hm) (ha HB σ H E _ fun v H1 e1 h1 => hb HB σ H1 (E.ext e1) _ fun u H2 e2 h2 => hq v u H2 (da_mono e2 _ _ h1) h2 _ fun w H3 e3 h3 => ?_)
  cases h3
  refine ⟨z, rfl, ?_⟩
  cases z with
  | false => exact q _ H3 ((e1.trans e2).trans e3) (.bl false)
  | true => exact hc HB σ H3 (E.ext ((e1.trans e2).trans e3)) _ fun y H4 e4 h4 => hq' u y H4 (da_mono (e3.trans e4) _ _ h2) h4 Q fun w' H5 e5 h5 => q w' H5 ((((e1.trans e2).trans e3).trans e4).trans e5) h5
/-! tests -/
theorem dt_val {z : Bool} (h : DE X e st (.bool z)) (he : ∀ whole, isTrue e X.env whole = (do let v ← whole; standAt e.pos; holding [v] (truthy v)) := by intro _; rfl) : DT X e st z := fun HB σ H E Q q =>
  wpT_of (pt_val pe_wp he) (h HB σ H E _ fun v H1 e1 h1 => by cases h1; exact ⟨z, rfl, q H1 e1⟩)
theorem dt_w {z : Bool} (h : DW X e st z) : DT X e st z := fun HB σ H E Q q => wpT_of pw_wp.pt (h HB σ H E Q q)
theorem dw_and1 {z : Bool} (h : DT X a st z) : DW X (.BoolOp .And [a] pos) st z := fun HB σ H E Q q => wpW_of (pw_and1 pt_wp) (h HB σ H E Q q)
theorem dw_or1 {z : Bool} (h : DT X a st z) : DW X (.BoolOp .Or [a] pos) st z := fun HB σ H E Q q => wpW_of (pw_or1 pt_wp) (h HB σ H E Q q)
theorem dw_and {z y : Bool} (h : DT X a st z) (h2 : z = true → DW X (.BoolOp .And (b :: es) pos) st y) : DW X (.BoolOp .And (a :: b :: es) pos) st (z && y) := fun HB σ H E Q q =>
  wpW_of (pw_and pt_wp pw_wp) (h HB σ H E _ fun H1 e1 => by
    cases z with
    | true => exact h2 rfl HB σ H1 (E.ext e1) Q fun H2 e2 => q H2 (e1.trans e2)
    | false => exact q H1 e1)
theorem dw_or {z y : Bool} (h : DT X a st z) (h2 : z = false → DW X (.BoolOp .Or (b :: es) pos) st y) : DW X (.BoolOp .Or (a :: b :: es) pos) st (z || y) := fun HB σ H E Q q =>
  wpW_of (pw_or pt_wp pw_wp) (h HB σ H E _ fun H1 e1 => by
    cases z with
    | false => exact h2 rfl HB σ H1 (E.ext e1) Q fun H2 e2 => q H2 (e1.trans e2)
    | true => exact q H1 e1)
theorem dt_not {z : Bool} (h : DT X a st z) : DT X (.UnaryOp .Not a pos) st (!z) := fun HB σ H E Q q => wpT_of (pt_not pt_wp) (h HB σ H E _ fun H1 e1 => q H1 e1)
/-! bools as values -/
theorem d_one {op : BoolOp} (h : DE X a st d) : DE X (.BoolOp op [a] pos) st d := fun HB σ H E Q q => wpE_of (pe_one pe_wp) (h HB σ H E Q q)
theorem d_and {z y : Bool} (h : DE X a st (.bool z)) (h2 : z = true → DE X (.BoolOp .And (b :: es) pos) st (.bool y)) : DE X (.BoolOp .And (a :: b :: es) pos) st (.bool (z && y)) := fun HB σ H E Q q =>
  wpE_of (pe_and pe_wp pe_wp) (h HB σ H E _ fun v H1 e1 h1 => by
    cases h1
    refine ⟨z, rfl, ?_⟩
    cases z with
    | true => exact h2 rfl HB σ H1 (E.ext e1) Q fun v H2 e2 h => q v H2 (e1.trans e2) h
    | false => exact q _ H1 e1 (.bl false))
theorem d_or {z y : Bool} (h : DE X a st (.bool z)) (h2 : z = false → DE X (.BoolOp .Or (b :: es) pos) st (.bool y)) : DE X (.BoolOp .Or (a :: b :: es) pos) st (.bool (z || y)) := fun HB σ H E Q q =>
  wpE_of (pe_or pe_wp pe_wp) (h HB σ H E _ fun v H1 e1 h1 => by
    cases h1
    refine ⟨z, rfl, ?_⟩
    cases z with
    | false => exact h2 rfl HB σ H1 (E.ext e1) Q fun v H2 e2 h => q v H2 (e1.trans e2) h
    | true => exact q _ H1 e1 (.bl true))
theorem d_not {z : Bool} (h : DE X a st (.bool z)) : DE X (.UnaryOp .Not a pos) st (.bool (!z)) := fun HB σ H E Q q =>
  wpE_of (pe_not pe_wp) (h HB σ H E _ fun v H1 e1 h1 => by cases h1; exact ⟨z, rfl, q _ H1 e1 (.bl _)⟩)
theorem d_if {z : Bool} (h : DT X c st z) (h1 : z = true → DE X a st d) (h2 : z = false → DE X b st d) : DE X (.IfExp c a b pos) st d := fun HB σ H E Q q =>
  wpE_of (pe_ifExp pt_wp pe_wp pe_wp) (h HB σ H E _ fun H1 e1 => by
    cases z with
    | true => exact h1 rfl HB σ H1 (E.ext e1) Q fun v H2 e2 h => q v H2 (e1.trans e2) h
    | false => exact h2 rfl HB σ H1 (E.ext e1) Q fun v H2 e2 h => q v H2 (e1.trans e2) h)
/-! argument lists, displays -/
theorem da_nil : DA X [] st [] := fun HB σ H E Q q => wpA_of pa_nil (q [] H (Same.refl H) .nil)
theorem da_cons (h : DE X e st d) (hr : DA X es st ds) (hs : starEach (e :: es) X.env = (false, eval e X.env) :: starEach es X.env := by rfl) : DA X (e :: es) st (d :: ds) := fun HB σ H E Q q =>
  wpA_of (pa_cons pe_wp pa_wp hs) (h HB σ H E _ fun v H1 e1 h1 => hr HB σ H1 (E.ext e1) _ fun vs H2 e2 h2 => q (v :: vs) H2 (e1.trans e2) (.cons (da_mono e2 _ _ h1) h2))
theorem sz {n : Nat} (h : n ≤ 100000) : n ≤ sizeLine := Nat.le_trans h (by decide)
theorem szl {n : Nat} (h : n < 100000) : n < sizeLine := Nat.lt_of_lt_of_le h (by decide)
theorem d_tup (h : DA X es st ds) (hl : ds.length ≤ 100000 := by first | decide | simp) : DE X (.Tuple es k pos) st (.tuple ds) := fun HB σ H E Q q =>
  wpE_of (pe_tup pa_wp) (h HB σ H E _ fun vs H1 e1 h1 => ⟨by rw [daAll_len h1]; exact sz hl, fun p hp => q _ _ (e1.trans (same_new hp)) (.tup (.inl (.inl upd_same)) (daAll_mono (same_new hp) _ _ h1))⟩)
theorem d_lst (h : DA X es st ds) (hl : ds.length ≤ 100000 := by first | decide | simp) : DE X (.List es pos) st (.list ds) := fun HB σ H E Q q =>
  wpE_of (pe_lst pa_wp) (h HB σ H E _ fun vs H1 e1 h1 => ⟨by rw [daAll_len h1]; exact sz hl, fun p hp => q _ _ (e1.trans (same_new hp)) (.lst upd_same (daAll_mono (same_new hp) _ _ h1))⟩)
end
end Wb
/-! ## Fw2 -/
set_option maxHeartbeats 4000000
namespace Wb
open PySem PySem.Spec PyProof.Rows L2
section
variable {X : Cx} {d d1 d2 d3 : PyData} {ds ds' es : List PyData}
/-! ### operators on data -/
theorem od_add {i j : Int} : OpD X (binaryOp .Add) (.int i) (.int j) (.int (i + j)) := ⟨_, op_add, fun x y H h1 h2 Q q => by cases h1; cases h2; exact ⟨i, j, rfl, rfl, q _ H (Same.refl H) (.int _)⟩⟩
theorem od_sub {i j : Int} : OpD X (binaryOp .Sub) (.int i) (.int j) (.int (i - j)) := ⟨_, op_sub, fun x y H h1 h2 Q q => by cases h1; cases h2; exact ⟨i, j, rfl, rfl, q _ H (Same.refl H) (.int _)⟩⟩
theorem od_mul {i j : Int} (c : CMulW i j) : OpD X (binaryOp .Mult) (.int i) (.int j) (.int (i * j)) := ⟨_, op_mulW, fun x y H h1 h2 Q q => by cases h1; cases h2; exact ⟨i, j, rfl, rfl, c, q _ H (Same.refl H) (.int _)⟩⟩
theorem od_mulS {i j : Int} (c : CMul i j) : OpD X (binaryOp .Mult) (.int i) (.int j) (.int (i * j)) := ⟨_, op_mul, fun x y H h1 h2 Q q => by cases h1; cases h2; exact ⟨i, j, rfl, rfl, c, q _ H (Same.refl H) (.int _)⟩⟩
theorem od_mod {i j : Int} (c : 0 < j) : OpD X (binaryOp .Mod) (.int i) (.int j) (.int (i % j)) := ⟨_, op_mod, fun x y H h1 h2 Q q => by cases h1; cases h2; exact ⟨i, j, rfl, rfl, c, q _ H (Same.refl H) (.int _)⟩⟩
theorem od_fdiv {i j : Int} (c : CDivW i j) : OpD X (binaryOp .FloorDiv) (.int i) (.int j) (.int (i / j)) := ⟨_, op_fdivW, fun x y H h1 h2 Q q => by cases h1; cases h2; exact ⟨i, j, rfl, rfl, c, q _ H (Same.refl H) (.int _)⟩⟩
theorem od_pow {i j : Int} (c : CPow i j) : OpD X (binaryOp .Pow) (.int i) (.int j) (.int (i ^ j.toNat)) := ⟨_, op_pow, fun x y H h1 h2 Q q => by cases h1; cases h2; exact ⟨i, j, rfl, rfl, c, q _ H (Same.refl H) (.int _)⟩⟩
theorem od_shl {i j : Int} (c : CPow i j) : OpD X (binaryOp .LShift) (.int i) (.int j) (.int (i * 2 ^ j.toNat)) := ⟨_, op_shl, fun x y H h1 h2 Q q => by cases h1; cases h2; exact ⟨i, j, rfl, rfl, c, q _ H (Same.refl H) (.int _)⟩⟩
theorem od_shr {i j : Int} (c : 0 ≤ j) : OpD X (binaryOp .RShift) (.int i) (.int j) (.int (i / 2 ^ j.toNat)) := ⟨_, op_shr, fun x y H h1 h2 Q q => by cases h1; cases h2; exact ⟨i, j, rfl, rfl, c, q _ H (Same.refl H) (.int _)⟩⟩
theorem od_and {i j : Int} : OpD X (binaryOp .BitAnd) (.int i) (.int j) (.int (Builtin.bitAnd i j)) := ⟨_, op_and, fun x y H h1 h2 Q q => by cases h1; cases h2; exact ⟨i, j, rfl, rfl, q _ H (Same.refl H) (.int _)⟩⟩
theorem od_lt {i j : Int} : OpD X (compareOp .Lt) (.int i) (.int j) (.bool (decide (i < j))) := ⟨_, op_lt, fun x y H h1 h2 Q q => by cases h1; cases h2; exact ⟨i, j, rfl, rfl, q _ H (Same.refl H) (.bl _)⟩⟩
theorem od_le {i j : Int} : OpD X (compareOp .LtE) (.int i) (.int j) (.bool (decide (i ≤ j))) := ⟨_, op_le, fun x y H h1 h2 Q q => by cases h1; cases h2; exact ⟨i, j, rfl, rfl, q _ H (Same.refl H) (.bl _)⟩⟩
theorem od_gt {i j : Int} : OpD X (compareOp .Gt) (.int i) (.int j) (.bool (decide (j < i))) := ⟨_, op_gt, fun x y H h1 h2 Q q => by cases h1; cases h2; exact ⟨i, j, rfl, rfl, q _ H (Same.refl H) (.bl _)⟩⟩
theorem od_ge {i j : Int} : OpD X (compareOp .GtE) (.int i) (.int j) (.bool (decide (j ≤ i))) := ⟨_, op_ge, fun x y H h1 h2 Q q => by cases h1; cases h2; exact ⟨i, j, rfl, rfl, q _ H (Same.refl H) (.bl _)⟩⟩
theorem od_eqI {i j : Int} : OpD X (compareOp .Eq) (.int i) (.int j) (.bool (decide (i = j))) := ⟨_, op_eq, fun x y H h1 h2 Q q => by
  cases h1; cases h2
  refine ⟨rfl, ?_⟩
  have e : decide (V.int i = V.int j) = decide (i = j) := by rw [dec_int, Bool.beq_eq_decide_eq]
  rw [e]
  exact q _ H (Same.refl H) (.bl _)⟩
theorem od_neI {i j : Int} : OpD X (compareOp .NotEq) (.int i) (.int j) (.bool (!decide (i = j))) := ⟨_, op_ne, fun x y H h1 h2 Q q => by
  cases h1; cases h2
  refine ⟨rfl, ?_⟩
  have e : decide (V.int i = V.int j) = decide (i = j) := by rw [dec_int, Bool.beq_eq_decide_eq]
  rw [e]
  exact q _ H (Same.refl H) (.bl _)⟩
theorem od_eqS {i j : Str} : OpD X (compareOp .Eq) (.str i) (.str j) (.bool (decide (i = j))) := ⟨_, op_eq, fun x y H h1 h2 Q q => by
  cases h1; cases h2
  refine ⟨rfl, ?_⟩
  have e : decide (V.str i = V.str j) = decide (i = j) := by rw [dec_str, Bool.beq_eq_decide_eq]
  rw [e]
  exact q _ H (Same.refl H) (.bl _)⟩
theorem od_neS {i j : Str} : OpD X (compareOp .NotEq) (.str i) (.str j) (.bool (!decide (i = j))) := ⟨_, op_ne, fun x y H h1 h2 Q q => by
  cases h1; cases h2
  refine ⟨rfl, ?_⟩
  have e : decide (V.str i = V.str j) = decide (i = j) := by rw [dec_str, Bool.beq_eq_decide_eq]
  rw [e]
  exact q _ H (Same.refl H) (.bl _)⟩
theorem od_eqB {i j : Bool} : OpD X (compareOp .Eq) (.bool i) (.bool j) (.bool (i == j)) := ⟨_, op_eq, fun x y H h1 h2 Q q => by
  cases h1; cases h2
  refine ⟨rfl, ?_⟩
  rw [dec_bl]
  exact q _ H (Same.refl H) (.bl _)⟩
theorem od_neB {i j : Bool} : OpD X (compareOp .NotEq) (.bool i) (.bool j) (.bool (!(i == j))) := ⟨_, op_ne, fun x y H h1 h2 Q q => by
  cases h1; cases h2
  refine ⟨rfl, ?_⟩
  rw [dec_bl]
  exact q _ H (Same.refl H) (.bl _)⟩
/-- == and != of any data -/
theorem od_eqD (hu : X.A.units + 64 < cLine) (s1 : SeqAt.shaped d1 = true) (s2 : SeqAt.shaped d2 = true) : OpD X (compareOp .Eq) d1 d2 (.bool (PyData.eqv d1 d2)) := ⟨_, op_eqD hu, fun x y H h1 h2 Q q =>
  ⟨d1, d2, da_dp _ _ (SeqAt.canLay_of_shaped s1) h1, da_dp _ _ (SeqAt.canLay_of_shaped s2) h2, s1, s2, q _ H (Same.refl H) (.bl _)⟩⟩
theorem od_neD (hu : X.A.units + 64 < cLine) (s1 : SeqAt.shaped d1 = true) (s2 : SeqAt.shaped d2 = true) : OpD X (compareOp .NotEq) d1 d2 (.bool (!PyData.eqv d1 d2)) := ⟨_, op_neD hu, fun x y H h1 h2 Q q =>
  ⟨d1, d2, da_dp _ _ (SeqAt.canLay_of_shaped s1) h1, da_dp _ _ (SeqAt.canLay_of_shaped s2) h2, s1, s2, q _ H (Same.refl H) (.bl _)⟩⟩
/-- d in a tuple of data -/
def rInDT (K : PySem.W.Frag) : R2 := fun x y H Q => ∃ d ds, Dp K H x d ∧ Dp K H y (.tuple ds) ∧ SeqAt.shaped d = true ∧ SeqAt.shaped (.tuple ds) = true ∧ Q (.bl (ds.any fun z => PyData.eqv z d)) H
theorem op_inDT (hu : X.A.units + 65 < cLine) : OpR X (compareOp .In) (rInDT X.K) := by
  intro pins s σ H x y v u Q I rx ry h
  obtain ⟨d, ds, hd, he, sd, se, q⟩ := h
  obtain ⟨as, r1⟩ := Dp.reads I d x v hd rx
  obtain ⟨bs, r2⟩ := Dp.reads I (.tuple ds) y u he ry
  exact SeqAt.in_tuple_reads r2 r1 (SeqAt.canLay_of_shaped se) (SeqAt.canLay_of_shaped sd) (room_in_shaped sd hu) ⟨.bl _, H, I, rfl, q⟩
theorem op_notInDT (hu : X.A.units + 65 < cLine) : OpR X (compareOp .NotIn) (fun x y H Q => ∃ d ds, Dp X.K H x d ∧ Dp X.K H y (.tuple ds) ∧ SeqAt.shaped d = true ∧ SeqAt.shaped (.tuple ds) = true ∧ Q (.bl (!ds.any fun z => PyData.eqv z d)) H) := by
  intro pins s σ H x y v u Q I rx ry h
  obtain ⟨d, ds, hd, he, sd, se, q⟩ := h
  obtain ⟨as, r1⟩ := Dp.reads I d x v hd rx
  obtain ⟨bs, r2⟩ := Dp.reads I (.tuple ds) y u he ry
  exact SeqAt.notIn_tuple_reads r2 r1 (SeqAt.canLay_of_shaped se) (SeqAt.canLay_of_shaped sd) (room_in_shaped sd hu) ⟨.bl _, H, I, rfl, q⟩
theorem od_inT (hu : X.A.units + 65 < cLine) (s1 : SeqAt.shaped d = true) (s2 : SeqAt.shaped (.tuple ds) = true) : OpD X (compareOp .In) d (.tuple ds) (.bool (ds.any fun z => PyData.eqv z d)) := ⟨_, op_inDT hu, fun x y H h1 h2 Q q =>
  ⟨d, ds, da_dp _ _ (SeqAt.canLay_of_shaped s1) h1, da_dp _ _ (SeqAt.canLay_of_shaped s2) h2, s1, s2, q _ H (Same.refl H) (.bl _)⟩⟩
theorem od_notInT (hu : X.A.units + 65 < cLine) (s1 : SeqAt.shaped d = true) (s2 : SeqAt.shaped (.tuple ds) = true) : OpD X (compareOp .NotIn) d (.tuple ds) (.bool (!ds.any fun z => PyData.eqv z d)) := ⟨_, op_notInDT hu, fun x y H h1 h2 Q q =>
  ⟨d, ds, da_dp _ _ (SeqAt.canLay_of_shaped s1) h1, da_dp _ _ (SeqAt.canLay_of_shaped s2) h2, s1, s2, q _ H (Same.refl H) (.bl _)⟩⟩
/-- t < u, tuples of ints -/
theorem od_ltT {ns ms : List Int} (hu : X.A.units < cLine) : OpD X (compareOp .Lt) (.tuple (ns.map .int)) (.tuple (ms.map .int)) (.bool (HT.lexLt ns ms)) := ⟨_, op_ltT hu, fun x y H h1 h2 Q q => by
  cases h1 with
  | tup a1 b1 => cases h2 with
    | tup a2 b2 =>
      have e1 := daAll_int b1
      have e2 := daAll_int b2
      subst e1; subst e2
      exact ⟨_, _, ns, ms, rfl, rfl, a1, a2, q _ H (Same.refl H) (.bl _)⟩⟩
theorem od_isB {i j : Bool} : OpD X (compareOp .Is) (.bool i) (.bool j) (.bool (decide (i = j))) := ⟨_, op_is_bl, fun x y H h1 h2 Q q => by cases h1; cases h2; exact ⟨i, j, rfl, rfl, q _ H (Same.refl H) (.bl _)⟩⟩
/-- tuple + tuple, list + list, list * int, tuple * int -/
theorem od_catT (hl : ds.length + ds'.length ≤ 100000) : OpD X (binaryOp .Add) (.tuple ds) (.tuple ds') (.tuple (ds ++ ds')) := ⟨_, op_catA, fun x y H h1 h2 Q q => by
  cases h1 with
  | @tup a xs _ a1 b1 => cases h2 with
    | @tup b ys _ a2 b2 =>
      have l1 := daAll_len b1
      have l2 := daAll_len b2
      refine ⟨a, b, xs, ys, rfl, rfl, a1, a2, by rw [l1, l2]; exact sz hl, fun e => ?_, fun e e' => ?_, fun e e' p hp => ?_⟩
      · subst e
        cases b1
        exact q _ H (Same.refl H) (.tup a2 b2)
      · subst e'
        cases b2
        refine q _ H (Same.refl H) (.tup a1 ?_)
        rw [List.append_nil]
        exact b1
      · exact q _ _ (same_new hp) (.tup (.inl (.inl upd_same)) (daAll_mono (same_new hp) _ _ (daAll_app b1 b2)))⟩
theorem od_catL (hl : ds.length + ds'.length ≤ 100000) : OpD X (binaryOp .Add) (.list ds) (.list ds') (.list (ds ++ ds')) := ⟨_, op_cat, fun x y H h1 h2 Q q => by
  cases h1 with
  | @lst a xs _ a1 b1 => cases h2 with
    | @lst b ys _ a2 b2 =>
      have l1 := daAll_len b1
      have l2 := daAll_len b2
      refine ⟨a, b, xs, ys, rfl, rfl, a1, a2, by rw [l1, l2]; exact sz hl, fun p hp => ?_⟩
      exact q _ _ (same_new hp) (.lst upd_same (daAll_mono (same_new hp) _ _ (daAll_app b1 b2)))⟩
theorem od_repL {k : Int} (h0 : 0 ≤ k ∧ k ≤ 1000) (hl : ds.length ≤ 90) : OpD X (binaryOp .Mult) (.list ds) (.int k) (.list (List.replicate k.toNat ds).flatten) := ⟨_, op_rep, fun x y H h1 h2 Q q => by
  cases h1 with
  | @lst a xs _ a1 b1 =>
    cases h2
    have l1 := daAll_len b1
    have hz : xs.length * k.toNat ≤ sizeLine := by
      rw [l1]
      refine sz (Nat.le_trans (Nat.mul_le_mul hl (show k.toNat ≤ 1000 by omega)) (by decide))
    exact ⟨a, k, xs, rfl, rfl, a1, by omega, by omega, hz, fun p hp => q _ _ (same_new hp) (.lst upd_same (daAll_mono (same_new hp) _ _ (daAll_rep b1 k.toNat)))⟩⟩
theorem od_repT {k : Int} (h0 : 2 ≤ k ∧ k ≤ 1000) (hl : ds.length ≤ 90) (hn : ds ≠ []) : OpD X (binaryOp .Mult) (.tuple ds) (.int k) (.tuple (List.replicate k.toNat ds).flatten) := ⟨_, op_repT, fun x y H h1 h2 Q q => by
  cases h1 with
  | @tup a xs _ a1 b1 =>
    cases h2
    have l1 := daAll_len b1
    refine ⟨a, k, xs, rfl, rfl, a1, fun e => hn ?_, h0.1, h0.2, by omega, fun p hp => q _ _ (same_new hp) (.tup (.inl (.inl upd_same)) (daAll_mono (same_new hp) _ _ (daAll_rep b1 k.toNat)))⟩
    subst e
    cases b1
    rfl⟩
/-! ### calls of built-ins on data -/
theorem da_one {K : PySem.W.Frag} {H : Hp} {vs : List V} (h : DaAll K H vs [d]) : ∃ v, vs = [v] ∧ Da K H v d := by
  cases h with
  | cons h1 h2 => cases h2; exact ⟨_, rfl, h1⟩
theorem da_two {K : PySem.W.Frag} {H : Hp} {vs : List V} (h : DaAll K H vs [d, d2]) : ∃ v u, vs = [v, u] ∧ Da K H v d ∧ Da K H u d2 := by
  cases h with
  | cons h1 h2 =>
    obtain ⟨u, e, h3⟩ := da_one h2
    subst e
    exact ⟨_, _, rfl, h1, h3⟩
theorem cd_lenT : CallD X (.builtin "len") [.tuple ds] (.int ds.length) := ⟨_, call_len_seq, fun vs H h Q q => by
  obtain ⟨v, rfl, h1⟩ := da_one h
  cases h1 with
  | tup a b => exact ⟨_, _, rfl, .inr a, by rw [daAll_len b]; exact q _ H (Same.refl H) (.int _)⟩⟩
theorem cd_lenL : CallD X (.builtin "len") [.list ds] (.int ds.length) := ⟨_, call_len_seq, fun vs H h Q q => by
  obtain ⟨v, rfl, h1⟩ := da_one h
  cases h1 with
  | lst a b => exact ⟨_, _, rfl, .inl (SqL.of a), by rw [daAll_len b]; exact q _ H (Same.refl H) (.int _)⟩⟩
theorem cd_sum (hc : X.calm = true) {ns : List Int} : CallD X (.builtin "sum") [.list (ns.map .int)] (.int ns.sum) := ⟨_, cr_sum hc, fun vs H h Q q => by
  obtain ⟨v, rfl, h1⟩ := da_one h
  cases h1 with
  | lst a b =>
    have e := daAll_int b
    subst e
    exact ⟨_, ns, rfl, SqL.of a, q _ H (Same.refl H) (.int _)⟩⟩
theorem cd_all (hc : X.calm = true) {bs : List Bool} : CallD X (.builtin "all") [.list (bs.map .bool)] (.bool (bs.all id)) := ⟨_, cr_all hc, fun vs H h Q q => by
  obtain ⟨v, rfl, h1⟩ := da_one h
  cases h1 with
  | lst a b =>
    have e := daAll_bl b
    subst e
    exact ⟨_, bs, rfl, SqL.of a, q _ H (Same.refl H) (.bl _)⟩⟩
theorem cd_any (hc : X.calm = true) {bs : List Bool} : CallD X (.builtin "any") [.list (bs.map .bool)] (.bool (bs.any id)) := ⟨_, cr_any hc, fun vs H h Q q => by
  obtain ⟨v, rfl, h1⟩ := da_one h
  cases h1 with
  | lst a b =>
    have e := daAll_bl b
    subst e
    exact ⟨_, bs, rfl, SqL.of a, q _ H (Same.refl H) (.bl _)⟩⟩
theorem cd_abs {i : Int} : CallD X (.builtin "abs") [.int i] (.int (if i < 0 then -i else i)) := ⟨_, call_abs, fun vs H h Q q => by
  obtain ⟨v, rfl, h1⟩ := da_one h
  cases h1
  exact ⟨i, rfl, q _ H (Same.refl H) (.int _)⟩⟩
theorem cd_min (hc : X.calm = true) {i j : Int} : CallD X (.builtin "min") [.int i, .int j] (.int (if j < i then j else i)) := ⟨_, call_min2 hc, fun vs H h Q q => by
  obtain ⟨v, u, rfl, h1, h2⟩ := da_two h
  cases h1; cases h2
  exact ⟨i, j, rfl, q _ H (Same.refl H) (.int _)⟩⟩
theorem cd_intI {i : Int} : CallD X (.type "int") [.int i] (.int i) := ⟨_, call_int1, fun vs H h Q q => by
  obtain ⟨v, rfl, h1⟩ := da_one h
  cases h1
  exact .inl ⟨i, rfl, q _ H (Same.refl H) (.int _)⟩⟩
theorem cd_intB {i : Bool} : CallD X (.type "int") [.bool i] (.int (if i then 1 else 0)) := ⟨_, call_int1, fun vs H h Q q => by
  obtain ⟨v, rfl, h1⟩ := da_one h
  cases h1
  exact .inr ⟨i, rfl, q _ H (Same.refl H) (.int _)⟩⟩
theorem cd_tuple : CallD X (.type "tuple") [.list ds] (.tuple ds) := ⟨_, call_tuple_of, fun vs H h Q q => by
  obtain ⟨v, rfl, h1⟩ := da_one h
  cases h1 with
  | @lst a xs _ a1 b => exact ⟨a, xs, rfl, .inl ⟨SqL.of a1, fun l hl => q _ _ (same_new hl) (.tup (.inl (.inl upd_same)) (daAll_mono (same_new hl) _ _ b))⟩⟩⟩
end
section
variable {X : Cx} {st : DSt} {a b c e : Expr} {es : List Expr} {pos p p2 : Pos} {d d1 d2 d3 : PyData} {ds ds' : List PyData} {x : Str} {k : Nat}
theorem d_callB {id : String} (ha : DA X (e :: es) st ds) (hc : CallD X (.builtin id) ds d) (hm : X.mg x = none) (hv : bootBuiltins x = some (.builtin id) := by decide +kernel) (hg : Gl X x := by rfl) (hn : x ≠ "__name__" := by decide) (hdb : (x == ("__debug__" : Str)) = false := by decide)
    (he : starEach (e :: es) X.env = (false, eval e X.env) :: starEach es X.env := by rfl) (hpl : (backTo pos (starEach es X.env)).any (·.1) = false := by rfl) : DE X (.Call (.Name x p) (e :: es) [] pos) st d := fun HB σ H E Q q => by
  obtain ⟨r, hr, hq⟩ := hc
  exact wpE_of (pe_callB hr hg hm hv pa_wp hn hdb he hpl) (ha HB σ H E _ fun vs H1 e1 h1 => hq vs H1 h1 Q fun v H2 e2 h2 => q v H2 (e1.trans e2) h2)
theorem d_callTy {T : String} (ha : DA X (e :: es) st ds) (hc : CallD X (.type T) ds d) (hm : X.mg x = none) (hv : bootBuiltins x = some (.type T) := by decide +kernel) (hg : Gl X x := by rfl) (hn : x ≠ "__name__" := by decide) (hdb : (x == ("__debug__" : Str)) = false := by decide)
    (he : starEach (e :: es) X.env = (false, eval e X.env) :: starEach es X.env := by rfl) (hpl : (backTo pos (starEach es X.env)).any (·.1) = false := by rfl) : DE X (.Call (.Name x p) (e :: es) [] pos) st d := fun HB σ H E Q q => by
  obtain ⟨r, hr, hq⟩ := hc
  exact wpE_of (pe_callTy hr hg hm hv pa_wp hn hdb he hpl) (ha HB σ H E _ fun vs H1 e1 h1 => hq vs H1 h1 Q fun v H2 e2 h2 => q v H2 (e1.trans e2) h2)
theorem d_bits {apos : Pos} {i : Int} (ha : DE X a st (.int i)) (hbase : attributeBase a "bit_length" X.env (eval a X.env) = eval a X.env := by rfl) (hline : (apos.endLine == pos.line) = true := by rfl) : DE X (.Call (.Attribute a "bit_length" apos) [] [] pos) st (.int (Builtin.Int.intBits i : Nat)) := fun HB σ H E Q q =>
  wpE_of (pe_bits pe_wp hbase hline) (ha HB σ H E _ fun v H1 e1 h1 => by cases h1; exact ⟨i, rfl, q _ H1 e1 (.int _)⟩)
/-! subscripts -/
theorem d_ixT {i : Int} (ha : DE X a st (.tuple ds)) (hb : DE X b st (.int i)) (hi : atI ds i = some d) (hs : PlainIx b := by exact fun _ _ => rfl) : DE X (.Subscript a b pos) st d := fun HB σ H E Q q =>
  wpE_of (pe_ix ix_tup pe_wp pe_wp hs) (ha HB σ H E _ fun v H1 e1 h1 => hb HB σ H1 (E.ext e1) _ fun u H2 e2 h2 => by
    cases h2
    cases h1 with
    | @tup p xs _ a1 b1 =>
      have hl := daAll_len b1
      have hi' := hi
      unfold atI at hi'
      obtain ⟨j, hj, hd⟩ := Option.bind_eq_some_iff.mp hi'
      obtain ⟨w, hw, dw⟩ := daAll_get (daAll_mono e2 _ _ b1) hd
      refine ⟨p, xs, i, w, rfl, rfl, sqT_mono e2 a1, ?_, q w H2 (e1.trans e2) dw⟩
      unfold atI
      rw [hl, hj]
      exact hw)
theorem d_ixL {i : Int} (ha : DE X a st (.list ds)) (hb : DE X b st (.int i)) (hi : atI ds i = some d) (hs : PlainIx b := by exact fun _ _ => rfl) : DE X (.Subscript a b pos) st d := fun HB σ H E Q q =>
  wpE_of (pe_ix ix_list pe_wp pe_wp hs) (ha HB σ H E _ fun v H1 e1 h1 => hb HB σ H1 (E.ext e1) _ fun u H2 e2 h2 => by
    cases h2
    cases h1 with
    | @lst p xs _ a1 b1 =>
      have hl := daAll_len b1
      have hi' := hi
      unfold atI at hi'
      obtain ⟨j, hj, hd⟩ := Option.bind_eq_some_iff.mp hi'
      obtain ⟨w, hw, dw⟩ := daAll_get (daAll_mono e2 _ _ b1) hd
      refine ⟨p, xs, i, w, rfl, rfl, SqL.of (e2 _ _ a1), ?_, q w H2 (e1.trans e2) dw⟩
      unfold atI
      rw [hl, hj]
      exact hw)
/-- the items of ds[lo:hi] -/
def cutD (ds : List PyData) (lo hi : Option Int) : List PyData := (ds.drop (HT.sIx ds.length 0 lo)).take (HT.sIx ds.length ds.length hi - HT.sIx ds.length 0 lo)
theorem da_cut {K : PySem.W.Frag} {H : Hp} {vs : List V} (h : DaAll K H vs ds) (lo hi : Option Int) : DaAll K H (cutV vs lo hi) (cutD ds lo hi) := by
  unfold cutV cutD
  rw [daAll_len h]
  exact daAll_take _ (daAll_drop _ h)
/-- a part of a slice -/
def DO (X : Cx) (o : Option Expr) (st : DSt) (i : Option Int) : Prop := ∀ (HB : Hp) (σ : L2.St) (H : Hp), EnvS X.K HB H σ st → ∃ t : TO, PO X o t ∧ ∀ Q : Option Int → Hp → Prop, (∀ H2, Same H H2 → Q i H2) → t σ H Q
theorem do_none : DO X none st none := fun HB σ H E => ⟨_, po_none, fun Q q => q H (Same.refl H)⟩
theorem do_some {i : Int} (h : DE X e st (.int i)) : DO X (some e) st (some i) := fun HB σ H E => ⟨_, po_some pe_wp, fun Q q => h HB σ H E _ fun v H1 e1 h1 => by cases h1; exact ⟨i, rfl, q H1 e1⟩⟩
/-- slices whose bounds are constants or nothing: the readings don't hang on the heap -/
inductive CPart (X : Cx) : Option Expr → Option Int → Prop
  | no : CPart X none none
  | int {i : Int} {k : Nat} {pos : Pos} : CPart X (some (.Constant (.int i) k pos)) (some i)
theorem CPart.po {o : Option Expr} {i : Option Int} (h : CPart X o i) : ∃ t : TO, PO X o t ∧ ∀ σ H (Q : Option Int → Hp → Prop), Q i H → t σ H Q := by
  cases h with
  | no => exact ⟨_, po_none, fun _ _ _ q => q⟩
  | int => exact ⟨_, po_some pe_int, fun _ _ _ q => ⟨_, rfl, q⟩⟩
theorem d_slT {lo hi : Option Expr} {i j : Option Int} (ha : DE X a st (.tuple ds)) (h1 : CPart X lo i) (h2 : CPart X hi j) : DE X (.Subscript a (.Slice lo hi none p2) pos) st (.tuple (cutD ds i j)) := fun HB σ H E Q q => by
  obtain ⟨t1, p1, q1⟩ := h1.po
  obtain ⟨t2, p2, q2⟩ := h2.po
  refine wpE_of (pe_slice sl_tupA pe_wp p1 p2) (ha HB σ H E _ fun v H1 e1 h1 => q1 _ _ _ (q2 _ _ _ ?_))
  cases h1 with
  | @tup p xs _ a1 b1 =>
    refine ⟨p, xs, rfl, a1, fun hw => ?_, fun _ l hl => ?_⟩
    · refine q _ H1 e1 (.tup a1 ?_)
      have e : cutD ds i j = ds := by
        unfold cutD
        rw [← daAll_len b1, hw.1, hw.2, List.drop_zero, Nat.sub_zero, daAll_len b1, List.take_length]
      rw [e]
      exact b1
    · exact q _ _ (e1.trans (same_new hl)) (.tup (.inl (.inl upd_same)) (daAll_mono (same_new hl) _ _ (da_cut b1 i j)))
theorem d_slL {lo hi : Option Expr} {i j : Option Int} (ha : DE X a st (.list ds)) (h1 : CPart X lo i) (h2 : CPart X hi j) : DE X (.Subscript a (.Slice lo hi none p2) pos) st (.list (cutD ds i j)) := fun HB σ H E Q q => by
  obtain ⟨t1, p1, q1⟩ := h1.po
  obtain ⟨t2, p2, q2⟩ := h2.po
  refine wpE_of (pe_slice sl_list pe_wp p1 p2) (ha HB σ H E _ fun v H1 e1 h1 => q1 _ _ _ (q2 _ _ _ ?_))
  cases h1 with
  | @lst p xs _ a1 b1 =>
    exact ⟨p, xs, rfl, SqL.of a1, fun l hl => q _ _ (e1.trans (same_new hl)) (.lst upd_same (daAll_mono (same_new hl) _ _ (da_cut b1 i j)))⟩
/-! isinstance -/
def tyD : PyData → String
  | .none => "NoneType"
  | .bool _ => "bool"
  | .int _ => "int"
  | .str _ => "str"
  | .list _ => "list"
  | .tuple _ => "tuple"
  | .dict _ => "dict"
def isDic : PyData → Bool
  | .dict _ => true
  | _ => false
theorem da_ty {K : PySem.W.Frag} {H : Hp} {v : V} (hnd : isDic d = false) (h : Da K H v d) : TyX K H v (.type (tyD d)) := by
  cases h with
  | non => exact .base .non
  | bl b => exact .base (.bl b)
  | int i => exact .base (.int i)
  | str x => exact .base (.str x)
  | lst h _ => exact .base (.lst h)
  | tup h _ =>
    rcases h with (h | ⟨o, h⟩) | ⟨o, its, n, h1, h2, _⟩
    · exact .base (.tup h)
    · exact .fTuple h
    · exact .kTuple h1 h2
  | ptr => cases hnd
theorem d_isi {pc : Pos} {C : Str} {T : String} {z : Bool} (ha : DE X a st d) (hk : kitB (tyD d) T = some z) (hm : X.mg "isinstance" = none) (hC : X.mg C = none) (hnd : isDic d = false := by rfl) (hvC : bootBuiltins C = some (.type T) := by decide +kernel) (hg : Gl X "isinstance" := by rfl) (hgC : Gl X C := by rfl) (hn : C ≠ "__name__" := by decide) (hdb : (C == ("__debug__" : Str)) = false := by decide)
    (he : starEach [a, .Name C pc] X.env = (false, eval a X.env) :: starEach [.Name C pc] X.env := by rfl) (hpl : (backTo pos (starEach [.Name C pc] X.env)).any (·.1) = false := by rfl) : DE X (.Call (.Name "isinstance" p) [a, .Name C pc] [] pos) st (.bool z) := fun HB σ H E Q q =>
  wpE_of (pe_callB call_isi hg hm (by decide +kernel) (pa_cons pe_wp (pa_cons (pe_bltn (v := .ty T) hgC hC hvC rfl hn hdb) pa_nil) he) (by decide) (by decide) he hpl) (ha HB σ H E _ fun v H1 e1 h1 => ⟨v, .ty T, _, _, z, rfl, .ty T, da_ty hnd h1, kit_ty hk, q _ H1 e1 (.bl z)⟩)
theorem d_isi2 {pc pc' pt : Pos} {kt : Nat} {C C' : Str} {T T' : String} {z z' : Bool} (ha : DE X a st d) (hk : kitB (tyD d) T = some z) (hk' : kitB (tyD d) T' = some z') (hm : X.mg "isinstance" = none) (hC : X.mg C = none) (hC' : X.mg C' = none) (hnd : isDic d = false := by rfl) (hvC : bootBuiltins C = some (.type T) := by decide +kernel) (hvC' : bootBuiltins C' = some (.type T') := by decide +kernel)
    (hg : Gl X "isinstance" := by rfl) (hgC : Gl X C := by rfl) (hgC' : Gl X C' := by rfl) (hn : C ≠ "__name__" := by decide) (hdb : (C == ("__debug__" : Str)) = false := by decide) (hn' : C' ≠ "__name__" := by decide) (hdb' : (C' == ("__debug__" : Str)) = false := by decide)
    (he : starEach [a, .Tuple [.Name C pc, .Name C' pc'] kt pt] X.env = (false, eval a X.env) :: starEach [.Tuple [.Name C pc, .Name C' pc'] kt pt] X.env := by rfl) (hpl : (backTo pos (starEach [.Tuple [.Name C pc, .Name C' pc'] kt pt] X.env)).any (·.1) = false := by rfl) :
    DE X (.Call (.Name "isinstance" p) [a, .Tuple [.Name C pc, .Name C' pc'] kt pt] [] pos) st (.bool (z || z')) := fun HB σ H E Q q =>
  wpE_of (pe_callB call_isiT hg hm (by decide +kernel) (pa_cons pe_wp (pa_cons (pe_tup (pa_cons (pe_bltn (v := .ty T) hgC hC hvC rfl hn hdb) (pa_cons (pe_bltn (v := .ty T') hgC' hC' hvC' rfl hn' hdb') pa_nil))) pa_nil) he) (by decide) (by decide) he hpl)
    (ha HB σ H E _ fun v H1 e1 h1 => ⟨by show 2 ≤ sizeLine; decide, fun tp ht => ⟨v, tp, [.ty T, .ty T'], _, [.type T, .type T'], z || z', rfl, upd_same, .cons (.ty T) (.cons (.ty T') .nil), da_ty hnd (da_mono (same_new ht) _ _ h1),
      kitAny_cons (kit_ty hk) (fun h0 => by rw [h0, Bool.false_or]; exact kitAny_cons (kit_ty hk') (fun h0' => by rw [h0']; exact kitAny_nil) fun h1' => h1') (fun h1' => by rw [h1', Bool.true_or]), q _ _ (e1.trans (same_new ht)) (.bl _)⟩⟩)
end
/-! ### a def's promise on data -/
def Pu (K : PySem.W.Frag) (A : List PyData → PyData → Prop) : Sp := fun vs H Q _ => ∃ ds d, DaAll K H vs ds ∧ A ds d ∧ ∀ v H', Same H H' → Da K H' v d → Q v H'
/-- the module's name x is a def that keeps the promise A; dd: its defaults that fill up -/
def Good (P : Program) (w : World) (K : PySem.W.Frag) (mg : Str → Option Value) (base : Heap) (x : Str) (dd : List PyData) (k : Nat) (A : List PyData → PyData → Prop) : Prop :=
  ∃ (f : Addr) (fd : FuncData) (ps : List Str) (dvs : List V) (us : List Value), FnOk P w K mg base CX0 k f fd ps (Pu K A) ∧ mg x = some (.ref f) ∧ PySem.W.keepIn K (.ref f) = true ∧ Binds K fd ps us ∧ Vals dvs us ∧ DaAll K (fun _ => none) dvs dd
section
variable {X : Cx} {st : DSt} {e : Expr} {es : List Expr} {pos p : Pos} {d : PyData} {ds dd : List PyData} {x : Str} {k m : Nat} {A : List PyData → PyData → Prop}
theorem d_call (G : Good X.prog X.w X.K X.mg X.base x dd k A) (hr : Room m X.A) (ha : DA X (e :: es) st ds) (hA : A (ds ++ dd) d) (hk : k ≤ m := by decide) (hg : Gl X x := by rfl) (hdb : (x == ("__debug__" : Str)) = false := by decide)
    (he : starEach (e :: es) X.env = (false, eval e X.env) :: starEach es X.env := by rfl) (hpl : (backTo pos (starEach es X.env)).any (·.1) = false := by rfl) : DE X (.Call (.Name x p) (e :: es) [] pos) st d := fun HB σ H E Q q => by
  obtain ⟨f, fd, ps, dvs, us, F, hm, hkp, hb, hd, h0⟩ := G
  refine wpE_of (pe_call (E := E0) F (hr.mono hk) hg hm hkp hb hd pass0 pa_wp hdb he hpl) (ha HB σ H E _ fun vs H1 e1 h1 => ⟨ds ++ dd, d, daAll_app h1 (daAll_mono (fun b o z => absurd z (by simp)) _ _ h0), hA, fun v H2 e2 h2 => q v H2 (e1.trans e2) h2⟩)
end
end Wb
/-! ## Fw3 -/
set_option maxHeartbeats 4000000
namespace Wb
open PySem PySem.Spec PyProof.Rows L2
/-! ### how the heap goes on: false: all stands; true: all but lists stands -/
def Rel (M : Bool) (H H' : Hp) : Prop := if M = true then Tst H H' else Same H H'
theorem Rel.same {M : Bool} {H H' : Hp} (e : Same H H') : Rel M H H' := by
  cases M with
  | false => exact e
  | true => exact fun b o h _ => e b o h
theorem Rel.refl {M : Bool} (H : Hp) : Rel M H H := Rel.same (Same.refl H)
theorem Rel.trans {M : Bool} {H H1 H2 : Hp} (a : Rel M H H1) (b : Rel M H1 H2) : Rel M H H2 := by
  cases M with
  | false => exact Same.trans a b
  | true => exact fun c o h n => b c o (a c o h n) n
theorem Rel.tst {M : Bool} {H H' : Hp} (e : Rel M H H') : Tst H H' := by
  cases M with
  | false => exact fun b o h _ => e b o h
  | true => exact e
/-! ### what is walked -/
structure ItOk (M : Bool) (K : PySem.W.Frag) (J : It) (H1 : Hp) (ds : List PyData) : Prop where
  go : ∀ (i : Nat) (H : Hp), Rel M H1 H → i < ds.length → J.go i H
  yld : ∀ (i : Nat) (H : Hp) (x : V) (H' : Hp), Rel M H1 H → J.yld i H x H' → ∀ d, ds[i]? = some d → Same H H' ∧ Da K H' x d
  stop : ∀ (i : Nat) (H : Hp), Rel M H1 H → ds.length ≤ i → J.stop i H
def ID (M : Bool) (X : Cx) (tg iter : Expr) (st : DSt) (ds : List PyData) : Prop := ∀ (HB : Hp) (σ : L2.St) (H : Hp), EnvS X.K HB H σ st → ∃ wi : TI, PI X tg iter wi ∧ ∀ R : It → Hp → Prop, (∀ J H1, Same H H1 → ItOk M X.K J H1 ds → R J H1) → wi σ H R
section
variable {X : Cx} {st : DSt} {a b e tg : Expr} {pos p : Pos} {ds es : List PyData} {M : Bool}
theorem daAll_getL {K : PySem.W.Frag} {H : Hp} {vs : List V} {i : Nat} (h : DaAll K H vs ds) (hi : i < ds.length) : ∃ v, vs[i]? = some v := by
  have hl := daAll_len h
  exact ⟨_, List.getElem?_eq_getElem (by omega)⟩
theorem id_list (h : DE X e st (.list ds)) : ID false X tg e st ds := fun HB σ H E => ⟨_, pi_list pe_wp, fun R q => h HB σ H E _ fun v H1 e1 h1 => by
  cases h1 with
  | @lst a xs _ a1 b1 =>
    have hl := daAll_len b1
    refine ⟨a, rfl, ⟨xs, SqL.of a1⟩, q _ H1 e1 ⟨fun i H r hi => ?_, fun i H x H' r y d hd => ?_, fun i H r hi => ?_⟩⟩
    · obtain ⟨v, hv⟩ := daAll_getL b1 hi
      exact ⟨xs, v, SqL.of (r _ _ a1), hv⟩
    · obtain ⟨rfl, y⟩ := y
      obtain ⟨v, hv, dv⟩ := daAll_get b1 hd
      have ex := y xs (SqL.of (r _ _ a1))
      rw [hv] at ex
      cases ex
      exact ⟨Same.refl _, da_mono r _ _ dv⟩
    · exact ⟨xs, SqL.of (r _ _ a1), by omega⟩⟩
theorem id_tup (h : DE X e st (.tuple ds)) (hf : M = true → frozenAll ds = true := by first | (intro h; cases h) | (intro _; rfl)) : ID M X tg e st ds := fun HB σ H E => ⟨_, pi_tup pe_wp, fun R q => h HB σ H E _ fun v H1 e1 h1 => by
  cases h1 with
  | @tup a xs _ a1 b1 =>
    have hl := daAll_len b1
    refine ⟨a, rfl, ⟨xs, a1⟩, q _ H1 e1 ⟨fun i H r hi => ?_, fun i H x H' r y d hd => ?_, fun i H r hi => ?_⟩⟩
    · obtain ⟨v, hv⟩ := daAll_getL b1 hi
      exact ⟨xs, v, sqT_tst r.tst a1, hv⟩
    · obtain ⟨rfl, y⟩ := y
      obtain ⟨v, hv, dv⟩ := daAll_get b1 hd
      have ex := y xs (sqT_tst r.tst a1)
      rw [hv] at ex
      cases ex
      refine ⟨Same.refl _, ?_⟩
      cases M with
      | false => exact da_mono r _ _ dv
      | true =>
        have f := hf rfl
        have b2 := daAll_tst r.tst _ _ f b1
        obtain ⟨v', hv', dv'⟩ := daAll_get b2 hd
        rw [hv] at hv'
        cases hv'
        exact dv'
    · exact ⟨xs, sqT_tst r.tst a1, by omega⟩⟩
theorem itr_ok {K : PySem.W.Frag} {H1 : Hp} (lo : Int) (n : Nat) : ItOk M K (Itr lo n) H1 ((List.range n).map fun (i : Nat) => PyData.int (lo + (i : Int))) := by
  refine ⟨fun i H _ hi => ?_, fun i H x H' _ y d hd => ?_, fun i H _ hi => ?_⟩
  · have : i < n := by simpa using hi
    exact this
  · obtain ⟨rfl, rfl⟩ := y
    rw [List.getElem?_map] at hd
    cases e : (List.range n)[i]? with
    | none => rw [e] at hd; cases hd
    | some j =>
      rw [e] at hd
      have ej : i = j := by
        have q := List.getElem?_eq_some_iff.mp e
        obtain ⟨h1, h2⟩ := q
        rw [List.getElem_range] at h2
        exact h2
      subst ej
      cases hd
      exact ⟨Same.refl _, .int _⟩
  · have : n ≤ i := by simpa using hi
    exact this
theorem id_rng1 {n : Int} (h : DA X [a] st [.int n]) (hb : -1000000 ≤ n ∧ n ≤ 1000000) (hm : X.mg "range" = none) (hg : Gl X "range" := by rfl) (hs : starEach [a] X.env = [(false, eval a X.env)] := by rfl) :
    ID M X tg (.Call (.Name "range" p) [a] [] pos) st ((List.range n.toNat).map fun (i : Nat) => PyData.int (0 + (i : Int))) := fun HB σ H E => ⟨_, pi_range1 hg hm pa_wp hs, fun R q => h HB σ H E _ fun vs H1 e1 h1 => by
  obtain ⟨v, rfl, h2⟩ := da_one h1
  cases h2
  exact ⟨n, rfl, by omega, by omega, q _ H1 e1 (itr_ok 0 n.toNat)⟩⟩
theorem id_rng2 {lo n : Int} (h : DA X [a, b] st [.int lo, .int n]) (hb : -1000000 ≤ lo ∧ lo ≤ 1000000 ∧ -1000000 ≤ n ∧ n ≤ 1000000) (hm : X.mg "range" = none) (hg : Gl X "range" := by rfl) (hs : starEach [a, b] X.env = [(false, eval a X.env), (false, eval b X.env)] := by rfl) (hs2 : starEach [b] X.env = [(false, eval b X.env)] := by rfl) :
    ID M X tg (.Call (.Name "range" p) [a, b] [] pos) st ((List.range (n - lo).toNat).map fun (i : Nat) => PyData.int (lo + (i : Int))) := fun HB σ H E => ⟨_, pi_range2 hg hm pa_wp hs hs2, fun R q => h HB σ H E _ fun vs H1 e1 h1 => by
  obtain ⟨v, u, rfl, h2, h3⟩ := da_two h1
  cases h2
  cases h3
  exact ⟨lo, n, rfl, by omega, q _ H1 e1 (itr_ok lo (n - lo).toNat)⟩⟩
/-- zip of two tuples -/
def zipD : List PyData → List PyData → List PyData
  | a :: r, b :: s => .tuple [a, b] :: zipD r s
  | _, _ => []
theorem zipD_len : ∀ ds es : List PyData, (zipD ds es).length = min ds.length es.length
  | [], _ => by simp [zipD]
  | _ :: _, [] => by simp [zipD]
  | a :: r, b :: s => by
    show (zipD r s).length + 1 = min (r.length + 1) (s.length + 1)
    rw [zipD_len r s]; omega
theorem zipD_get : ∀ (ds es : List PyData) (i : Nat) (d : PyData), (zipD ds es)[i]? = some d → ∃ a b, d = .tuple [a, b] ∧ ds[i]? = some a ∧ es[i]? = some b
  | [], _, _, _, h => by simp [zipD] at h
  | _ :: _, [], _, _, h => by simp [zipD] at h
  | a :: r, b :: s, 0, d, h => by
    have e : PyData.tuple [a, b] = d := by simpa [zipD] using h
    exact ⟨a, b, e.symm, rfl, rfl⟩
  | a :: r, b :: s, i + 1, d, h => by
    have h' : (zipD r s)[i]? = some d := by simpa [zipD] using h
    obtain ⟨x, y, e, h1, h2⟩ := zipD_get r s i d h'
    exact ⟨x, y, e, by simpa using h1, by simpa using h2⟩
theorem id_zipT {elts : List Expr} {kk : Nat} {tpos : Pos} (h : DA X [a, b] st [.tuple ds, .tuple es]) (hm : X.mg "zip" = none) (hg : Gl X "zip" := by rfl)
    (hs : starEach [a, b] X.env = (false, eval a X.env) :: starEach [b] X.env := by rfl) (hpl : (backTo pos (starEach [b] X.env)).any (·.1) = false := by rfl) :
    ID false X (.Tuple elts kk tpos) (.Call (.Name "zip" p) [a, b] [] pos) st (zipD ds es) := fun HB σ H E => ⟨_, RZ.pi_zipA hg hm pa_wp hs hpl, fun R q => h HB σ H E _ fun vs H1 e1 h1 => by
  obtain ⟨v, u, rfl, h2, h3⟩ := da_two h1
  cases h2 with
  | @tup a' xs _ a1 b1 => cases h3 with
    | @tup b' ys _ a2 b2 =>
      have l1 := daAll_len b1
      have l2 := daAll_len b2
      have lz := zipD_len ds es
      refine ⟨a', b', xs, ys, rfl, .inr ⟨a1, a2, q _ H1 e1 ⟨fun i H r hi => ?_, fun i H x H' r y d hd => ?_, fun i H r hi => ?_⟩⟩⟩
      · obtain ⟨v, hv⟩ := daAll_getL b1 (i := i) (by omega)
        obtain ⟨u, hu⟩ := daAll_getL b2 (i := i) (by omega)
        exact ⟨xs, ys, v, u, sqT_mono r a1, sqT_mono r a2, hv, hu⟩
      · obtain ⟨T, v, u, rfl, hT, rfl, f1, f2⟩ := y
        obtain ⟨da, db, rfl, g1, g2⟩ := zipD_get ds es i d hd
        have x1 := f1 xs (sqT_mono r a1)
        have x2 := f2 ys (sqT_mono r a2)
        obtain ⟨v', hv', dv⟩ := daAll_get b1 g1
        obtain ⟨u', hu', du⟩ := daAll_get b2 g2
        rw [x1] at hv'; cases hv'
        rw [x2] at hu'; cases hu'
        have sn := same_new (o := HO.tup [v, u]) hT
        exact ⟨sn, .tup (.inl (.inl upd_same)) (.cons (da_mono (Same.trans r sn) _ _ dv) (.cons (da_mono (Same.trans r sn) _ _ du) .nil))⟩
      · refine ⟨xs, ys, sqT_mono r a1, sqT_mono r a2, ?_⟩
        omega⟩
end
/-! ### slots stored -/
def DSt.set (st : DSt) (i : Nat) (d : PyData) : DSt := ⟨st.im.set i (some d), match st.ow with | some (j, xs) => if j = i then none else some (j, xs) | none => none⟩
def DSt.own (st : DSt) (i : Nat) (xs : List PyData) : DSt := ⟨st.im.set i none, some (i, xs)⟩
section
variable {K : PySem.W.Frag} {HB H H' : Hp} {σ : L2.St} {st : DSt}
theorem EnvS.set (E : EnvS K HB H σ st) {v : V} {d : PyData} (h : Da K H v d) (i : Nat) : EnvS K HB H (σ.set i (some v)) (st.set i d) where
  ex := E.ex
  im := fun j d' e => by
    have e' : (st.im.set i (some d))[j]? = some (some d') := e
    by_cases hj : i = j
    · subst hj
      by_cases hl : i < st.im.length
      · rw [List.getElem?_set_self hl] at e'
        cases e'
        exact ⟨v, by rw [List.getElem?_set_self (by rw [← E.len]; exact hl)], h⟩
      · rw [List.getElem?_eq_none (by simpa using hl)] at e'
        cases e'
    · rw [List.getElem?_set_ne hj] at e'
      obtain ⟨u, h1, h2⟩ := E.im j d' e'
      exact ⟨u, by rw [List.getElem?_set_ne hj]; exact h1, h2⟩
  ow := fun j xs e => by
    have e' : (match st.ow with | some (j, xs) => if j = i then none else some (j, xs) | none => none) = some (j, xs) := e
    cases q : st.ow with
    | none => rw [q] at e'; cases e'
    | some p =>
      obtain ⟨j', xs'⟩ := p
      rw [q] at e'
      by_cases hj : j' = i
      · have e2 : (if j' = i then none else some (j', xs')) = some (j, xs) := e'
        rw [if_pos hj] at e2
        cases e2
      · have e2 : (if j' = i then none else some (j', xs')) = some (j, xs) := e'
        rw [if_neg hj] at e2
        cases e2
        obtain ⟨l, vs, h1, h2, h3, h4⟩ := E.ow j xs q
        exact ⟨l, vs, by rw [List.getElem?_set_ne (fun z => hj z.symm)]; exact h1, h2, h3, h4⟩
  len := by
    show (st.im.set i (some d)).length = (σ.set i (some v)).length
    rw [List.length_set, List.length_set, E.len]
theorem EnvS.own (E : EnvS K HB H σ st) {l : Addr} {vs : List V} {xs : List PyData} (h : H l = some (.lst vs)) (hd : DaAll K H vs xs) (hn : HB l = none) (i : Nat) (hi : i < st.im.length) : EnvS K HB H (σ.set i (some (.ref l))) (st.own i xs) where
  ex := E.ex
  im := fun j d' e => by
    have e' : (st.im.set i none)[j]? = some (some d') := e
    by_cases hj : i = j
    · subst hj
      rw [List.getElem?_set_self hi] at e'
      cases e'
    · rw [List.getElem?_set_ne hj] at e'
      obtain ⟨u, h1, h2⟩ := E.im j d' e'
      exact ⟨u, by rw [List.getElem?_set_ne hj]; exact h1, h2⟩
  ow := fun j ys e => by
    have e' : some (i, xs) = some (j, ys) := e
    cases e'
    exact ⟨l, vs, List.getElem?_set_self (by rw [← E.len]; exact hi), h, hd, hn⟩
  len := by
    show (st.im.set i none).length = (σ.set i (some (.ref l))).length
    rw [List.length_set, List.length_set, E.len]
/-- slots that are not known may hold anything -/
theorem EnvS.wiped (E : EnvS K HB H σ st) (vs : List Nat) (h : ∀ i ∈ vs, st.at i = none) : EnvS K HB H (wipe σ vs) st where
  ex := E.ex
  im := fun i d e => by
    obtain ⟨v, h1, h2⟩ := E.im i d e
    refine ⟨v, ?_, h2⟩
    have hi : i ∉ vs := fun hm => by
      have z := h i hm
      unfold DSt.at at z
      cases q : st.ow with
      | none =>
        rw [q] at z
        have z' : (st.im[i]?).join = none := z
        rw [e] at z'
        cases z'
      | some p =>
        obtain ⟨j, xs⟩ := p
        rw [q] at z
        have z' : (if j = i then some (PyData.list xs) else (st.im[i]?).join) = none := z
        by_cases hj : j = i
        · rw [if_pos hj] at z'; cases z'
        · rw [if_neg hj, e] at z'
          cases z'
    rw [wipe_out hi]
    exact h1
  ow := fun i xs e => by
    obtain ⟨l, us, h1, h2, h3, h4⟩ := E.ow i xs e
    refine ⟨l, us, ?_, h2, h3, h4⟩
    have hi : i ∉ vs := fun hm => by
      have z := h i hm
      unfold DSt.at at z
      rw [e] at z
      have z' : (if i = i then some (PyData.list xs) else (st.im[i]?).join) = none := z
      rw [if_pos rfl] at z'
      cases z'
    rw [wipe_out hi]
    exact h1
  len := by rw [wipe_length]; exact E.len
end
theorem wipe_set {y : Option V} : ∀ {vs : List Nat} {σ : L2.St} {j : Nat}, j ∈ vs → wipe (σ.set j y) vs = wipe σ vs
  | [], _, _, h => by simp at h
  | v :: vs, σ, j, h => by
    show (wipe (σ.set j y) vs).set v none = (wipe σ vs).set v none
    by_cases hm : j ∈ vs
    · rw [wipe_set hm]
    · have e : j = v := by
        rcases List.mem_cons.mp h with e | h
        · exact e
        · exact absurd h hm
      subst e
      refine List.ext_getElem? fun i => ?_
      by_cases hi : j = i
      · subst hi
        by_cases hl : j < σ.length
        · rw [List.getElem?_set_self (by rw [wipe_length, List.length_set]; exact hl), List.getElem?_set_self (by rw [wipe_length]; exact hl)]
        · rw [List.getElem?_eq_none (by rw [List.length_set, wipe_length, List.length_set]; omega), List.getElem?_eq_none (by rw [List.length_set, wipe_length]; omega)]
      · rw [List.getElem?_set_ne hi, List.getElem?_set_ne hi]
        by_cases hv : i ∈ vs
        · have f : ∀ τ : L2.St, i < τ.length → (wipe τ vs)[i]? = some none := fun τ hl => by
            cases q : (wipe τ vs)[i]? with
            | none =>
              rw [List.getElem?_eq_none_iff, wipe_length] at q
              omega
            | some o =>
              cases o with
              | none => rfl
              | some x => exact absurd hv (wipe_some q).2
          by_cases hl : i < σ.length
          · rw [f _ (by rw [List.length_set]; exact hl), f _ hl]
          · rw [List.getElem?_eq_none (by rw [wipe_length, List.length_set]; omega), List.getElem?_eq_none (by rw [wipe_length]; omega)]
        · rw [wipe_out hv, wipe_out hv, List.getElem?_set_ne hi]
theorem wipe_wipe (σ : L2.St) (vs : List Nat) : wipe (wipe σ vs) vs = wipe σ vs := by
  refine List.ext_getElem? fun i => ?_
  by_cases hv : i ∈ vs
  · have f : ∀ τ : L2.St, i < τ.length → (wipe τ vs)[i]? = some none := fun τ hl => by
      cases q : (wipe τ vs)[i]? with
      | none =>
        rw [List.getElem?_eq_none_iff, wipe_length] at q
        omega
      | some o =>
        cases o with
        | none => rfl
        | some x => exact absurd hv (wipe_some q).2
    by_cases hl : i < σ.length
    · rw [f _ (by rw [wipe_length]; exact hl), f _ hl]
    · rw [List.getElem?_eq_none (by rw [wipe_length, wipe_length]; omega), List.getElem?_eq_none (by rw [wipe_length]; omega)]
  · rw [wipe_out hv]
/-! ### comprehensions -/
def kept (keep : Nat → Bool) (gg : Nat → PyData) (n : Nat) : List PyData := ((List.range n).filter keep).map gg
theorem kept_succ (keep : Nat → Bool) (gg : Nat → PyData) (n : Nat) : kept keep gg (n + 1) = if keep n = true then kept keep gg n ++ [gg n] else kept keep gg n := by
  unfold kept
  rw [List.range_succ, List.filter_append, List.map_append]
  by_cases h : keep n = true
  · rw [if_pos h, List.filter_cons, if_pos h]; rfl
  · rw [if_neg h, List.filter_cons, if_neg h]; simp
theorem kept_len (keep : Nat → Bool) (gg : Nat → PyData) (n : Nat) : (kept keep gg n).length ≤ n := by
  unfold kept
  rw [List.length_map]
  have := List.length_filter_le keep (List.range n)
  rw [List.length_range] at this
  exact this
theorem kept_all (out : List PyData) : kept (fun _ => true) (fun i => out.getD i .none) out.length = out := by
  unfold kept
  rw [List.filter_eq_self.mpr (fun _ _ => rfl)]
  refine List.ext_getElem? fun i => ?_
  rw [List.getElem?_map]
  by_cases h : i < out.length
  · rw [List.getElem?_range h, List.getElem?_eq_getElem h, Option.map_some, List.getD_eq_getElem?_getD, List.getElem?_eq_getElem h]; rfl
  · rw [List.getElem?_eq_none (by simpa using h), List.getElem?_eq_none (by omega)]; rfl
def del (H : Hp) (D : Addr) : Hp := fun b => if b = D then none else H b
theorem del_ne {H : Hp} {D b : Addr} (h : b ≠ D) : del H D b = H b := by unfold del; rw [if_neg h]
theorem del_same (H : Hp) (D : Addr) : Same (del H D) H := fun b o h => by
  unfold del at h
  by_cases e : b = D
  · rw [if_pos e] at h; cases h
  · rw [if_neg e] at h; exact h
theorem del_upd (H : Hp) (D : Addr) (o : HO) : Same (del H D) (upd H D o) := fun b u h => by
  unfold del at h
  by_cases e : b = D
  · rw [if_pos e] at h; cases h
  · rw [if_neg e] at h; rw [upd_ne e]; exact h
theorem del_del_upd (H : Hp) (D : Addr) (o : HO) : del (upd H D o) D = del H D := by
  funext b
  unfold del
  by_cases e : b = D
  · rw [if_pos e, if_pos e]
  · rw [if_neg e, if_neg e, upd_ne e]
theorem del_mono {H H' : Hp} (e : Same H H') (D : Addr) : Same (del H D) (del H' D) := fun b o h => by
  unfold del at h ⊢
  by_cases q : b = D
  · rw [if_pos q] at h; cases h
  · rw [if_neg q] at h ⊢; exact e _ _ h
theorem del_tst {H : Hp} {D : Addr} {xs : List V} (h : H D = some (.lst xs)) : Tst H (del H D) := fun b o hb n => by
  have : b ≠ D := fun e => by subst e; rw [h] at hb; cases hb; exact n xs rfl
  rw [del_ne this]; exact hb
/-- an element that does not reach a list which is being made: it has no list in it, or is a new list of such -/
def Fz (K : PySem.W.Frag) (H' H4 : Hp) (y : V) (d : PyData) : Prop := frozen d = true ∨ ∃ l us ds, y = .ref l ∧ d = .list ds ∧ H' l = none ∧ H4 l = some (.lst us) ∧ DaAll K H4 us ds ∧ frozenAll ds = true
theorem Fz.del {K : PySem.W.Frag} {H' H4 : Hp} {y : V} {d : PyData} {D : Addr} {xs ys : List V} (f : Fz K H' H4 y d) (h : Da K H4 y d) (hD : H' D = some (.lst xs)) (hD4 : H4 D = some (.lst ys)) : Da K (del H4 D) y d := by
  rcases f with f | ⟨l, us, ds, rfl, rfl, h1, h2, h3, h4⟩
  · exact da_tst (del_tst hD4) _ _ f h
  · have ne : l ≠ D := fun e => by subst e; rw [h1] at hD; cases hD
    exact .lst (by rw [del_ne ne]; exact h2) (daAll_tst (del_tst hD4) _ _ h4 h3)
theorem lc_data {K : PySem.W.Frag} {J : It} {H1 : Hp} {D : Addr} {xs : List PyData} {g : TG} {tt : TT} {te : TE} {vs : List Nat} {σ : L2.St} {Q : VK} (ok : ItOk false K J H1 xs) (hD : H1 D = none) (keep : Nat → Bool) (gg : Nat → PyData) (hsz : xs.length ≤ 50000)
    (turn : ∀ (i : Nat) (d : PyData) (x : V) (H' : Hp), xs[i]? = some d → Same H1 H' → Da K H' x d → ∀ (N1 : V → Hp → Prop) (N0 : Hp → Prop), (keep i = true → ∀ y H4, Same H' H4 → Da K H4 y (gg i) → Fz K H' H4 y (gg i) → N1 y H4) → (keep i = false → ∀ H4, Same H' H4 → N0 H4) →
      g x (wipe σ vs) H' fun σ2 H2 => wipe σ2 vs = wipe σ vs ∧ tt σ2 H2 fun b H3 => if b = true then te σ2 H3 N1 else N0 H3)
    (fin : ∀ (H' : Hp) (acc : List V), Same H1 H' → H' D = some (.lst acc) → DaAll K H' acc (kept keep gg xs.length) → Q (.ref D) H') :
    ∃ W : Nat → Nat → Hp → Prop, (∃ m, W 0 m (upd H1 D (.lst []))) ∧ ∀ i m H, W i m H →
      (J.stop i H ∧ Q (.ref D) H) ∨ (J.go i H ∧ ∃ Nx : Hp → Prop, (∀ H', Nx H' → ∃ m', m' < m ∧ W (i + 1) m' H') ∧ ∀ x H', J.yld i H x H' → g x (wipe σ vs) H' fun σ2 H2 => wipe σ2 vs = wipe σ vs ∧ tt σ2 H2 fun b H3 =>
        if b = true then te σ2 H3 fun y H4 => ∃ acc, H4 D = some (.lst acc) ∧ acc.length < sizeLine ∧ Nx (upd H4 D (.lst (acc ++ [y]))) else Nx H3) := by
  refine ⟨fun i m H => m = xs.length - i ∧ i ≤ xs.length ∧ Same H1 H ∧ ∃ acc, H D = some (.lst acc) ∧ DaAll K (del H D) acc (kept keep gg i), ⟨xs.length, rfl, Nat.zero_le _, same_new hD, [], upd_same, .nil⟩, ?_⟩
  rintro i m H ⟨rfl, hi, sm, acc, hacc, dacc⟩
  by_cases hlt : i < xs.length
  · refine .inr ⟨ok.go i H sm hlt, fun H' => Same H1 H' ∧ ∃ acc, H' D = some (.lst acc) ∧ DaAll K (del H' D) acc (kept keep gg (i + 1)), fun H' q => ⟨xs.length - (i + 1), by omega, rfl, hlt, q⟩, fun x H' y => ?_⟩
    obtain ⟨s2, dx⟩ := ok.yld i H x H' sm y _ (List.getElem?_eq_getElem hlt)
    refine turn i _ x H' (List.getElem?_eq_getElem hlt) (sm.trans s2) dx _ _ (fun hk y H4 s4 dy fz => ?_) (fun hk H4 s4 => ?_)
    · have h' : H' D = some (.lst acc) := s2 _ _ hacc
      have h4 : H4 D = some (.lst acc) := s4 _ _ h'
      have d4 : DaAll K (del H4 D) acc (kept keep gg i) := daAll_mono (del_mono (s2.trans s4) D) _ _ dacc
      have lk := kept_len keep gg i
      have la := daAll_len dacc
      refine ⟨acc, h4, szl (by omega), ?_, acc ++ [y], upd_same, ?_⟩
      · intro b o hb
        rw [upd_ne (ne_of_none hb hD)]
        exact s4 _ _ (s2 _ _ (sm _ _ hb))
      · rw [kept_succ, if_pos hk, del_del_upd]
        exact daAll_snoc d4 (fz.del dy h' h4)
    · refine ⟨(sm.trans s2).trans s4, acc, s4 _ _ (s2 _ _ hacc), ?_⟩
      rw [kept_succ, hk]
      exact daAll_mono (del_mono (s2.trans s4) D) _ _ dacc
  · have e : i = xs.length := by omega
    subst e
    exact .inl ⟨ok.stop _ H sm (Nat.le_refl _), fin H acc sm hacc (daAll_mono (del_same H D) _ _ dacc)⟩
/-- a new list -/
def DL (X : Cx) (e : Expr) (st : DSt) (ds : List PyData) : Prop := ∀ (HB : Hp) (σ : L2.St) (H : Hp), EnvS X.K HB H σ st → ∀ Q : VK, (∀ l vs H2, Same H H2 → H l = none → H2 l = some (.lst vs) → DaAll X.K H2 vs ds → Q (.ref l) H2) → wpE X e σ H Q
section
variable {X : Cx} {st : DSt} {elt iter c e b : Expr} {scope : Scope} {pos py p : Pos} {own : List (Str × Nat)} {xs out ds : List PyData} {y : Str} {es : List Expr}
theorem d_new (h : DL X e st ds) : DE X e st (.list ds) := fun HB σ H E Q q => h HB σ H E Q fun l vs H2 e1 _ h2 h3 => q _ H2 e1 (.lst h2 h3)
theorem dl_lst (h : DA X es st ds) (hl : ds.length ≤ 100000 := by first | decide | simp) : DL X (.List es pos) st ds := fun HB σ H E Q q =>
  wpE_of (pe_lst pa_wp) (h HB σ H E _ fun vs H1 e1 h1 => ⟨by rw [daAll_len h1]; exact sz hl, fun p hp => q p vs _ (e1.trans (same_new hp)) (e1.free hp) upd_same (daAll_mono (same_new hp) _ _ h1)⟩)
theorem dl_rep {k : Int} (h : DA X es st ds) (hb : DE X b st (.int k)) (hl : ds.length ≤ 90) (h0 : 0 ≤ k ∧ k ≤ 1000) : DL X (.BinOp (.List es p) .Mult b pos) st (List.replicate k.toNat ds).flatten := fun HB σ H E Q q =>
  wpE_of (pe_op op_rep pe_wp pe_wp) (dl_lst (pos := p) h (by omega) HB σ H E _ fun l vs H1 e1 hn h1 h2 => hb HB σ H1 (E.ext e1) _ fun u H2 e2 h3 => by
    cases h3
    have l1 := daAll_len h2
    have hz : vs.length * k.toNat ≤ sizeLine := by
      rw [l1]
      exact sz (Nat.le_trans (Nat.mul_le_mul hl (show k.toNat ≤ 1000 by omega)) (by decide))
    exact ⟨l, k, vs, rfl, rfl, e2 _ _ h1, by omega, by omega, hz, fun p hp => q p _ _ ((e1.trans e2).trans (same_new hp)) ((e1.trans e2).free hp) upd_same (daAll_mono (same_new hp) _ _ (daAll_rep (daAll_mono e2 _ _ h2) k.toNat))⟩)
theorem dl_cat {a : Expr} {ds' : List PyData} (h : DE X a st (.list ds)) (hb : DE X b st (.list ds')) (hl : ds.length + ds'.length ≤ 100000) : DL X (.BinOp a .Add b pos) st (ds ++ ds') := fun HB σ H E Q q =>
  wpE_of (pe_op op_cat pe_wp pe_wp) (h HB σ H E _ fun v H1 e1 h1 => hb HB σ H1 (E.ext e1) _ fun u H2 e2 h2 => by
    cases h1 with
    | @lst a xs _ a1 b1 => cases h2 with
      | @lst b ys _ a2 b2 =>
        have l1 := daAll_len b1
        have l2 := daAll_len b2
        exact ⟨a, b, xs, ys, rfl, rfl, e2 _ _ a1, a2, by rw [l1, l2]; exact sz hl, fun p hp => q p _ _ ((e1.trans e2).trans (same_new hp)) ((e1.trans e2).free hp) upd_same (daAll_mono (same_new hp) _ _ (daAll_app (daAll_mono e2 _ _ b1) b2))⟩)
/-- the block's context -/
abbrev BlkX (X : Cx) (scope : Scope) (s : Shared) (H : Hp) (C : Addr) (cl : List (Str × Addr)) (fp : List Addr) : Cx := X.blk s H scope (compEnvC scope cl C X.env) fp
def allE (X : Cx) (scope : Scope) (e : Expr) : TE := fun σ H Q => ∀ s H' C cl fp, wpE (BlkX X scope s H' C cl fp) e σ H Q
def allT (X : Cx) (scope : Scope) (e : Expr) : TT := fun σ H Q => ∀ s H' C cl fp, wpT (BlkX X scope s H' C cl fp) e σ H Q
theorem allE_pe (s : Shared) (H : Hp) (C : Addr) (cl : List (Str × Addr)) (fp : List Addr) : PE (BlkX X scope s H C cl fp) e (allE X scope e) := ⟨fun pins s1 _ _ _ I h => h s H C cl fp pins s1 I⟩
theorem allT_pt (s : Shared) (H : Hp) (C : Addr) (cl : List (Str × Addr)) (fp : List Addr) : PT (BlkX X scope s H C cl fp) e (allT X scope e) := ⟨fun pins s1 _ _ _ I h => h s H C cl fp pins s1 I⟩
/-- [elt for y in iter] -/
theorem dl_lc (j : Nat) (hi : ID false X (.Name y py) iter st xs) (ok : BlkOk X.N X.env.scope scope own) (hN : X.N.Nodup) (hj : j ∈ own.map (·.2)) (hu : ∀ i ∈ own.map (·.2), st.at i = none) (hsz : xs.length ≤ 50000) (hlen : out.length = xs.length)
    (he : ∀ (i : Nat) d o, xs[i]? = some d → out[i]? = some o → frozen o = true ∧ ∀ s H C cl fp, DE (BlkX X scope s H C cl fp) elt (st.set j d) o)
    (hg : ∀ s H C cl fp, PG (BlkX X scope s H C cl fp) (.Name y py) (gName j)) (hc : X.calm = true := by rfl) (hs : ∀ x, foldedSetIterable iter X.env x = pure x := by intro _; rfl) :
    DL X (.ListComp elt [⟨.Name y py, iter, [], 0⟩] scope pos) st out := fun HB σ H E Q q => by
  obtain ⟨wi, hpi, hwi⟩ := hi HB σ H E
  refine wpE_of (pe_lc (own := own) (tt := tYes) hc hN hpi ok hg (fun _ _ _ _ _ => pts_nil) (fun s H C cl fp => allE_pe s H C cl fp) hs) (hwi _ fun J H1 e1 iok D hD => ?_)
  refine lc_data (xs := xs) iok hD (fun _ => true) (fun i => out.getD i .none) hsz (fun i d x H' hd sm dx N1 N0 k1 k0 => ?_) (fun H' acc sm h1 h2 => ?_)
  · have hi' : i < out.length := by rw [hlen]; exact (List.getElem?_eq_some_iff.mp hd).1
    have ho : out[i]? = some out[i] := List.getElem?_eq_getElem hi'
    have eo : out.getD i .none = out[i] := by rw [List.getD_eq_getElem?_getD, ho]; rfl
    obtain ⟨fz, de⟩ := he i d _ hd ho
    refine ⟨(wipe_set hj).trans (wipe_wipe σ _), ?_⟩
    show allE X scope elt ((wipe σ (own.map (·.2))).set j (some x)) H' N1
    intro s H2 C cl fp
    refine de s H2 C cl fp HB _ H' (((E.ext (e1.trans sm)).wiped _ hu).set dx j) _ fun y H4 e4 dy => ?_
    rw [← eo] at dy fz
    exact k1 rfl y H4 e4 dy (.inl fz)
  · rw [← hlen, kept_all] at h2
    exact q D acc H' (e1.trans sm) (e1.free hD) h1 h2
/-- the same where the elements are new lists of data without lists -/
theorem dl_lcL {outs : List (List PyData)} (j : Nat) (hi : ID false X (.Name y py) iter st xs) (ok : BlkOk X.N X.env.scope scope own) (hN : X.N.Nodup) (hj : j ∈ own.map (·.2)) (hu : ∀ i ∈ own.map (·.2), st.at i = none) (hsz : xs.length ≤ 50000) (hlen : outs.length = xs.length)
    (he : ∀ (i : Nat) d o, xs[i]? = some d → outs[i]? = some o → frozenAll o = true ∧ ∀ s H C cl fp, DL (BlkX X scope s H C cl fp) elt (st.set j d) o)
    (hg : ∀ s H C cl fp, PG (BlkX X scope s H C cl fp) (.Name y py) (gName j)) (hc : X.calm = true := by rfl) (hs : ∀ x, foldedSetIterable iter X.env x = pure x := by intro _; rfl) :
    DL X (.ListComp elt [⟨.Name y py, iter, [], 0⟩] scope pos) st (outs.map .list) := fun HB σ H E Q q => by
  obtain ⟨wi, hpi, hwi⟩ := hi HB σ H E
  refine wpE_of (pe_lc (own := own) (tt := tYes) hc hN hpi ok hg (fun _ _ _ _ _ => pts_nil) (fun s H C cl fp => allE_pe s H C cl fp) hs) (hwi _ fun J H1 e1 iok D hD => ?_)
  refine lc_data (xs := xs) iok hD (fun _ => true) (fun i => (outs.map PyData.list).getD i .none) hsz (fun i d x H' hd sm dx N1 N0 k1 k0 => ?_) (fun H' acc sm h1 h2 => ?_)
  · have hi' : i < outs.length := by rw [hlen]; exact (List.getElem?_eq_some_iff.mp hd).1
    have ho : outs[i]? = some outs[i] := List.getElem?_eq_getElem hi'
    have eo : (outs.map PyData.list).getD i .none = .list outs[i] := by rw [List.getD_eq_getElem?_getD, List.getElem?_map, ho]; rfl
    obtain ⟨fz, de⟩ := he i d _ hd ho
    refine ⟨(wipe_set hj).trans (wipe_wipe σ _), ?_⟩
    show allE X scope elt ((wipe σ (own.map (·.2))).set j (some x)) H' N1
    intro s H2 C cl fp
    refine de s H2 C cl fp HB _ H' (((E.ext (e1.trans sm)).wiped _ hu).set dx j) _ fun l us H4 e4 hn h4 h5 => ?_
    refine k1 rfl (.ref l) H4 e4 ?_ (.inr ⟨l, us, outs[i], rfl, eo, hn, h4, h5, fz⟩)
    rw [eo]
    exact .lst h4 h5
  · have e : outs.length = (outs.map PyData.list).length := by rw [List.length_map]
    rw [← hlen, e, kept_all] at h2
    exact q D acc H' (e1.trans sm) (e1.free hD) h1 h2
/-- [elt for y in iter if c] -/
theorem dl_lcf (j : Nat) (keep : Nat → Bool) (gg : Nat → PyData) (hi : ID false X (.Name y py) iter st xs) (ok : BlkOk X.N X.env.scope scope own) (hN : X.N.Nodup) (hj : j ∈ own.map (·.2)) (hu : ∀ i ∈ own.map (·.2), st.at i = none) (hsz : xs.length ≤ 50000)
    (ht : ∀ (i : Nat) d, xs[i]? = some d → ∀ s H C cl fp, DT (BlkX X scope s H C cl fp) c (st.set j d) (keep i))
    (he : ∀ (i : Nat) d, xs[i]? = some d → keep i = true → frozen (gg i) = true ∧ ∀ s H C cl fp, DE (BlkX X scope s H C cl fp) elt (st.set j d) (gg i))
    (hg : ∀ s H C cl fp, PG (BlkX X scope s H C cl fp) (.Name y py) (gName j)) (hc : X.calm = true := by rfl) (hs : ∀ x, foldedSetIterable iter X.env x = pure x := by intro _; rfl) :
    DL X (.ListComp elt [⟨.Name y py, iter, [c], 0⟩] scope pos) st (kept keep gg xs.length) := fun HB σ H E Q q => by
  obtain ⟨wi, hpi, hwi⟩ := hi HB σ H E
  refine wpE_of (pe_lc (own := own) (tt := allT X scope c) hc hN hpi ok hg (fun s H C cl fp => pts_one (allT_pt s H C cl fp)) (fun s H C cl fp => allE_pe s H C cl fp) hs) (hwi _ fun J H1 e1 iok D hD => ?_)
  refine lc_data (xs := xs) iok hD keep gg hsz (fun i d x H' hd sm dx N1 N0 k1 k0 => ?_) (fun H' acc sm h1 h2 => q D acc H' (e1.trans sm) (e1.free hD) h1 h2)
  refine ⟨(wipe_set hj).trans (wipe_wipe σ _), ?_⟩
  have E2 := ((E.ext (e1.trans sm)).wiped _ hu).set dx j
  intro s H2 C cl fp
  refine ht i d hd s H2 C cl fp HB _ H' E2 _ fun H3 e3 => ?_
  cases hk : keep i with
  | true =>
    rw [if_pos rfl]
    intro s H2 C cl fp
    obtain ⟨fz, de⟩ := he i d hd hk
    refine de s H2 C cl fp HB _ H3 (E2.ext e3) _ fun y H4 e4 dy => k1 hk y H4 (e3.trans e4) dy (.inl fz)
  | false =>
    rw [if_neg Bool.false_ne_true]
    exact k0 hk H3 e3
/-- [elt for y, y2 in iter] -/
theorem dl_lc2 {y2 : Str} {py2 pt : Pos} {kt : Nat} (j j2 : Nat) (hi : ID false X (.Tuple [.Name y py, .Name y2 py2] kt pt) iter st xs) (ok : BlkOk X.N X.env.scope scope own) (hN : X.N.Nodup) (hj : j ∈ own.map (·.2)) (hj2 : j2 ∈ own.map (·.2)) (hu : ∀ i ∈ own.map (·.2), st.at i = none) (hsz : xs.length ≤ 50000) (hlen : out.length = xs.length)
    (he : ∀ (i : Nat) d o, xs[i]? = some d → out[i]? = some o → frozen o = true ∧ ∃ d1 d2, d = .tuple [d1, d2] ∧ ∀ s H C cl fp, DE (BlkX X scope s H C cl fp) elt ((st.set j d1).set j2 d2) o)
    (hg : ∀ s H C cl fp, PG (BlkX X scope s H C cl fp) (.Tuple [.Name y py, .Name y2 py2] kt pt) (gTup X.K 2 (gCons (gName j) (gCons (gName j2) gNil)))) (hc : X.calm = true := by rfl) (hs : ∀ x, foldedSetIterable iter X.env x = pure x := by intro _; rfl) :
    DL X (.ListComp elt [⟨.Tuple [.Name y py, .Name y2 py2] kt pt, iter, [], 0⟩] scope pos) st out := fun HB σ H E Q q => by
  obtain ⟨wi, hpi, hwi⟩ := hi HB σ H E
  refine wpE_of (pe_lc (own := own) (tt := tYes) hc hN hpi ok hg (fun _ _ _ _ _ => pts_nil) (fun s H C cl fp => allE_pe s H C cl fp) hs) (hwi _ fun J H1 e1 iok D hD => ?_)
  refine lc_data (xs := xs) iok hD (fun _ => true) (fun i => out.getD i .none) hsz (fun i d x H' hd sm dx N1 N0 k1 k0 => ?_) (fun H' acc sm h1 h2 => ?_)
  · have hi' : i < out.length := by rw [hlen]; exact (List.getElem?_eq_some_iff.mp hd).1
    have ho : out[i]? = some out[i] := List.getElem?_eq_getElem hi'
    have eo : out.getD i .none = out[i] := by rw [List.getD_eq_getElem?_getD, ho]; rfl
    obtain ⟨fz, d1, d2, rfl, de⟩ := he i d _ hd ho
    cases dx with
    | @tup a us _ a1 b1 =>
      obtain ⟨v1, v2, rfl, h1, h2⟩ := da_two b1
      refine ⟨a, [v1, v2], rfl, a1, rfl, v1, [v2], rfl, v2, [], rfl, rfl, ?_, ?_⟩
      · exact ((wipe_set hj2).trans (wipe_set hj)).trans (wipe_wipe σ _)
      · show allE X scope elt (((wipe σ (own.map (·.2))).set j (some v1)).set j2 (some v2)) H' N1
        intro s H2 C cl fp
        refine de s H2 C cl fp HB _ H' ((((E.ext (e1.trans sm)).wiped _ hu).set h1 j).set h2 j2) _ fun y H4 e4 dy => ?_
        rw [← eo] at dy fz
        exact k1 rfl y H4 e4 dy (.inl fz)
  · rw [← hlen, kept_all] at h2
    exact q D acc H' (e1.trans sm) (e1.free hD) h1 h2
end
end Wb
/-! ## Fw4 -/
set_option maxHeartbeats 4000000
namespace Wb
open PySem PySem.Spec PyProof.Rows L2
/-! ### statements on data -/
structure RD where
  nx : DSt → Prop
  rt : PyData → Prop
  bk : DSt → Prop := fun _ => False
  ct : DSt → Prop := fun _ => False
structure Post (M : Bool) (K : PySem.W.Frag) (HB H : Hp) (D : Ends) (R : RD) : Prop where
  nx : ∀ (σ' : L2.St) (H' : Hp) (st' : DSt), Rel M H H' → EnvS K HB H' σ' st' → R.nx st' → D.nx σ' H'
  bk : ∀ (σ' : L2.St) (H' : Hp) (st' : DSt), Rel M H H' → EnvS K HB H' σ' st' → R.bk st' → D.bk σ' H'
  ct : ∀ (σ' : L2.St) (H' : Hp) (st' : DSt), Rel M H H' → EnvS K HB H' σ' st' → R.ct st' → D.ct σ' H'
  rt : ∀ (v : V) (H' : Hp) (d : PyData), Rel M H H' → Same HB H' → Da K H' v d → R.rt d → D.rt v H'
theorem Post.mono {M : Bool} {K : PySem.W.Frag} {HB H H1 : Hp} {D : Ends} {R : RD} (P : Post M K HB H D R) (e : Rel M H H1) : Post M K HB H1 D R :=
  ⟨fun σ' H' st' r => P.nx σ' H' st' (e.trans r), fun σ' H' st' r => P.bk σ' H' st' (e.trans r), fun σ' H' st' r => P.ct σ' H' st' (e.trans r), fun v H' d r => P.rt v H' d (e.trans r)⟩
def DS (M : Bool) (X : Cx) (s : Stmt) (st : DSt) (R : RD) : Prop := ∀ (HB : Hp) (σ : L2.St) (H : Hp), EnvS X.K HB H σ st → ∀ D : Ends, Post M X.K HB H D R → wpS X s D σ H
def DSs (M : Bool) (X : Cx) (s : List Stmt) (st : DSt) (R : RD) : Prop := ∀ (HB : Hp) (σ : L2.St) (H : Hp), EnvS X.K HB H σ st → ∀ D : Ends, Post M X.K HB H D R → wpSs X s D σ H
section
variable {M : Bool} {X : Cx} {st : DSt} {R : RD} {s : Stmt} {ss orelse : List Stmt} {a b c e : Expr} {pos px py pt p : Pos} {d d1 d2 : PyData} {ds : List PyData} {x y : Str}
theorem dss_nil (h : R.nx st) : DSs M X [] st R := fun HB σ H E D P => wpSs_of pss_nil (P.nx σ H st (Rel.refl H) E h)
theorem dss_cons (h : DS M X s st { R with nx := fun st' => DSs M X ss st' R }) : DSs M X (s :: ss) st R := fun HB σ H E D P =>
  wpSs_of (pss_cons ps_wp pss_wp) (h HB σ H E _ ⟨fun σ' H' st' r E' q => q HB σ' H' E' D (P.mono r), P.bk, P.ct, P.rt⟩)
theorem dss_one (h : DS M X s st R) : DSs M X [s] st R := fun HB σ H E D P => wpSs_of (pss_one ps_wp) (h HB σ H E D P)
theorem ds_ret (h : DE X e st d) (hr : R.rt d) : DS M X (.Return (some e) pos) st R := fun HB σ H E D P =>
  wpS_of (ps_ret pe_wp) (h HB σ H E _ fun v H2 e2 h2 => P.rt v H2 d (Rel.same e2) (E.ex.trans e2) h2 hr)
theorem ds_if {z : Bool} (h : DT X c st z) (h1 : z = true → DSs M X ss st R) (h2 : z = false → DSs M X orelse st R) : DS M X (.If c ss orelse pos) st R := fun HB σ H E D P =>
  wpS_of (ps_if pt_wp pss_wp pss_wp) (h HB σ H E _ fun H2 e2 => by
    cases z with
    | true => exact h1 rfl HB σ H2 (E.ext e2) D (P.mono (Rel.same e2))
    | false => exact h2 rfl HB σ H2 (E.ext e2) D (P.mono (Rel.same e2)))
theorem ds_expr (h : DE X e st d) (hr : R.nx st) (hs : swapsWith e none pos.line X.env = pure false := by rfl) : DS M X (.Expr e pos) st R := fun HB σ H E D P =>
  wpS_of (ps_expr pe_wp hs) (h HB σ H E _ fun v H2 e2 h2 => P.nx σ H2 st (Rel.same e2) (E.ext e2) hr)
theorem ds_set (i : Nat) (hN : X.N.Nodup) (h : DE X e st d) (hr : R.nx (st.set i d)) (hi : X.N[i]? = some x := by rfl) (hx : Loc X.env.scope x := by first | exact .inl rfl | exact .inr rfl) (hs : swapsWith e (some (.Name x px)) pos.line X.env = pure false := by rfl) (hf : X.fn x = true ∨ X.env.scope.names.lookup x = some .local := by first | exact .inl rfl | exact .inr rfl) :
    DS M X (.Assign [.Name x px] e pos) st R := fun HB σ H E D P =>
  wpS_of (ps_set hN hi hx pe_wp hs hf) (h HB σ H E _ fun v H2 e2 h2 => P.nx _ H2 _ (Rel.same e2) ((E.ext e2).set h2 i) hr)
theorem ds_own (i : Nat) (hN : X.N.Nodup) (h : DL X e st ds) (hr : R.nx (st.own i ds)) (hl : i < st.im.length) (hi : X.N[i]? = some x := by rfl) (hx : Loc X.env.scope x := by first | exact .inl rfl | exact .inr rfl) (hs : swapsWith e (some (.Name x px)) pos.line X.env = pure false := by rfl) (hf : X.fn x = true ∨ X.env.scope.names.lookup x = some .local := by first | exact .inl rfl | exact .inr rfl) :
    DS M X (.Assign [.Name x px] e pos) st R := fun HB σ H E D P =>
  wpS_of (ps_set hN hi hx pe_wp hs hf) (h HB σ H E _ fun l vs H2 e2 hn h2 h3 => P.nx _ H2 _ (Rel.same e2) ((E.ext e2).own h2 h3 (E.ex.free hn) i hl) hr)
/-- a, b = x, y (local names) -/
theorem ds_par {kt k2 : Nat} {pt2 : Pos} (i j : Nat) (hN : X.N.Nodup) (ha : DE X a st d1) (hb : DE X b st d2) (hr : R.nx ((st.set i d1).set j d2)) (hij : i ≠ j := by decide) (hi : X.N[i]? = some x := by rfl) (hj : X.N[j]? = some y := by rfl) (hc : X.calm = true := by rfl)
    (hx : X.env.scope.names.lookup x = some .local := by rfl) (hy : X.env.scope.names.lookup y = some .local := by rfl)
    (hw : swappedStores [.Tuple [.Name x px, .Name y py] kt pt] (.Tuple [a, b] k2 pt2) X.env = pure (some [x, y]) := by rfl)
    (hs : swapsWithSole [.Tuple [.Name x px, .Name y py] kt pt] (.Tuple [a, b] k2 pt2) pos.line X.env = pure false := by rfl) (h1 : starEach [a, b] X.env = (false, eval a X.env) :: starEach [b] X.env := by rfl) (h2 : starEach [b] X.env = (false, eval b X.env) :: starEach [] X.env := by rfl) :
    DS M X (.Assign [.Tuple [.Name x px, .Name y py] kt pt] (.Tuple [a, b] k2 pt2) pos) st R := fun HB σ H E D P =>
  wpS_of (ps_par hc hN hi hj hij hx hy (pa_cons pe_wp (pa_cons pe_wp pa_nil h2) h1) hw hs) (ha HB σ H E _ fun v H1 e1 g1 => hb HB σ H1 (E.ext e1) _ fun u H2 e2 g2 => ⟨v, u, rfl, P.nx _ H2 _ (Rel.same (e1.trans e2)) (((E.ext (e1.trans e2)).set (da_mono e2 _ _ g1) i).set g2 j) hr⟩)
theorem ds_parO2 {kt k2 : Nat} {pt2 : Pos} (i j : Nat) (hN : X.N.Nodup) (ha : DE X a st d1) (hb : DL X b st ds) (hr : R.nx ((st.set i d1).own j ds)) (hl : j < st.im.length) (hij : i ≠ j := by decide) (hi : X.N[i]? = some x := by rfl) (hj : X.N[j]? = some y := by rfl) (hc : X.calm = true := by rfl)
    (hx : X.env.scope.names.lookup x = some .local := by rfl) (hy : X.env.scope.names.lookup y = some .local := by rfl)
    (hw : swappedStores [.Tuple [.Name x px, .Name y py] kt pt] (.Tuple [a, b] k2 pt2) X.env = pure (some [x, y]) := by rfl)
    (hs : swapsWithSole [.Tuple [.Name x px, .Name y py] kt pt] (.Tuple [a, b] k2 pt2) pos.line X.env = pure false := by rfl) (h1 : starEach [a, b] X.env = (false, eval a X.env) :: starEach [b] X.env := by rfl) (h2 : starEach [b] X.env = (false, eval b X.env) :: starEach [] X.env := by rfl) :
    DS M X (.Assign [.Tuple [.Name x px, .Name y py] kt pt] (.Tuple [a, b] k2 pt2) pos) st R := fun HB σ H E D P =>
  wpS_of (ps_par hc hN hi hj hij hx hy (pa_cons pe_wp (pa_cons pe_wp pa_nil h2) h1) hw hs) (ha HB σ H E _ fun v H1 e1 g1 => hb HB σ H1 (E.ext e1) _ fun l vs H2 e2 hn g2 g3 => ⟨v, .ref l, rfl, P.nx _ H2 _ (Rel.same (e1.trans e2))
    (((E.ext (e1.trans e2)).set (da_mono e2 _ _ g1) i).own g2 g3 ((E.ex.trans e1).free hn) j (by show j < (st.im.set i (some d1)).length; rw [List.length_set]; exact hl)) hr⟩)
theorem ds_parO1 {kt k2 : Nat} {pt2 : Pos} (i j : Nat) (hN : X.N.Nodup) (ha : DL X a st ds) (hb : DE X b st d2) (hr : R.nx ((st.own i ds).set j d2)) (hl : i < st.im.length) (hij : i ≠ j := by decide) (hi : X.N[i]? = some x := by rfl) (hj : X.N[j]? = some y := by rfl) (hc : X.calm = true := by rfl)
    (hx : X.env.scope.names.lookup x = some .local := by rfl) (hy : X.env.scope.names.lookup y = some .local := by rfl)
    (hw : swappedStores [.Tuple [.Name x px, .Name y py] kt pt] (.Tuple [a, b] k2 pt2) X.env = pure (some [x, y]) := by rfl)
    (hs : swapsWithSole [.Tuple [.Name x px, .Name y py] kt pt] (.Tuple [a, b] k2 pt2) pos.line X.env = pure false := by rfl) (h1 : starEach [a, b] X.env = (false, eval a X.env) :: starEach [b] X.env := by rfl) (h2 : starEach [b] X.env = (false, eval b X.env) :: starEach [] X.env := by rfl) :
    DS M X (.Assign [.Tuple [.Name x px, .Name y py] kt pt] (.Tuple [a, b] k2 pt2) pos) st R := fun HB σ H E D P =>
  wpS_of (ps_par hc hN hi hj hij hx hy (pa_cons pe_wp (pa_cons pe_wp pa_nil h2) h1) hw hs) (ha HB σ H E _ fun l vs H1 e1 hn g2 g3 => hb HB σ H1 (E.ext e1) _ fun u H2 e2 g4 => ⟨.ref l, u, rfl, P.nx _ H2 _ (Rel.same (e1.trans e2))
    (((E.ext (e1.trans e2)).own (e2 _ _ g2) (daAll_mono e2 _ _ g3) (E.ex.free hn) i hl).set g4 j) hr⟩)
/-- a, b = e; a, b, c, d = e (a tuple) -/
theorem ds_tup2 {kt : Nat} (i j : Nat) (hN : X.N.Nodup) (h : DE X e st (.tuple [d1, d2])) (hr : R.nx ((st.set i d1).set j d2)) (hi : X.N[i]? = some x := by rfl) (hj : X.N[j]? = some y := by rfl) (hc : X.calm = true := by rfl)
    (hx : Loc X.env.scope x := by first | exact .inl rfl | exact .inr rfl) (hy : Loc X.env.scope y := by first | exact .inl rfl | exact .inr rfl) (hf : X.fn x = true ∨ X.env.scope.names.lookup x = some .local := by first | exact .inl rfl | exact .inr rfl) (hf2 : X.fn y = true ∨ X.env.scope.names.lookup y = some .local := by first | exact .inl rfl | exact .inr rfl)
    (hs : swapsWithSole [.Tuple [.Name x px, .Name y py] kt pt] e pos.line X.env = pure false := by rfl) (hw : swappedStores [.Tuple [.Name x px, .Name y py] kt pt] e X.env = pure none := by rfl) : DS M X (.Assign [.Tuple [.Name x px, .Name y py] kt pt] e pos) st R := fun HB σ H E D P =>
  wpS_of (ps_asg pe_wp (pg_tup hc (pgs_cons (pg_name hN hi hx hf) (pgs_cons (pg_name hN hj hy hf2) pgs_nil))) hs hw) (h HB σ H E _ fun v H1 e1 g1 => by
    cases g1 with
    | @tup a us _ a1 b1 =>
      obtain ⟨v1, v2, rfl, h1, h2⟩ := da_two b1
      exact ⟨a, [v1, v2], rfl, a1, rfl, v1, [v2], rfl, v2, [], rfl, rfl, P.nx _ H1 _ (Rel.same e1) (((E.ext e1).set h1 i).set h2 j) hr⟩)
theorem da_four {K : PySem.W.Frag} {H : Hp} {vs : List V} {d3 d4 : PyData} (h : DaAll K H vs [d1, d2, d3, d4]) : ∃ v1 v2 v3 v4, vs = [v1, v2, v3, v4] ∧ Da K H v1 d1 ∧ Da K H v2 d2 ∧ Da K H v3 d3 ∧ Da K H v4 d4 := by
  cases h with
  | cons h1 h =>
    cases h with
    | cons h2 h =>
      obtain ⟨v3, v4, rfl, h3, h4⟩ := da_two h
      exact ⟨_, _, v3, v4, rfl, h1, h2, h3, h4⟩
theorem ds_tup4 {kt : Nat} {d3 d4 : PyData} {z w : Str} {pz pw : Pos} (i j k l : Nat) (hN : X.N.Nodup) (h : DE X e st (.tuple [d1, d2, d3, d4])) (hr : R.nx ((((st.set i d1).set j d2).set k d3).set l d4)) (hi : X.N[i]? = some x := by rfl) (hj : X.N[j]? = some y := by rfl) (hk : X.N[k]? = some z := by rfl) (hl : X.N[l]? = some w := by rfl) (hc : X.calm = true := by rfl)
    (hx : Loc X.env.scope x := by first | exact .inl rfl | exact .inr rfl) (hy : Loc X.env.scope y := by first | exact .inl rfl | exact .inr rfl) (hz : Loc X.env.scope z := by first | exact .inl rfl | exact .inr rfl) (hww : Loc X.env.scope w := by first | exact .inl rfl | exact .inr rfl)
    (hf : X.fn x = true ∨ X.env.scope.names.lookup x = some .local := by first | exact .inl rfl | exact .inr rfl) (hf2 : X.fn y = true ∨ X.env.scope.names.lookup y = some .local := by first | exact .inl rfl | exact .inr rfl) (hf3 : X.fn z = true ∨ X.env.scope.names.lookup z = some .local := by first | exact .inl rfl | exact .inr rfl) (hf4 : X.fn w = true ∨ X.env.scope.names.lookup w = some .local := by first | exact .inl rfl | exact .inr rfl)
    (hs : swapsWithSole [.Tuple [.Name x px, .Name y py, .Name z pz, .Name w pw] kt pt] e pos.line X.env = pure false := by rfl) (hw : swappedStores [.Tuple [.Name x px, .Name y py, .Name z pz, .Name w pw] kt pt] e X.env = pure none := by rfl) :
    DS M X (.Assign [.Tuple [.Name x px, .Name y py, .Name z pz, .Name w pw] kt pt] e pos) st R := fun HB σ H E D P =>
  wpS_of (ps_asg pe_wp (pg_tup hc (pgs_cons (pg_name hN hi hx hf) (pgs_cons (pg_name hN hj hy hf2) (pgs_cons (pg_name hN hk hz hf3) (pgs_cons (pg_name hN hl hww hf4) pgs_nil))))) hs hw) (h HB σ H E _ fun v H1 e1 g1 => by
    cases g1 with
    | @tup a us _ a1 b1 =>
      obtain ⟨v1, v2, v3, v4, rfl, h1, h2, h3, h4⟩ := da_four b1
      exact ⟨a, [v1, v2, v3, v4], rfl, a1, rfl, v1, _, rfl, v2, _, rfl, v3, _, rfl, v4, _, rfl, rfl, P.nx _ H1 _ (Rel.same e1) (((((E.ext e1).set h1 i).set h2 j).set h3 k).set h4 l) hr⟩)
/-- x += e (ints) -/
theorem ds_aug {n m : Int} (i : Nat) (hN : X.N.Nodup) (h0 : st.at i = some (.int n)) (h : DE X e st (.int m)) (hr : R.nx (st.set i (.int (n + m)))) (hi : X.N[i]? = some x := by rfl) (hx : Loc X.env.scope x := by first | exact .inl rfl | exact .inr rfl) (hf : X.fn x = true ∨ X.env.scope.names.lookup x = some .local := by first | exact .inl rfl | exact .inr rfl) :
    DS M X (.AugAssign (.Name x px) .Add e pos) st R := fun HB σ H E D P => by
  obtain ⟨v, h1, h2⟩ := E.get h0
  cases h2
  exact wpS_of (ps_aug hN hi hx pe_wp ip_add hf) ⟨_, h1, h HB σ H E _ fun u H2 e2 g => by cases g; exact ⟨n, m, rfl, rfl, P.nx _ H2 _ (Rel.same e2) ((E.ext e2).set (.int _) i) hr⟩⟩
/-! loops -/
theorem ds_while (I : Nat → DSt → Prop) (m0 : Nat) (h0 : I m0 st) (turn : ∀ m st', I m st' → ∃ z, DT X c st' z ∧ (z = true → DSs M X ss st' { R with nx := fun st2 => ∃ m', m' < m ∧ I m' st2, ct := fun st2 => ∃ m', m' < m ∧ I m' st2, bk := R.nx }) ∧ (z = false → R.nx st'))
    (hp : PassesOwn (model X.prog X.w) X.A X.env X.xe := by exact PassesOwn.never) : DS M X (.While c ss [] pos) st R := fun HB σ H E D P =>
  wpS_of (ps_while hp pt_wp pss_wp) ⟨fun m σ' H' => Rel M H H' ∧ ∃ st', EnvS X.K HB H' σ' st' ∧ I m st', ⟨m0, Rel.refl H, st, E, h0⟩, fun m σ' H' ⟨r, st', E', hI⟩ => by
    obtain ⟨z, ht, h1, h2⟩ := turn m st' hI
    refine ht HB σ' H' E' _ fun H2 e2 => ?_
    cases z with
    | true =>
      rw [if_pos rfl]
      refine ⟨fun σ3 H3 => ∃ m', m' < m ∧ Rel M H H3 ∧ ∃ st3, EnvS X.K HB H3 σ3 st3 ∧ I m' st3, fun σ3 H3 ⟨m', l, q⟩ => ⟨m', l, q⟩, h1 rfl HB σ' H2 (E'.ext e2) _ ⟨fun σ3 H3 st3 r3 E3 ⟨m', l, q⟩ => ⟨m', l, (r.trans (Rel.same e2)).trans r3, st3, E3, q⟩, fun σ3 H3 st3 r3 E3 q => P.nx σ3 H3 st3 ((r.trans (Rel.same e2)).trans r3) E3 q, fun σ3 H3 st3 r3 E3 ⟨m', l, q⟩ => ⟨m', l, (r.trans (Rel.same e2)).trans r3, st3, E3, q⟩, fun v H3 d r3 => P.rt v H3 d ((r.trans (Rel.same e2)).trans r3)⟩⟩
    | false =>
      rw [if_neg Bool.false_ne_true]
      exact P.nx σ' H2 st' (r.trans (Rel.same e2)) (E'.ext e2) (h2 rfl)⟩
theorem ds_for {xs : List PyData} {iter : Expr} (j : Nat) (hN : X.N.Nodup) (hi : ID M X (.Name y py) iter st xs) (I : Nat → DSt → Prop) (h0 : I 0 st)
    (turn : ∀ i d st', xs[i]? = some d → I i st' → DSs M X ss (st'.set j d) { R with nx := I (i + 1), ct := I (i + 1), bk := R.nx }) (fin : ∀ st', I xs.length st' → R.nx st')
    (hj : X.N[j]? = some y := by rfl) (hy : Loc X.env.scope y := by first | exact .inl rfl | exact .inr rfl) (hf : X.fn y = true ∨ X.env.scope.names.lookup y = some .local := by first | exact .inl rfl | exact .inr rfl)
    (hc : X.calm = true := by rfl) (hp : PassesOwn (model X.prog X.w) X.A X.env X.xe := by exact PassesOwn.never) (hs : ∀ x, foldedSetIterable iter X.env x = pure x := by intro _; rfl) : DS M X (.For (.Name y py) iter ss [] pos) st R := fun HB σ H E D P => by
  obtain ⟨wi, hpi, hwi⟩ := hi HB σ H E
  refine wpS_of (ps_for hp hc hpi (pg_name hN hj hy hf) pss_wp hs) (hwi _ fun J H1 e1 ok => ?_)
  refine ⟨fun i m σ' H' => m = xs.length - i ∧ i ≤ xs.length ∧ Rel M H1 H' ∧ ∃ st', EnvS X.K HB H' σ' st' ∧ I i st', ⟨xs.length, rfl, Nat.zero_le _, Rel.refl H1, st, E.ext e1, h0⟩, ?_⟩
  rintro i m σ' H' ⟨rfl, hi, r, st', E', hI⟩
  by_cases hlt : i < xs.length
  · refine .inr ⟨ok.go i H' r hlt, fun σ2 H2 => Rel M H1 H2 ∧ ∃ st2, EnvS X.K HB H2 σ2 st2 ∧ I (i + 1) st2, fun σ2 H2 q => ⟨xs.length - (i + 1), by omega, rfl, hlt, q⟩, fun x H2 y => ?_⟩
    obtain ⟨s2, dx⟩ := ok.yld i H' x H2 r y _ (List.getElem?_eq_getElem hlt)
    have r2 : Rel M H1 H2 := r.trans (Rel.same s2)
    exact turn i _ st' (List.getElem?_eq_getElem hlt) hI HB _ H2 ((E'.ext s2).set dx j) _ ⟨fun σ3 H3 st3 r3 E3 q => ⟨r2.trans r3, st3, E3, q⟩, fun σ3 H3 st3 r3 E3 q => P.nx σ3 H3 st3 ((Rel.same e1).trans (r2.trans r3)) E3 q, fun σ3 H3 st3 r3 E3 q => ⟨r2.trans r3, st3, E3, q⟩, fun v H3 d r3 => P.rt v H3 d ((Rel.same e1).trans (r2.trans r3))⟩
  · have e : i = xs.length := by omega
    subst e
    exact .inl ⟨ok.stop _ H' r (Nat.le_refl _), P.nx σ' H' st' ((Rel.same e1).trans r) E' (fin st' hI)⟩
theorem ds_for2 {xs : List PyData} {iter : Expr} {kt : Nat} (j k : Nat) (hN : X.N.Nodup) (hi : ID M X (.Tuple [.Name x px, .Name y py] kt pt) iter st xs) (I : Nat → DSt → Prop) (h0 : I 0 st)
    (turn : ∀ i d st', xs[i]? = some d → I i st' → ∃ d1 d2, d = .tuple [d1, d2] ∧ DSs M X ss ((st'.set j d1).set k d2) { R with nx := I (i + 1), ct := I (i + 1), bk := R.nx }) (fin : ∀ st', I xs.length st' → R.nx st')
    (hj : X.N[j]? = some x := by rfl) (hk : X.N[k]? = some y := by rfl) (hx : Loc X.env.scope x := by first | exact .inl rfl | exact .inr rfl) (hy : Loc X.env.scope y := by first | exact .inl rfl | exact .inr rfl) (hf : X.fn x = true ∨ X.env.scope.names.lookup x = some .local := by first | exact .inl rfl | exact .inr rfl) (hf2 : X.fn y = true ∨ X.env.scope.names.lookup y = some .local := by first | exact .inl rfl | exact .inr rfl)
    (hc : X.calm = true := by rfl) (hp : PassesOwn (model X.prog X.w) X.A X.env X.xe := by exact PassesOwn.never) (hs : ∀ x, foldedSetIterable iter X.env x = pure x := by intro _; rfl) : DS M X (.For (.Tuple [.Name x px, .Name y py] kt pt) iter ss [] pos) st R := fun HB σ H E D P => by
  obtain ⟨wi, hpi, hwi⟩ := hi HB σ H E
  refine wpS_of (ps_for hp hc hpi (pg_tup hc (pgs_cons (pg_name hN hj hx hf) (pgs_cons (pg_name hN hk hy hf2) pgs_nil))) pss_wp hs) (hwi _ fun J H1 e1 ok => ?_)
  refine ⟨fun i m σ' H' => m = xs.length - i ∧ i ≤ xs.length ∧ Rel M H1 H' ∧ ∃ st', EnvS X.K HB H' σ' st' ∧ I i st', ⟨xs.length, rfl, Nat.zero_le _, Rel.refl H1, st, E.ext e1, h0⟩, ?_⟩
  rintro i m σ' H' ⟨rfl, hi, r, st', E', hI⟩
  by_cases hlt : i < xs.length
  · refine .inr ⟨ok.go i H' r hlt, fun σ2 H2 => Rel M H1 H2 ∧ ∃ st2, EnvS X.K HB H2 σ2 st2 ∧ I (i + 1) st2, fun σ2 H2 q => ⟨xs.length - (i + 1), by omega, rfl, hlt, q⟩, fun x H2 y => ?_⟩
    obtain ⟨s2, dx⟩ := ok.yld i H' x H2 r y _ (List.getElem?_eq_getElem hlt)
    have r2 : Rel M H1 H2 := r.trans (Rel.same s2)
    obtain ⟨d1, d2, ed, ht⟩ := turn i _ st' (List.getElem?_eq_getElem hlt) hI
    rw [ed] at dx
    cases dx with
    | @tup a us _ a1 b1 =>
      obtain ⟨v1, v2, rfl, h1, h2⟩ := da_two b1
      exact ⟨a, [v1, v2], rfl, a1, rfl, v1, [v2], rfl, v2, [], rfl, rfl, ht HB _ H2 (((E'.ext s2).set h1 j).set h2 k) _ ⟨fun σ3 H3 st3 r3 E3 q => ⟨r2.trans r3, st3, E3, q⟩, fun σ3 H3 st3 r3 E3 q => P.nx σ3 H3 st3 ((Rel.same e1).trans (r2.trans r3)) E3 q, fun σ3 H3 st3 r3 E3 q => ⟨r2.trans r3, st3, E3, q⟩, fun v H3 d r3 => P.rt v H3 d ((Rel.same e1).trans (r2.trans r3))⟩⟩
  · have e : i = xs.length := by omega
    subst e
    exact .inl ⟨ok.stop _ H' r (Nat.le_refl _), P.nx σ' H' st' ((Rel.same e1).trans r) E' (fin st' hI)⟩
end
/-! the def's own list changed: all else that is known has no lists -/
def DSt.fz (st : DSt) : Bool := st.im.all (fun o => match o with | some d => frozen d | none => true) && (match st.ow with | some (_, xs) => frozenAll xs | none => true)
theorem frozenAll_app : ∀ {xs : List PyData} {d : PyData}, frozenAll xs = true → frozen d = true → frozenAll (xs ++ [d]) = true
  | [], d, _, h => by simp [frozenAll, h]
  | x :: xs, d, h, h' => by
    have h2 : frozen x = true ∧ frozenAll xs = true := by simpa [frozenAll] using h
    show frozenAll (x :: (xs ++ [d])) = true
    simp [frozenAll, h2.1, frozenAll_app h2.2 h']
theorem EnvS.mut {K : PySem.W.Frag} {HB H : Hp} {σ : L2.St} {st : DSt} {i : Nat} {xs ys : List PyData} {l : Addr} {vs us : List V} (E : EnvS K HB H σ st) (f : st.fz = true) (ho : st.ow = some (i, xs)) (hs : σ[i]? = some (some (.ref l))) (hl : H l = some (.lst vs)) (hn : HB l = none) (hd : DaAll K H us ys) (fy : frozenAll ys = true) :
    EnvS K HB (upd H l (.lst us)) σ ⟨st.im, some (i, ys)⟩ ∧ Tst H (upd H l (.lst us)) := by
  have t : Tst H (upd H l (.lst us)) := fun b o hb n => by
    have : b ≠ l := fun e => by subst e; rw [hl] at hb; cases hb; exact n vs rfl
    rw [upd_ne this]; exact hb
  refine ⟨⟨fun b o hb => ?_, fun j d e => ?_, fun j zs e => ?_, E.len⟩, t⟩
  · rw [upd_ne (ne_of_none hb hn)]
    exact E.ex _ _ hb
  · obtain ⟨v, h1, h2⟩ := E.im j d e
    refine ⟨v, h1, da_tst t _ _ ?_ h2⟩
    have f1 : st.im.all (fun o => match o with | some d => frozen d | none => true) = true := by
      unfold DSt.fz at f
      exact (Bool.and_eq_true_iff.mp f).1
    exact List.all_eq_true.mp f1 (some d) (List.mem_of_getElem? e)
  · have e' : some (i, ys) = some (j, zs) := e
    cases e'
    exact ⟨l, us, hs, upd_same, daAll_tst t _ _ fy hd, hn⟩
section
variable {X : Cx} {st : DSt} {R : RD} {a b c e : Expr} {pos px py pt p cpos apos : Pos} {d d1 d2 : PyData} {xs : List PyData} {x y : Str}
theorem own_get {K : PySem.W.Frag} {HB H : Hp} {σ : L2.St} {i : Nat} (E : EnvS K HB H σ st) (ho : st.ow = some (i, xs)) : ∃ l vs, σ[i]? = some (some (.ref l)) ∧ H l = some (.lst vs) ∧ DaAll K H vs xs ∧ HB l = none := E.ow i xs ho
/-- x.append(e) -/
theorem ds_app (i : Nat) (ho : st.ow = some (i, xs)) (hf : st.fz = true) (h : DE X e st d) (fd : frozen d = true) (hz : xs.length < 50000) (hr : R.nx ⟨st.im, some (i, xs ++ [d])⟩) (hN : X.N[i]? = some x := by rfl) (hv : Vis X.env.scope x := by first | exact Or.inl rfl | exact Or.inr (Or.inl rfl) | exact Or.inr (Or.inr rfl))
    (hd : (x == ("__debug__" : Str)) = false := by decide) (hcd : (x == ("__classdict__" : Str)) = false := by decide) (hbase : attributeBase (.Name x p) "append" X.env (eval (.Name x p) X.env) = eval (.Name x p) X.env := by rfl)
    (hfew : ((backTo cpos (starEach [e] X.env)).all (fun x => !x.1) && (backToKw cpos (keywordEach [] X.env)).all (fun x => x.1.isSome) && decide ([e].length + ([] : List Keyword).length + (if ([] : List Keyword).isEmpty then 0 else 1) < 30)) = true := by rfl)
    (hline : (apos.endLine == cpos.line) = true := by rfl) (hse : starEach [e] X.env = (false, eval e X.env) :: starEach [] X.env := by rfl) (hplain : (backTo cpos (starEach [] X.env)).any (·.1) = false := by rfl)
    (hs : swapsWith (.Call (.Attribute (.Name x p) "append" apos) [e] [] cpos) none pos.line X.env = pure false := by rfl) :
    DS true X (.Expr (.Call (.Attribute (.Name x p) "append" apos) [e] [] cpos) pos) st R := fun HB σ H E D P => by
  obtain ⟨l, vs, h1, h2, h3, h4⟩ := E.ow i xs ho
  refine wpS_of (ps_expr (pe_bm PySem.F.plainAttrs_list PySem.F.slot_list_append PySem.F.type_list_append mt_append (pv i hN hv hd hcd) (pa_cons pe_wp pa_nil hse) hbase hfew hline hse hplain) hs) ?_
  refine ⟨.ref l, h1, .inl ⟨rfl, _, .inl (.inl h2)⟩, h HB σ H E _ fun v H2 e2 g => ?_⟩
  have E2 := E.ext e2
  have l3 := daAll_len h3
  refine ⟨l, vs, v, rfl, rfl, e2 _ _ h2, by rw [l3]; exact szl (by omega), ?_⟩
  have fx : frozenAll xs = true := by
    unfold DSt.fz at hf
    have := (Bool.and_eq_true_iff.mp hf).2
    rw [ho] at this
    exact this
  obtain ⟨E3, t⟩ := E2.mut hf ho h1 (e2 _ _ h2) h4 (daAll_snoc (daAll_mono e2 _ _ h3) g) (frozenAll_app fx fd)
  exact P.nx σ _ _ (Rel.trans (Rel.same e2) t) E3 hr
/-- x[a] = e -/
theorem frozenAll_set : ∀ {xs : List PyData} {d : PyData} (k : Nat), frozenAll xs = true → frozen d = true → frozenAll (xs.set k d) = true
  | [], _, _, _, _ => rfl
  | x :: xs, d, 0, h, h' => by
    have h2 : frozen x = true ∧ frozenAll xs = true := by simpa [frozenAll] using h
    simp [frozenAll, h', h2.2]
  | x :: xs, d, k + 1, h, h' => by
    have h2 : frozen x = true ∧ frozenAll xs = true := by simpa [frozenAll] using h
    simp [frozenAll, h2.1, frozenAll_set k h2.2 h']
theorem own_fz {i : Nat} (hf : st.fz = true) (ho : st.ow = some (i, xs)) : frozenAll xs = true := by
  unfold DSt.fz at hf
  have := (Bool.and_eq_true_iff.mp hf).2
  rw [ho] at this
  exact this
theorem ixN_nat {n k : Nat} (h : k < n) : ixN n (k : Int) = some k := by
  unfold ixN
  rw [if_pos (Int.natCast_nonneg _), if_pos (by omega)]
  rfl
theorem ds_set1 {k : Nat} {z : Int} (i : Nat) (ho : st.ow = some (i, xs)) (hf : st.fz = true) (h : DE X e st d) (fd : frozen d = true) (ha : DE X a st (.int z)) (hz : z = (k : Int)) (hk : k < xs.length) (hr : R.nx ⟨st.im, some (i, xs.set k d)⟩) (hN : X.N[i]? = some x := by rfl) (hv : Vis X.env.scope x := by first | exact Or.inl rfl | exact Or.inr (Or.inl rfl) | exact Or.inr (Or.inr rfl))
    (hd : (x == ("__debug__" : Str)) = false := by decide) (hcd : (x == ("__classdict__" : Str)) = false := by decide)
    (hsub : ∀ v, assign (.Subscript (.Name x p) a pt) X.env v = (do let ov ← holding [v] (eval (.Name x p) X.env); let iv ← holding [v, ov] (eval a X.env); standAt pt; holding [v, ov, iv] (setItem ov iv v); release [v, ov, iv] []) := by intro _; rfl)
    (hs : swapsWithSole [.Subscript (.Name x p) a pt] e pos.line X.env = pure false := by rfl) (hw : swappedStores [.Subscript (.Name x p) a pt] e X.env = pure none := by rfl) (h1 : (assignEach [.Subscript (.Name x p) a pt] X.env).map (·.2) = [assign (.Subscript (.Name x p) a pt) X.env] := by rfl) :
    DS true X (.Assign [.Subscript (.Name x p) a pt] e pos) st R := fun HB σ H E D P => by
  subst hz
  obtain ⟨l, vs, g1, g2, g3, g4⟩ := E.ow i xs ho
  refine wpS_of (ps_asg pe_wp (pg_sub (pv i hN hv hd hcd) pe_wp set_list hsub) hs hw h1) (h HB σ H E _ fun v H2 e2 gv => ⟨.ref l, g1, ha HB σ H2 (E.ext e2) _ fun u H3 e3 gu => ?_⟩)
  cases gu
  have e23 := e2.trans e3
  have E3 := E.ext e23
  have l3 := daAll_len g3
  refine ⟨l, vs, _, k, rfl, rfl, e23 _ _ g2, by rw [l3]; exact ixN_nat hk, ?_⟩
  obtain ⟨E4, t⟩ := E3.mut hf ho g1 (e23 _ _ g2) g4 (daAll_set k (daAll_mono e23 _ _ g3) (da_mono e3 _ _ gv)) (frozenAll_set k (own_fz hf ho) fd)
  exact P.nx σ _ _ (Rel.trans (Rel.same e23) t) E4 hr
/-- a, b = x.pop() (the last item a pair) -/
theorem ds_pop2 {kt : Nat} {z : Str} {pz : Pos} (i j k : Nat) (hNd : X.N.Nodup) (ho : st.ow = some (i, xs ++ [.tuple [d1, d2]])) (hf : st.fz = true) (hr : R.nx (DSt.set (DSt.set ⟨st.im, some (i, xs)⟩ j d1) k d2)) (hj : X.N[j]? = some y := by rfl) (hk : X.N[k]? = some z := by rfl) (hN : X.N[i]? = some x := by rfl) (hv : Vis X.env.scope x := by first | exact Or.inl rfl | exact Or.inr (Or.inl rfl) | exact Or.inr (Or.inr rfl))
    (hd : (x == ("__debug__" : Str)) = false := by decide) (hcd : (x == ("__classdict__" : Str)) = false := by decide) (hbase : attributeBase (.Name x p) "pop" X.env (eval (.Name x p) X.env) = eval (.Name x p) X.env := by rfl) (hline : (apos.endLine == cpos.line) = true := by rfl)
    (hy : Loc X.env.scope y := by first | exact .inl rfl | exact .inr rfl) (hz : Loc X.env.scope z := by first | exact .inl rfl | exact .inr rfl) (hfy : X.fn y = true ∨ X.env.scope.names.lookup y = some .local := by first | exact .inl rfl | exact .inr rfl) (hfz : X.fn z = true ∨ X.env.scope.names.lookup z = some .local := by first | exact .inl rfl | exact .inr rfl) (hc : X.calm = true := by rfl)
    (hs : swapsWithSole [.Tuple [.Name y py, .Name z pz] kt pt] (.Call (.Attribute (.Name x p) "pop" apos) [] [] cpos) pos.line X.env = pure false := by rfl) (hw : swappedStores [.Tuple [.Name y py, .Name z pz] kt pt] (.Call (.Attribute (.Name x p) "pop" apos) [] [] cpos) X.env = pure none := by rfl) :
    DS true X (.Assign [.Tuple [.Name y py, .Name z pz] kt pt] (.Call (.Attribute (.Name x p) "pop" apos) [] [] cpos) pos) st R := fun HB σ H E D P => by
  obtain ⟨l, vs, g1, g2, g3, g4⟩ := E.ow i _ ho
  refine wpS_of (ps_asg (pe_bm0 PySem.F.plainAttrs_list PySem.F.slot_list_pop PySem.F.type_list_pop mt_pop (pv i hN hv hd hcd) hbase hline) (pg_tup hc (pgs_cons (pg_name hNd hj hy hfy) (pgs_cons (pg_name hNd hk hz hfz) pgs_nil))) hs hw) ?_
  have l3 := daAll_len g3
  have hlast : (xs ++ [PyData.tuple [d1, d2]])[vs.length - 1]? = some (.tuple [d1, d2]) := by
    rw [l3, List.length_append]
    simp
  obtain ⟨w, hw1, hw2⟩ := daAll_get g3 hlast
  have fx := own_fz hf ho
  refine ⟨.ref l, g1, .inl ⟨rfl, _, .inl (.inl g2)⟩, l, vs, w, rfl, rfl, g2, hw1, ?_⟩
  have dl : DaAll X.K H vs.dropLast xs := by
    have q := daAll_take (vs.length - 1) g3
    rw [← List.dropLast_eq_take] at q
    have e : (xs ++ [PyData.tuple [d1, d2]]).take (vs.length - 1) = xs := by
      rw [l3, List.length_append]
      simp
    rw [e] at q
    exact q
  have fxs : frozenAll xs = true ∧ frozen (.tuple [d1, d2]) = true := by
    clear hw hs hr hf ho g3 hlast dl hw1 l3
    induction xs with
    | nil => simpa [frozenAll] using fx
    | cons x xs ih =>
      have h2 : frozen x = true ∧ frozenAll (xs ++ [PyData.tuple [d1, d2]]) = true := by simpa [frozenAll] using fx
      have := ih h2.2
      exact ⟨by simp [frozenAll, h2.1, this.1], this.2⟩
  obtain ⟨E4, t⟩ := E.mut hf ho g1 g2 g4 dl fxs.1
  have hw3 := da_tst t _ _ fxs.2 hw2
  cases hw3 with
  | @tup a us _ a1 b1 =>
    obtain ⟨v1, v2, rfl, h1, h2⟩ := da_two b1
    exact ⟨a, [v1, v2], rfl, a1, rfl, v1, [v2], rfl, v2, [], rfl, rfl, P.nx _ _ _ t ((E4.set h1 j).set h2 k) hr⟩
end
/-! ### a def keeps its promise -/
def startD (N : List Str) (ds : List PyData) : DSt := ⟨ds.map some ++ List.replicate (N.length - ds.length) none, none⟩
/-- the def st stands at the module's name x -/
def DefAt (K : PySem.W.Frag) (mg : Str → Option Value) (x : Str) (st : Stmt) (dvs : List V) : Prop := ∃ (f : Addr) (fd : FuncData), FunD K x x (defArgs st) (defBody st) (defScope st) dvs [] f fd ∧ mg x = some (.ref f)
/-- the context of its body -/
abbrev BX (P : Program) (w : World) (K : PySem.W.Frag) (mg : Str → Option Value) (base : Heap) (N : List Str) (x : Str) (sc : Scope) (f : Addr) (cdv : Value) (A : Around) (outer : List Env) (s : Shared) (H : Hp) (E : XK) : Cx := (cxOf CX0 P w K mg base N x sc f cdv A outer s H E).nox
theorem env_start {K : PySem.W.Frag} {H : Hp} {N : List Str} {vs : List V} {ds : List PyData} (h : DaAll K H vs ds) : EnvS K H H (L2.start N vs) (startD N ds) where
  ex := Same.refl H
  im := fun i d e => by
    have hl := daAll_len h
    have e' : (ds.map some ++ List.replicate (N.length - ds.length) none)[i]? = some (some d) := e
    by_cases hi : i < ds.length
    · rw [List.getElem?_append_left (by simpa using hi), List.getElem?_map] at e'
      rw [List.getElem?_eq_getElem hi] at e'
      cases e'
      obtain ⟨v, h1, h2⟩ := daAll_get h (List.getElem?_eq_getElem hi)
      refine ⟨v, ?_, h2⟩
      unfold L2.start
      rw [List.getElem?_append_left (by simpa [hl] using hi), List.getElem?_map, h1]
      rfl
    · rw [List.getElem?_append_right (by simp; omega), List.getElem?_replicate] at e'
      split at e' <;> cases e'
  ow := fun i xs e => by cases e
  len := by
    show (ds.map some ++ List.replicate (N.length - ds.length) none).length = (vs.map some ++ List.replicate (N.length - vs.length) none).length
    simp [daAll_len h]
theorem fn_pu {P : Program} {w : World} {K : PySem.W.Frag} {mg : Str → Option Value} {base : Heap} {M : Bool} {x : Str} {st : Stmt} {dvs : List V} {N ps : List Str} {k : Nat} {A : List PyData → PyData → Prop} {f : Addr} {fd : FuncData} (F : FunD K x x (defArgs st) (defBody st) (defScope st) dvs [] f fd) (S : FnScope N ps (defScope st)) (hlen : ∀ ds d, A ds d → ds.length = ps.length)
    (body : ∀ (cdv : Value) (Ar : Around) (outer : List Env) (s : Shared) (H : Hp) (E : XK) (ds : List PyData) (d : PyData), Room k (Ar.deeper (envOfC x (defScope st) s.heap.objs.size f cdv)) → A ds d → DSs M (BX P w K mg base N x (defScope st) f cdv Ar outer s H E) (defBody st) (startD N ds) { nx := fun _ => d = .none, rt := fun d' => d' = d }) :
    FnOk P w K mg base CX0 (k + 1) f fd ps (Pu K A) := by
  refine F.ok S (fun vs H Q E h => ?_) (fun cdv Ar outer s H vs Q E hr h => ?_)
  · obtain ⟨ds, d, h1, h2, _⟩ := h
    rw [daAll_len h1, hlen _ _ h2]
  · obtain ⟨ds, d, h1, h2, h3⟩ := h
    refine ⟨_, PSs.nox pss_wp, body cdv Ar outer s H E ds d hr h2 H _ H (env_start h1) _ ⟨fun σ' H' st' r E' q => ?_, fun _ _ _ _ _ z => z.elim, fun _ _ _ _ _ z => z.elim, fun v H' d' r sm g q => ?_⟩⟩
    · subst q
      exact h3 .non H' E'.ex .non
    · subst q
      exact h3 v H' sm g
theorem good_of {P : Program} {w : World} {K : PySem.W.Frag} {mg : Str → Option Value} {base : Heap} (M : Bool) {x : Str} {st : Stmt} {N ps : List Str} {k : Nat} {A : List PyData → PyData → Prop} (F : DefAt K mg x st []) (S : FnScope N ps (defScope st)) (hlen : ∀ ds d, A ds d → ds.length = ps.length)
    (hb : ∀ (kV doc pm : Value) (an : Option Addr) (cdv ct : Value) (us : List Value), us.length = ps.length → bindArgs (PySem.W.fnOf x x (defArgs st) (defBody st) (defScope st) .none kV doc pm an cdv ct) ⟨us, []⟩ = pure (ps.zip us))
    (body : ∀ (f : Addr) (cdv : Value) (Ar : Around) (outer : List Env) (s : Shared) (H : Hp) (E : XK) (ds : List PyData) (d : PyData), Room k (Ar.deeper (envOfC x (defScope st) s.heap.objs.size f cdv)) → A ds d → DSs M (BX P w K mg base N x (defScope st) f cdv Ar outer s H E) (defBody st) (startD N ds) { nx := fun _ => d = .none, rt := fun d' => d' = d }) :
    Good P w K mg base x [] (k + 1) A := by
  obtain ⟨f, fd, F, hm⟩ := F
  exact ⟨f, fd, ps, [], [], fn_pu F S hlen (body f), hm, F.kp, F.bindsN hb, .nil, .nil⟩
end Wb
/-! ## Fw5 -/
set_option maxHeartbeats 4000000
namespace Wb
open PySem PySem.Spec PyProof.Rows L2
section
variable {M : Bool} {X : Cx} {st : DSt} {R : RD} {elt iter c e a b : Expr} {scope : Scope} {pos py px pt p : Pos} {xs out ds : List PyData} {x y y2 : Str} {d d1 d2 : PyData}
theorem _root_.Wb.OpD.to {f : Value → Value → Sem Value} {d' : PyData} (h : OpD X f d1 d2 d) (e : d = d') : OpD X f d1 d2 d' := e ▸ h
theorem _root_.Wb.CallD.to {f : Value} {d' : PyData} (h : CallD X f ds d) (e : d = d') : CallD X f ds d' := e ▸ h
theorem _root_.Wb.DE.to {d' : PyData} (h : DE X e st d) (q : d = d') : DE X e st d' := q ▸ h
theorem _root_.Wb.DL.to {ds' : List PyData} (h : DL X e st ds) (q : ds = ds') : DL X e st ds' := q ▸ h
theorem _root_.Wb.DT.to {z z' : Bool} (h : DT X e st z) (q : z = z') : DT X e st z' := q ▸ h
theorem mem1 {y : Str} {j : Nat} : j ∈ [(y, j)].map (·.2) := List.mem_singleton.mpr rfl
theorem un1 {y : Str} {j : Nat} (h : st.at j = none) : ∀ i ∈ [(y, j)].map (·.2), st.at i = none := fun i hi => by
  have e : i = j := List.mem_singleton.mp hi
  rw [e]; exact h
theorem un2 {y y2 : Str} {j j2 : Nat} (h : st.at j = none) (h2 : st.at j2 = none) : ∀ i ∈ [(y, j), (y2, j2)].map (·.2), st.at i = none := fun i hi => by
  have e : i = j ∨ i = j2 := by simpa using hi
  rcases e with e | e
  · rw [e]; exact h
  · rw [e]; exact h2
/-- [elt for y in iter], y in slot j -/
theorem lc1 (j : Nat) (hN : X.N.Nodup) (hi : ID false X (.Name y py) iter st xs) (hlen : out.length = xs.length) (hsz : xs.length ≤ 50000)
    (he : ∀ (i : Nat) d o, xs[i]? = some d → out[i]? = some o → frozen o = true ∧ ∀ s H C cl fp, DE (BlkX X scope s H C cl fp) elt (st.set j d) o) (ok : BlkOk X.N X.env.scope scope [(y, j)] := by exact blkOk_by (by kernel_rfl)) (hu : st.at j = none := by rfl)
    (hx : X.N[j]? = some y := by rfl) (hv : ∀ s H C cl fp, Loc (BlkX X scope s H C cl fp).env.scope y := by intros; first | exact .inl rfl | exact .inr rfl) (hf : ∀ s H C cl fp, (BlkX X scope s H C cl fp).fn y = true ∨ (BlkX X scope s H C cl fp).env.scope.names.lookup y = some .local := by intros; first | exact .inr rfl | exact .inl rfl)
    (hc : X.calm = true := by rfl) (hs : ∀ x, foldedSetIterable iter X.env x = pure x := by intro _; rfl) : DL X (.ListComp elt [⟨.Name y py, iter, [], 0⟩] scope pos) st out :=
  dl_lc j hi ok hN mem1 (un1 hu) hsz hlen he (fun s H C cl fp => pg_name hN hx (hv s H C cl fp) (hf s H C cl fp)) hc hs
theorem lcL1 {outs : List (List PyData)} (j : Nat) (hN : X.N.Nodup) (hi : ID false X (.Name y py) iter st xs) (hlen : outs.length = xs.length) (hsz : xs.length ≤ 50000)
    (he : ∀ (i : Nat) d o, xs[i]? = some d → outs[i]? = some o → frozenAll o = true ∧ ∀ s H C cl fp, DL (BlkX X scope s H C cl fp) elt (st.set j d) o) (ok : BlkOk X.N X.env.scope scope [(y, j)] := by exact blkOk_by (by kernel_rfl)) (hu : st.at j = none := by rfl)
    (hx : X.N[j]? = some y := by rfl) (hv : ∀ s H C cl fp, Loc (BlkX X scope s H C cl fp).env.scope y := by intros; first | exact .inl rfl | exact .inr rfl) (hf : ∀ s H C cl fp, (BlkX X scope s H C cl fp).fn y = true ∨ (BlkX X scope s H C cl fp).env.scope.names.lookup y = some .local := by intros; first | exact .inr rfl | exact .inl rfl)
    (hc : X.calm = true := by rfl) (hs : ∀ x, foldedSetIterable iter X.env x = pure x := by intro _; rfl) : DL X (.ListComp elt [⟨.Name y py, iter, [], 0⟩] scope pos) st (outs.map .list) :=
  dl_lcL j hi ok hN mem1 (un1 hu) hsz hlen he (fun s H C cl fp => pg_name hN hx (hv s H C cl fp) (hf s H C cl fp)) hc hs
theorem lcf1 (j : Nat) (keep : Nat → Bool) (gg : Nat → PyData) (hN : X.N.Nodup) (hi : ID false X (.Name y py) iter st xs) (hsz : xs.length ≤ 50000)
    (ht : ∀ (i : Nat) d, xs[i]? = some d → ∀ s H C cl fp, DT (BlkX X scope s H C cl fp) c (st.set j d) (keep i))
    (he : ∀ (i : Nat) d, xs[i]? = some d → keep i = true → frozen (gg i) = true ∧ ∀ s H C cl fp, DE (BlkX X scope s H C cl fp) elt (st.set j d) (gg i)) (ok : BlkOk X.N X.env.scope scope [(y, j)] := by exact blkOk_by (by kernel_rfl)) (hu : st.at j = none := by rfl)
    (hx : X.N[j]? = some y := by rfl) (hv : ∀ s H C cl fp, Loc (BlkX X scope s H C cl fp).env.scope y := by intros; first | exact .inl rfl | exact .inr rfl) (hf : ∀ s H C cl fp, (BlkX X scope s H C cl fp).fn y = true ∨ (BlkX X scope s H C cl fp).env.scope.names.lookup y = some .local := by intros; first | exact .inr rfl | exact .inl rfl)
    (hc : X.calm = true := by rfl) (hs : ∀ x, foldedSetIterable iter X.env x = pure x := by intro _; rfl) : DL X (.ListComp elt [⟨.Name y py, iter, [c], 0⟩] scope pos) st (kept keep gg xs.length) :=
  dl_lcf j keep gg hi ok hN mem1 (un1 hu) hsz ht he (fun s H C cl fp => pg_name hN hx (hv s H C cl fp) (hf s H C cl fp)) hc hs
theorem lc2 {py2 : Pos} {kt : Nat} (j j2 : Nat) (hN : X.N.Nodup) (hi : ID false X (.Tuple [.Name y py, .Name y2 py2] kt pt) iter st xs) (hlen : out.length = xs.length) (hsz : xs.length ≤ 50000)
    (he : ∀ (i : Nat) d o, xs[i]? = some d → out[i]? = some o → frozen o = true ∧ ∃ d1 d2, d = .tuple [d1, d2] ∧ ∀ s H C cl fp, DE (BlkX X scope s H C cl fp) elt ((st.set j d1).set j2 d2) o) (ok : BlkOk X.N X.env.scope scope [(y, j), (y2, j2)] := by exact blkOk_by (by kernel_rfl)) (hu : st.at j = none := by rfl) (hu2 : st.at j2 = none := by rfl)
    (hx : X.N[j]? = some y := by rfl) (hx2 : X.N[j2]? = some y2 := by rfl) (hv : ∀ s H C cl fp, Loc (BlkX X scope s H C cl fp).env.scope y := by intros; first | exact .inl rfl | exact .inr rfl) (hv2 : ∀ s H C cl fp, Loc (BlkX X scope s H C cl fp).env.scope y2 := by intros; first | exact .inl rfl | exact .inr rfl)
    (hf : ∀ s H C cl fp, (BlkX X scope s H C cl fp).fn y = true ∨ (BlkX X scope s H C cl fp).env.scope.names.lookup y = some .local := by intros; first | exact .inr rfl | exact .inl rfl) (hf2 : ∀ s H C cl fp, (BlkX X scope s H C cl fp).fn y2 = true ∨ (BlkX X scope s H C cl fp).env.scope.names.lookup y2 = some .local := by intros; first | exact .inr rfl | exact .inl rfl)
    (hc : X.calm = true := by rfl) (hs : ∀ x, foldedSetIterable iter X.env x = pure x := by intro _; rfl) (htn : ∀ s H C cl fp, (assignEach [.Name y py, .Name y2 py2] (BlkX X scope s H C cl fp).env).length = 2 := by intros; rfl) (hst : ∀ s H C cl fp, (assignEach [.Name y py, .Name y2 py2] (BlkX X scope s H C cl fp).env).findIdx? (·.1) = none := by intros; rfl) :
    DL X (.ListComp elt [⟨.Tuple [.Name y py, .Name y2 py2] kt pt, iter, [], 0⟩] scope pos) st out :=
  dl_lc2 j j2 hi ok hN (by simp) (by simp) (un2 hu hu2) hsz hlen he (fun s H C cl fp => pg_tup hc (pgs_cons (pg_name hN hx (hv s H C cl fp) (hf s H C cl fp)) (pgs_cons (pg_name hN hx2 (hv2 s H C cl fp) (hf2 s H C cl fp)) pgs_nil)) (htn s H C cl fp) (hst s H C cl fp)) hc hs
end
theorem room65 {k : Nat} {A : Around} (r : Room k A) : A.units + 65 < cLine := by have := r.un; omega
theorem room64 {k : Nat} {A : Around} (r : Room k A) : A.units + 64 < cLine := by have := r.un; omega
theorem room0 {k : Nat} {A : Around} (r : Room k A) : A.units < cLine := by have := r.un; omega
/-! ### items of lists -/
theorem map_get {α β : Type} {f : α → β} {l : List α} {i : Nat} {d : β} (h : (l.map f)[i]? = some d) : ∃ a, l[i]? = some a ∧ d = f a ∧ a ∈ l := by
  rw [List.getElem?_map] at h
  cases e : l[i]? with
  | none => rw [e] at h; cases h
  | some a =>
    rw [e] at h
    cases h
    exact ⟨a, rfl, rfl, List.mem_of_getElem? e⟩
theorem rep_get {α : Type} {a d : α} {n i : Nat} (h : (List.replicate n a)[i]? = some d) : d = a := by
  rw [List.getElem?_replicate] at h
  split at h <;> cases h
  rfl
theorem range_get {β : Type} {f : Nat → β} {n i : Nat} {d : β} (h : ((List.range n).map f)[i]? = some d) : i < n ∧ d = f i := by
  obtain ⟨a, h1, h2, _⟩ := map_get h
  obtain ⟨q1, q2⟩ := List.getElem?_eq_some_iff.mp h1
  rw [List.getElem_range] at q2
  subst q2
  exact ⟨by simpa using q1, h2⟩
end Wb
/-! ## Tx -/
set_option maxHeartbeats 4000000
namespace Wb
open PySem PySem.Spec PyProof.Rows L2
def top (i : Nat) : Stmt := PySem.Challenge.pw_pointsenough_k18_whole_webs.main.body.getD i (.Pass ⟨0, 0, 0, 0⟩)
abbrev s_is_integer : Stmt := top 10
abbrev s_is_from : Stmt := top 11
abbrev s_raised : Stmt := top 12
abbrev s_passes : Stmt := top 13
abbrev s_is_prime : Stmt := top 14
abbrev s_need_prime : Stmt := top 15
abbrev s_is_number : Stmt := top 16
abbrev s_need_number : Stmt := top 17
abbrev s_are_numbers : Stmt := top 18
abbrev s_common : Stmt := top 20
abbrev s_share : Stmt := top 21
abbrev s_multiplied : Stmt := top 22
abbrev s_lacking : Stmt := top 23
abbrev s_missing : Stmt := top 24
abbrev s_names_in : Stmt := top 28
abbrev s_is_plain_table : Stmt := top 29
abbrev s_bits_of : Stmt := top 30
abbrev s_half : Stmt := top 31
abbrev s_spread_at : Stmt := top 32
abbrev s_is_place : Stmt := top 37
abbrev s_is_leaf : Stmt := top 38
abbrev s_is_plain_rule : Stmt := top 39
abbrev s_place_at : Stmt := top 40
abbrev s_value_at : Stmt := top 41
abbrev s_told_degrees : Stmt := top 42
abbrev s_values_of : Stmt := top 43
abbrev s_joined_by : Stmt := top 44
abbrev s_is_web : Stmt := top 46
abbrev s_need_web : Stmt := top 47
abbrev s_bits_in : Stmt := top 48
abbrev s_ties_of : Stmt := top 49
abbrev s_ties_table : Stmt := top 50
abbrev s_need_length : Stmt := top 51
abbrev s_places_of_knot : Stmt := top 52
abbrev s_walks_rule : Stmt := top 53
abbrev s_sum_of_walks : Stmt := top 54
abbrev s_walks_sum : Stmt := top 55
abbrev s_triangles_sum : Stmt := top 56
abbrev s_count_walks : Stmt := top 57
abbrev s_walks : Stmt := top 58
abbrev s_triangles : Stmt := top 59
abbrev s_is_sum : Stmt := top 62
abbrev s_need_sum : Stmt := top 63
abbrev s_is_so : Stmt := top 64
abbrev s_places_of : Stmt := top 65
abbrev s_loss : Stmt := top 66
abbrev s_l_threes : Stmt := top 68
abbrev s_l_ties : Stmt := top 69
abbrev s_l_taken : Stmt := top 70
abbrev s_l_pick : Stmt := top 71
abbrev s_l_alike : Stmt := top 72
abbrev s_l_prime : Stmt := top 73
abbrev s_l_number : Stmt := top 74
abbrev s_l_lowered : Stmt := top 75
abbrev s_l_missing : Stmt := top 76
abbrev s_l_names : Stmt := top 77
abbrev s_l_web : Stmt := top 78
abbrev s_law : Stmt := top 79
/-- the built-ins' names are free -/
structure Blt (mg : Str → Option Value) : Prop where
  isi : mg "isinstance" = none
  int : mg "int" = none
  bool : mg "bool" = none
  tuple : mg "tuple" = none
  str : mg "str" = none
  list : mg "list" = none
  dict : mg "dict" = none
  len : mg "len" = none
  range : mg "range" = none
  all : mg "all" = none
  any : mg "any" = none
  sum : mg "sum" = none
  abs : mg "abs" = none
  zip : mg "zip" = none
  min : mg "min" = none
/-- the module's constants -/
structure Cst (K : PySem.W.Frag) (mg : Str → Option Value) : Prop where
  prime : ∃ t, mg "MOST_PRIME" = some (.int 2147483647 t)
  entries : ∃ t, mg "MOST_ENTRIES" = some (.int 1024 t)
  names : ∃ t, mg "MOST_NAMES" = some (.int 10 t)
  words : ∃ t, mg "MOST_WORDS" = some (.int 2000 t)
  depth : ∃ t, mg "MOST_DEPTH" = some (.int 400 t)
  degree : ∃ t, mg "MOST_DEGREE" = some (.int 30 t)
  bases : ∃ a, mg "BASES" = some (.ref a) ∧ ∀ H, Da K H (.ref a) (.tuple [.int 2, .int 3, .int 5, .int 7])
  joins : ∃ a, mg "JOINS" = some (.ref a) ∧ ∀ H, Da K H (.ref a) (.tuple [.str "plus", .str "minus", .str "times"])
end Wb
/-! ## D1 -/
set_option maxHeartbeats 4000000
namespace Wb
open PySem PySem.Spec PyProof.Rows L2
theorem k_int_int : kitB "int" "int" = some true := by decide +kernel
theorem k_int_bool : kitB "int" "bool" = some false := by decide +kernel
theorem k_int_str : kitB "int" "str" = some false := by decide +kernel
theorem k_int_tuple : kitB "int" "tuple" = some false := by decide +kernel
theorem k_int_list : kitB "int" "list" = some false := by decide +kernel
theorem k_int_dict : kitB "int" "dict" = some false := by decide +kernel
theorem k_str_str : kitB "str" "str" = some true := by decide +kernel
theorem k_str_tuple : kitB "str" "tuple" = some false := by decide +kernel
theorem k_str_list : kitB "str" "list" = some false := by decide +kernel
theorem k_str_dict : kitB "str" "dict" = some false := by decide +kernel
theorem k_tuple_tuple : kitB "tuple" "tuple" = some true := by decide +kernel
theorem k_tuple_list : kitB "tuple" "list" = some false := by decide +kernel
section
variable {P : Program} {w : World} {K : PySem.W.Frag} {mg : Str → Option Value} {base : Heap}
theorem sc_is_integer : FnScope ["value"] ["value"] (defScope s_is_integer) := ⟨rfl, rfl, rfl, by decide +kernel, rfl, by decide +kernel, by decide +kernel⟩
def A_is_integer (ds : List PyData) (d : PyData) : Prop := ∃ i : Int, ds = [.int i] ∧ d = .bool true
theorem g_is_integer (F : DefAt K mg "is_integer" s_is_integer []) (B : Blt mg) : Good P w K mg base "is_integer" [] 1 A_is_integer := by
  refine good_of false F sc_is_integer (by rintro ds d ⟨i, rfl, rfl⟩; rfl) (fun _ _ _ _ _ _ us hl => match us, hl with | [_], _ => rfl) (fun f cdv Ar outer s H E ds d hr h => ?_)
  obtain ⟨i, rfl, rfl⟩ := h
  exact dss_one (ds_ret (d_and (d_isi (d := .int i) (T := "int") (d_name 0) k_int_int B.isi B.int) (fun _ => d_one (d_not (d_isi (d := .int i) (T := "bool") (d_name 0) k_int_bool B.isi B.bool)))) rfl)
theorem sc_is_from : FnScope ["value", "low", "high"] ["value", "low", "high"] (defScope s_is_from) := ⟨rfl, rfl, rfl, by decide +kernel, rfl, by decide +kernel, by decide +kernel⟩
def A_is_from (ds : List PyData) (d : PyData) : Prop := ∃ v lo hi : Int, ds = [.int v, .int lo, .int hi] ∧ d = .bool (decide (lo ≤ v) && decide (v ≤ hi))
theorem g_is_from (F : DefAt K mg "is_from" s_is_from []) (G : Good P w K mg base "is_integer" [] 1 A_is_integer) : Good P w K mg base "is_from" [] 2 A_is_from := by
  refine good_of false F sc_is_from (by rintro ds d ⟨v, lo, hi, rfl, rfl⟩; rfl) (fun _ _ _ _ _ _ us hl => match us, hl with | [_, _, _], _ => rfl) (fun f cdv Ar outer s H E ds d hr h => ?_)
  obtain ⟨v, lo, hi, rfl, rfl⟩ := h
  exact dss_one (ds_ret (d_and (d_call G hr (da_cons (d_name 0) da_nil) ⟨v, rfl, rfl⟩) (fun _ => d_one (d_chain (d_name 1) (d_name 0) (d_name 2) od_le od_le))) rfl)
theorem sc_is_number : FnScope ["p", "value"] ["p", "value"] (defScope s_is_number) := ⟨rfl, rfl, rfl, by decide +kernel, rfl, by decide +kernel, by decide +kernel⟩
def A_is_number (ds : List PyData) (d : PyData) : Prop := ∃ p v : Int, ds = [.int p, .int v] ∧ d = .bool (decide (0 ≤ v) && decide (v ≤ p - 1))
theorem g_is_number (F : DefAt K mg "is_number" s_is_number []) (G : Good P w K mg base "is_from" [] 2 A_is_from) : Good P w K mg base "is_number" [] 3 A_is_number := by
  refine good_of false F sc_is_number (by rintro ds d ⟨p, v, rfl, rfl⟩; rfl) (fun _ _ _ _ _ _ us hl => match us, hl with | [_, _], _ => rfl) (fun f cdv Ar outer s H E ds d hr h => ?_)
  obtain ⟨p, v, rfl, rfl⟩ := h
  exact dss_one (ds_ret (d_call G hr (da_cons (d_name 1) (da_cons d_int (da_cons (d_bin (d_name 0) d_int od_sub) da_nil))) ⟨v, 0, p - 1, rfl, rfl⟩) rfl)
theorem num_ok {p v : Int} (h0 : 0 ≤ v) (h1 : v < p) : (decide (0 ≤ v) && decide (v ≤ p - 1)) = true := by
  rw [decide_eq_true h0, decide_eq_true (show v ≤ p - 1 by omega)]; rfl
theorem sc_need_number : FnScope ["p", "value"] ["p", "value"] (defScope s_need_number) := ⟨rfl, rfl, rfl, by decide +kernel, rfl, by decide +kernel, by decide +kernel⟩
def A_need_number (ds : List PyData) (d : PyData) : Prop := ∃ p v : Int, ds = [.int p, .int v] ∧ 0 ≤ v ∧ v < p ∧ d = .none
theorem g_need_number (F : DefAt K mg "need_number" s_need_number []) (G : Good P w K mg base "is_number" [] 3 A_is_number) : Good P w K mg base "need_number" [] 4 A_need_number := by
  refine good_of false F sc_need_number (by rintro ds d ⟨p, v, rfl, _⟩; rfl) (fun _ _ _ _ _ _ us hl => match us, hl with | [_, _], _ => rfl) (fun f cdv Ar outer s H E ds d hr h => ?_)
  obtain ⟨p, v, rfl, h0, h1, rfl⟩ := h
  exact dss_one (ds_if (dt_not (dt_val (z := true) (d_call G hr (da_cons (d_name 0) (da_cons (d_name 1) da_nil)) ⟨p, v, rfl, by rw [num_ok h0 h1]⟩))) (fun h => absurd h (by decide)) (fun _ => dss_nil rfl))
theorem sc_are_numbers : FnScope ["p", "value", "low", "high", "one"] ["p", "value", "low", "high"] (defScope s_are_numbers) := ⟨rfl, rfl, rfl, by decide +kernel, rfl, by decide +kernel, by decide +kernel⟩
def A_are_numbers (ds : List PyData) (d : PyData) : Prop := ∃ (p lo hi : Int) (ns : List Int), ds = [.int p, .tuple (ns.map .int), .int lo, .int hi] ∧ lo ≤ ns.length ∧ (ns.length : Int) ≤ hi ∧ ns.length ≤ 2000 ∧ (∀ n ∈ ns, 0 ≤ n ∧ n < p) ∧ d = .bool true
theorem all_true (n : Nat) : (List.replicate n true).all id = true := by
  rw [List.all_eq_true]
  intro x hx
  exact (List.mem_replicate.mp hx).2
theorem g_are_numbers (F : DefAt K mg "are_numbers" s_are_numbers []) (B : Blt mg) (G : Good P w K mg base "is_number" [] 3 A_is_number) : Good P w K mg base "are_numbers" [] 4 A_are_numbers := by
  refine good_of false F sc_are_numbers (by rintro ds d ⟨p, lo, hi, ns, rfl, _⟩; rfl) (fun _ _ _ _ _ _ us hl => match us, hl with | [_, _, _, _], _ => rfl) (fun f cdv Ar outer s H E ds d hr h => ?_)
  obtain ⟨p, lo, hi, ns, rfl, h0, h1, h2, h3, rfl⟩ := h
  refine dss_one (ds_ret (d_and (d_isi (d := .tuple (ns.map .int)) (T := "tuple") (d_name 1) k_tuple_tuple B.isi B.tuple) (fun _ => d_and
    (d_chain (z := true) (z' := true) (d_name 2) (d_callB (da_cons (d_name 1) da_nil) cd_lenT B.len) (d_name 3) (od_le.to (by rw [List.length_map, decide_eq_true h0])) (od_le.to (by rw [List.length_map, decide_eq_true h1])))
    (fun _ => d_one (d_callB (da_cons (d_new (lc1 (out := (List.replicate ns.length true).map .bool) 4 sc_are_numbers.nd (id_tup (ds := ns.map .int) (d_name 1)) (by simp) (by simp; omega) (fun i d o hd ho => ?_))) da_nil) ((cd_all rfl).to (by rw [all_true])) B.all)))) rfl)
  obtain ⟨b, hb, rfl, _⟩ := map_get ho
  obtain ⟨n, hn, rfl, hm⟩ := map_get hd
  have eb := rep_get hb
  subst eb
  refine ⟨rfl, fun s H C cl fp => ?_⟩
  exact d_call G hr (da_cons (d_name 0) (da_cons (d_name 4) da_nil)) ⟨p, n, rfl, by rw [num_ok (h3 n hm).1 (h3 n hm).2]⟩
/-! ### powers by a prime -/
def raisedF : Nat → Int → Int → Int → Int → Int
  | 0, _, found, _, _ => found
  | n + 1, p, found, base, times => if 0 < times then raisedF n p (if times % 2 = 1 then found * base % p else found) (base * base % p) (times / 2) else found
theorem sc_raised : FnScope ["p", "base", "times", "found"] ["p", "base", "times"] (defScope s_raised) := ⟨rfl, rfl, rfl, by decide +kernel, rfl, by decide +kernel, by decide +kernel⟩
def A_raised (ds : List PyData) (d : PyData) : Prop := ∃ p b t : Int, ds = [.int p, .int b, .int t] ∧ 0 < p ∧ p < 2 ^ 32 ∧ 0 ≤ t ∧ t < 2 ^ 32 ∧ d = .int (raisedF 32 p 1 (b % p) t)
theorem cmul_small {i j : Int} (h0 : 0 ≤ i) (h1 : i < 2 ^ 32) : CMul i j := .inl ⟨by omega, by omega⟩
theorem mod_rng {a p : Int} (h : 0 < p) : 0 ≤ a % p ∧ a % p < p := ⟨Int.emod_nonneg _ (by omega), Int.emod_lt_of_pos _ h⟩
theorem g_raised (F : DefAt K mg "raised" s_raised []) : Good P w K mg base "raised" [] 1 A_raised := by
  refine good_of false F sc_raised (by rintro ds d ⟨p, b, t, rfl, _⟩; rfl) (fun _ _ _ _ _ _ us hl => match us, hl with | [_, _, _], _ => rfl) (fun f cdv Ar outer s H E ds d hr h => ?_)
  obtain ⟨p, b, t, rfl, h0, h1, h2, h3, rfl⟩ := h
  refine dss_cons (ds_par 3 1 sc_raised.nd d_int (d_bin (d_name 1) (d_name 0) (od_mod h0)) ?_)
  refine dss_cons (ds_while (fun m st' => ∃ fo ba ti : Int, st' = ⟨[some (.int p), some (.int ba), some (.int ti), some (.int fo)], none⟩ ∧ 0 ≤ fo ∧ fo < 2 ^ 32 ∧ 0 ≤ ba ∧ ba < p ∧ 0 ≤ ti ∧ ti < 2 ^ m ∧ raisedF m p fo ba ti = raisedF 32 p 1 (b % p) t) 32 ⟨1, b % p, t, rfl, by omega, by omega, (mod_rng h0).1, (mod_rng h0).2, h2, h3, rfl⟩ ?_)
  rintro m st' ⟨fo, ba, ti, rfl, f0, f1, b0, b1, t0, t1, e⟩
  refine ⟨_, dt_cmp (d_name 2) d_int od_gt, fun z => ?_, fun z => ?_⟩
  · have z := of_decide_eq_true z
    obtain ⟨m, rfl⟩ : ∃ k, m = k + 1 := by
      cases m with
      | zero => omega
      | succ k => exact ⟨k, rfl⟩
    have e2 : raisedF (m + 1) p fo ba ti = raisedF m p (if ti % 2 = 1 then fo * ba % p else fo) (ba * ba % p) (ti / 2) := by
      show (if 0 < ti then _ else _) = _
      rw [if_pos z]
    have tl : ti / 2 < 2 ^ m := by
      have : (2 : Int) ^ (m + 1) = 2 * 2 ^ m := by rw [Int.pow_succ]; omega
      omega
    refine dss_cons (ds_if (dt_cmp (d_bin (d_name 2) d_int (od_mod (by omega))) d_int od_eqI) (fun y => ?_) (fun y => ?_))
    · have y := of_decide_eq_true y
      refine dss_one (ds_set 3 sc_raised.nd (d_bin (d_bin (d_name 3) (d_name 1) (od_mulS (cmul_small f0 f1))) (d_name 0) (od_mod h0)) ?_)
      refine dss_one (ds_par 1 2 sc_raised.nd (d_bin (d_bin (d_name 1) (d_name 1) (od_mulS (cmul_small b0 (by omega)))) (d_name 0) (od_mod h0)) (d_bin (d_name 2) d_int (od_fdiv ⟨by omega, by decide⟩)) ?_)
      refine ⟨m, by omega, fo * ba % p, ba * ba % p, ti / 2, rfl, (mod_rng h0).1, by have := (mod_rng (a := fo * ba) h0).2; omega, (mod_rng h0).1, (mod_rng h0).2, by omega, tl, ?_⟩
      rw [← e, e2, if_pos y]
    · have y := of_decide_eq_false y
      refine dss_nil ?_
      refine dss_one (ds_par 1 2 sc_raised.nd (d_bin (d_bin (d_name 1) (d_name 1) (od_mulS (cmul_small b0 (by omega)))) (d_name 0) (od_mod h0)) (d_bin (d_name 2) d_int (od_fdiv ⟨by omega, by decide⟩)) ?_)
      refine ⟨m, by omega, fo, ba * ba % p, ti / 2, rfl, f0, f1, (mod_rng h0).1, (mod_rng h0).2, by omega, tl, ?_⟩
      rw [← e, e2, if_neg y]
  · have z := of_decide_eq_false z
    refine dss_one (ds_ret (d_name 3) ?_)
    have e2 : raisedF m p fo ba ti = fo := by
      cases m with
      | zero => rfl
      | succ k =>
        show (if 0 < ti then _ else _) = _
        rw [if_neg z]
    show PyData.int fo = _
    rw [← e, e2]
end
end Wb
/-! ## D2 -/
set_option maxHeartbeats 4000000
namespace Wb
open PySem PySem.Spec PyProof.Rows L2
/-! ### the test of primes -/
def splitF : Nat → Int → Int → Int × Int
  | 0, t, s => (t, s)
  | n + 1, t, s => if t % 2 = 0 then splitF n (t / 2) (s + 1) else (t, s)
def goF : Nat → Int → Int → Bool
  | 0, _, _ => false
  | n + 1, p, f => if f * f % p = p - 1 then true else goF n p (f * f % p)
def passesF (p b : Int) : Bool :=
  if raisedF 32 p 1 (b % p) (splitF 32 (p - 1) 0).1 = 1 ∨ raisedF 32 p 1 (b % p) (splitF 32 (p - 1) 0).1 = p - 1 then true else goF ((splitF 32 (p - 1) 0).2 - 1).toNat p (raisedF 32 p 1 (b % p) (splitF 32 (p - 1) 0).1)
theorem splitF_rng : ∀ (n : Nat) (t s : Int), 0 < t → t < 2 ^ 32 → 0 ≤ s → 0 < (splitF n t s).1 ∧ (splitF n t s).1 < 2 ^ 32 ∧ 0 ≤ (splitF n t s).2 ∧ (splitF n t s).2 ≤ s + n
  | 0, t, s, h0, h1, h2 => ⟨h0, h1, h2, by show s ≤ s + 0; omega⟩
  | n + 1, t, s, h0, h1, h2 => by
    by_cases e : t % 2 = 0
    · have q := splitF_rng n (t / 2) (s + 1) (by omega) (by omega) (by omega)
      have e2 : splitF (n + 1) t s = splitF n (t / 2) (s + 1) := by show (if _ then _ else _) = _; rw [if_pos e]
      rw [e2]
      exact ⟨q.1, q.2.1, q.2.2.1, by have := q.2.2.2; push_cast; omega⟩
    · have e2 : splitF (n + 1) t s = (t, s) := by show (if _ then _ else _) = _; rw [if_neg e]
      rw [e2]
      exact ⟨h0, h1, h2, by show s ≤ s + ((n + 1 : Nat) : Int); omega⟩
theorem raisedF_rng : ∀ (n : Nat) (p f b t : Int), 0 < p → 0 ≤ f → f < p → 0 ≤ raisedF n p f b t ∧ raisedF n p f b t < p
  | 0, p, f, b, t, _, h1, h2 => ⟨h1, h2⟩
  | n + 1, p, f, b, t, h0, h1, h2 => by
    show 0 ≤ (if 0 < t then _ else _) ∧ (if 0 < t then _ else _) < p
    by_cases e : 0 < t
    · rw [if_pos e]
      refine raisedF_rng n p _ _ _ h0 ?_ ?_
      · split
        · exact (mod_rng h0).1
        · exact h1
      · split
        · exact (mod_rng h0).2
        · exact h2
    · rw [if_neg e]
      exact ⟨h1, h2⟩
theorem eqv_ii (i j : Int) : PyData.eqv (.int i) (.int j) = decide (i = j) := by
  show (i == j) = _
  rw [Bool.beq_eq_decide_eq]
section
variable {P : Program} {w : World} {K : PySem.W.Frag} {mg : Str → Option Value} {base : Heap}
theorem shaped_int (i : Int) : SeqAt.shaped (.int i) = true := rfl
theorem shaped_ints (ns : List Int) : SeqAt.shaped (.tuple (ns.map .int)) = true := by
  have h1 : ∀ ns : List Int, PyData.canLayAll0 (ns.map .int) = true := fun ns => by
    induction ns with
    | nil => rfl
    | cons n ns ih => show (true && _) = true; rw [ih]; rfl
  have h2 : ∀ ns : List Int, PyData.depthAll (ns.map .int) = 0 := fun ns => by
    induction ns with
    | nil => rfl
    | cons n ns ih => show max 0 _ = 0; rw [ih]; rfl
  show (PyData.canLayAll0 (ns.map .int) && decide (PyData.depthAll (ns.map .int) + 1 ≤ 64)) = true
  rw [h1, h2]; rfl
theorem sc_passes : FnScope ["value", "base", "times", "twos", "found", "turn"] ["value", "base"] (defScope s_passes) := ⟨rfl, rfl, rfl, by decide +kernel, rfl, by decide +kernel, by decide +kernel⟩
def A_passes (ds : List PyData) (d : PyData) : Prop := ∃ p b : Int, ds = [.int p, .int b] ∧ 2 < p ∧ p < 2 ^ 31 ∧ passesF p b = true ∧ d = .bool true
theorem g_passes (F : DefAt K mg "passes" s_passes []) (B : Blt mg) (G : Good P w K mg base "raised" [] 1 A_raised) : Good P w K mg base "passes" [] 2 A_passes := by
  refine good_of false F sc_passes (by rintro ds d ⟨p, b, rfl, _⟩; rfl) (fun _ _ _ _ _ _ us hl => match us, hl with | [_, _], _ => rfl) (fun f cdv Ar outer s H E ds d hr h => ?_)
  obtain ⟨p, b, rfl, h0, h1, hp, rfl⟩ := h
  refine dss_cons (ds_par 2 3 sc_passes.nd (d_bin (d_name 0) d_int od_sub) d_int ?_)
  refine dss_cons (ds_while (fun m st' => ∃ t s : Int, st' = ⟨[some (.int p), some (.int b), some (.int t), some (.int s), none, none], none⟩ ∧ 0 < t ∧ t < 2 ^ m ∧ m ≤ 32 ∧ 0 ≤ s ∧ splitF m t s = splitF 32 (p - 1) 0) 32 ⟨p - 1, 0, rfl, by omega, by omega, by omega, by omega, rfl⟩ ?_)
  rintro m st' ⟨t, s, rfl, t0, t1, m1, s0, e⟩
  have rg := splitF_rng m t s t0 (by
    have : (2 : Int) ^ m ≤ 2 ^ 32 := by
      have q : (2 : Nat) ^ m ≤ 2 ^ 32 := Nat.pow_le_pow_right (by decide) m1
      exact_mod_cast q
    omega) s0
  rw [e] at rg
  refine ⟨_, dt_cmp (d_bin (d_name 2) d_int (od_mod (by omega))) d_int od_eqI, fun z => ?_, fun z => ?_⟩
  · have z := of_decide_eq_true z
    obtain ⟨m, rfl⟩ : ∃ k, m = k + 1 := by
      cases m with
      | zero => omega
      | succ k => exact ⟨k, rfl⟩
    have e2 : splitF (m + 1) t s = splitF m (t / 2) (s + 1) := by
      show (if _ then _ else _) = _
      rw [if_pos z]
    refine dss_one (ds_par 2 3 sc_passes.nd (d_bin (d_name 2) d_int (od_fdiv ⟨by omega, by decide⟩)) (d_bin (d_name 3) d_int od_add) ?_)
    refine ⟨m, by omega, t / 2, s + 1, rfl, by omega, ?_, by omega, by omega, by rw [← e, e2]⟩
    have : (2 : Int) ^ (m + 1) = 2 * 2 ^ m := by rw [Int.pow_succ]; omega
    omega
  · have z := of_decide_eq_false z
    have e2 : splitF m t s = (t, s) := by
      cases m with
      | zero => rfl
      | succ k =>
        show (if _ then _ else _) = _
        rw [if_neg z]
    have et : (splitF 32 (p - 1) 0).1 = t := by rw [← e, e2]
    have es : (splitF 32 (p - 1) 0).2 = s := by rw [← e, e2]
    have rg2 := splitF_rng 32 (p - 1) 0 (by omega) (by omega) (by omega)
    rw [et, es] at rg rg2
    refine dss_cons (ds_set 4 sc_passes.nd (d_call G hr (da_cons (d_name 0) (da_cons (d_name 1) (da_cons (d_name 2) da_nil))) ⟨p, b, t, rfl, by omega, by omega, by omega, rg.2.1, rfl⟩) ?_)
    have fr := raisedF_rng 32 p 1 (b % p) t (by omega) (by omega) (by omega)
    have hp2 : (if raisedF 32 p 1 (b % p) t = 1 ∨ raisedF 32 p 1 (b % p) t = p - 1 then true else goF (s - 1).toNat p (raisedF 32 p 1 (b % p) t)) = true := by
      have := hp
      unfold passesF at this
      rw [et, es] at this
      exact this
    generalize raisedF 32 p 1 (b % p) t = fo at hp2 fr
    refine dss_cons (ds_if (dt_cmp (d_name 4) (d_tup (ds := [.int 1, .int (p - 1)]) (da_cons d_int (da_cons (d_bin (d_name 0) d_int od_sub) da_nil))) (od_inT (room65 hr) (shaped_int _) (shaped_ints [1, p - 1]))) (fun y => dss_one (ds_ret d_bl rfl)) (fun y => dss_nil ?_))
    have y1 : ¬ (fo = 1 ∨ fo = p - 1) := fun q => by
      have : ([PyData.int 1, .int (p - 1)].any fun z => PyData.eqv z (.int fo)) = true := by
        show (PyData.eqv (.int 1) (.int fo) || (PyData.eqv (.int (p - 1)) (.int fo) || false)) = true
        rw [eqv_ii, eqv_ii]
        rcases q with q | q
        · rw [decide_eq_true q.symm]; rfl
        · rw [decide_eq_true q.symm]; simp
      rw [this] at y
      cases y
    rw [if_neg y1] at hp2
    refine dss_cons (ds_for 5 sc_passes.nd (id_rng1 (n := s - 1) (da_cons (d_bin (d_name 3) d_int od_sub) da_nil) (by omega) B.range) (fun i st' => ∃ g y, st' = ⟨[some (.int p), some (.int b), some (.int t), some (.int s), some (.int g), y], none⟩ ∧ 0 ≤ g ∧ g < p ∧ goF ((s - 1).toNat - i) p g = true) ⟨fo, none, rfl, fr.1, fr.2, hp2⟩ ?_ ?_)
    · rintro i d st' hd ⟨g, y, rfl, g0, g1, hg⟩
      obtain ⟨hi, rfl⟩ := range_get hd
      obtain ⟨k, hk⟩ : ∃ k, (s - 1).toNat - i = k + 1 := ⟨(s - 1).toNat - i - 1, by omega⟩
      rw [hk] at hg
      have hg2 : (if g * g % p = p - 1 then true else goF k p (g * g % p)) = true := hg
      refine dss_cons (ds_set 4 sc_passes.nd (d_bin (d_bin (d_name 4) (d_name 4) (od_mulS (cmul_small g0 (by omega)))) (d_name 0) (od_mod (by omega))) ?_)
      refine dss_one (ds_if (dt_cmp (d_name 4) (d_bin (d_name 0) d_int od_sub) od_eqI) (fun y => dss_one (ds_ret d_bl rfl)) (fun y => dss_nil ?_))
      have y := of_decide_eq_false y
      rw [if_neg y] at hg2
      refine ⟨g * g % p, _, rfl, (mod_rng (by omega)).1, (mod_rng (by omega)).2, ?_⟩
      have : (s - 1).toNat - (i + 1) = k := by omega
      rw [this]
      exact hg2
    · rintro st' ⟨g, y, rfl, g0, g1, hg⟩
      rw [List.length_map, List.length_range, Nat.sub_self] at hg
      cases hg
end
end Wb
/-! ## D3 -/
set_option maxHeartbeats 4000000
namespace Wb
open PySem PySem.Spec PyProof.Rows L2
/-! ### the seven primes -/
def goodP (p : Int) : Prop := p = 5 ∨ p = 7 ∨ p = 11 ∨ p = 13 ∨ p = 101 ∨ p = 65537 ∨ p = 2147483647
theorem goodP_rng {p : Int} (h : goodP p) : 5 ≤ p ∧ p ≤ 2147483647 := by
  rcases h with h | h | h | h | h | h | h <;> subst h <;> decide
theorem goodP_bases {p : Int} (h : goodP p) (n : ¬ (p = 5 ∨ p = 7)) : ∀ b ∈ ([2, 3, 5, 7] : List Int), p % b ≠ 0 ∧ passesF p b = true := by
  rcases h with h | h | h | h | h | h | h
  · exact absurd (.inl h) n
  · exact absurd (.inr h) n
  all_goals subst h; decide +kernel
section
variable {P : Program} {w : World} {K : PySem.W.Frag} {mg : Str → Option Value} {base : Heap}
theorem all_false (n : Nat) : (List.replicate n false).any id = false := by
  rw [List.any_eq_false]
  intro x hx
  rw [(List.mem_replicate.mp hx).2]
  decide
theorem sc_is_prime : FnScope ["value", "base"] ["value"] (defScope s_is_prime) := ⟨rfl, rfl, rfl, by decide +kernel, rfl, by decide +kernel, by decide +kernel⟩
def A_is_prime (ds : List PyData) (d : PyData) : Prop := ∃ p : Int, ds = [.int p] ∧ goodP p ∧ d = .bool true
theorem g_is_prime (F : DefAt K mg "is_prime" s_is_prime []) (B : Blt mg) (C : Cst K mg) (G : Good P w K mg base "is_from" [] 2 A_is_from) (G2 : Good P w K mg base "passes" [] 2 A_passes) : Good P w K mg base "is_prime" [] 3 A_is_prime := by
  refine good_of false F sc_is_prime (by rintro ds d ⟨p, rfl, _⟩; rfl) (fun _ _ _ _ _ _ us hl => match us, hl with | [_], _ => rfl) (fun f cdv Ar outer s H E ds d hr h => ?_)
  obtain ⟨p, rfl, hp, rfl⟩ := h
  have rg := goodP_rng hp
  obtain ⟨a, hm, hd⟩ := C.bases
  refine dss_cons (ds_if (dt_not (dt_val (z := true) (d_call G hr (da_cons (d_name 0) (da_cons d_int (da_cons (d_globI C.prime) da_nil))) ⟨p, 5, 2147483647, rfl, by rw [decide_eq_true rg.1, decide_eq_true rg.2]; rfl⟩))) (fun h => absurd h (by decide)) (fun _ => dss_nil ?_))
  refine dss_cons (ds_if (dt_cmp (d_name 0) (d_glob (v := .ref a) hm rfl hd) (od_inT (room65 hr) (shaped_int p) (shaped_ints [2, 3, 5, 7]))) (fun _ => dss_one (ds_ret d_bl rfl)) (fun y => dss_nil ?_))
  have n : ¬ (p = 5 ∨ p = 7) := fun q => by
    have : ([PyData.int 2, .int 3, .int 5, .int 7].any fun z => PyData.eqv z (.int p)) = true := by
      rcases q with q | q <;> subst q <;> rfl
    rw [this] at y
    cases y
  have hb := goodP_bases hp n
  refine dss_cons (ds_if (dt_val (d_callB (da_cons (d_new (lc1 (out := (List.replicate 4 false).map .bool) 1 sc_is_prime.nd (id_tup (ds := ([2, 3, 5, 7] : List Int).map .int) (d_glob (v := .ref a) hm rfl hd)) rfl (by decide) (fun i d o hd' ho => ?_))) da_nil) ((cd_any rfl).to (by rw [all_false])) B.any)) (fun h => absurd h (by decide)) (fun _ => dss_nil ?_))
  · obtain ⟨b, hb', rfl, _⟩ := map_get ho
    obtain ⟨n, hn, rfl, hm'⟩ := map_get hd'
    have eb := rep_get hb'
    subst eb
    refine ⟨rfl, fun s H C' cl fp => ?_⟩
    have pos : 0 < n := by
      have : n = 2 ∨ n = 3 ∨ n = 5 ∨ n = 7 := by simpa using hm'
      omega
    exact d_cmp (d_bin (d_name 0) (d_name 1) (od_mod pos)) d_int (od_eqI.to (by rw [decide_eq_false (hb n hm').1]))
  · refine dss_one (ds_ret (d_callB (da_cons (d_new (lc1 (out := (List.replicate 4 true).map .bool) 1 sc_is_prime.nd (id_tup (ds := ([2, 3, 5, 7] : List Int).map .int) (d_glob (v := .ref a) hm rfl hd)) rfl (by decide) (fun i d o hd' ho => ?_))) da_nil) ((cd_all rfl).to (by rw [all_true])) B.all) rfl)
    obtain ⟨b, hb', rfl, _⟩ := map_get ho
    obtain ⟨n, hn, rfl, hm'⟩ := map_get hd'
    have eb := rep_get hb'
    subst eb
    refine ⟨rfl, fun s H C' cl fp => ?_⟩
    exact d_call G2 hr (da_cons (d_name 0) (da_cons (d_name 1) da_nil)) ⟨p, n, rfl, by omega, by omega, (hb n hm').2, rfl⟩
theorem sc_need_prime : FnScope ["p", "least"] ["p", "least"] (defScope s_need_prime) := ⟨rfl, rfl, rfl, by decide +kernel, rfl, by decide +kernel, by decide +kernel⟩
def A_need_prime (ds : List PyData) (d : PyData) : Prop := ∃ p : Int, ds = [.int p, .int 5] ∧ goodP p ∧ d = .none
theorem g_need_prime (F : DefAt K mg "need_prime" s_need_prime [.int 5]) (G : Good P w K mg base "is_prime" [] 3 A_is_prime) : Good P w K mg base "need_prime" [.int 5] 4 A_need_prime := by
  obtain ⟨f, fd, F, hm⟩ := F
  have fo : FnOk P w K mg base CX0 4 f fd ["p", "least"] (Pu K A_need_prime) := by
    refine fn_pu (M := false) F sc_need_prime (by rintro ds d ⟨p, rfl, _⟩; rfl) (fun cdv Ar outer s H E ds d hr h => ?_)
    obtain ⟨p, rfl, hp, rfl⟩ := h
    have rg := goodP_rng hp
    exact dss_one (ds_if (z := false) (dt_w (dw_or (z := false) (y := false) (dt_not (z := true) (dt_val (d_call G hr (da_cons (d_name 0) da_nil) ⟨p, rfl, hp, rfl⟩))) (fun _ => dw_or1 (dt_cmp (d_name 0) (d_name 1) (od_lt.to (by rw [decide_eq_false (by omega)])))))) (fun h => absurd h (by decide)) (fun _ => dss_nil rfl))
  obtain ⟨us, hv, hb⟩ := F.binds1 (ps := ["p", "least"]) 1 0 (by simp) rfl (fun T kV doc pm an cdv ct us its hl hl2 => match us, its, hl, hl2 with | [_], [_], _, _ => ⟨_, rfl, rfl⟩)
  exact ⟨f, fd, ["p", "least"], [.int 5], us, fo, hm, F.kp, hb, hv, .cons (.int 5) .nil⟩
/-! ### shares -/
theorem sc_common : FnScope ["one", "other"] ["one", "other"] (defScope s_common) := ⟨rfl, rfl, rfl, by decide +kernel, rfl, by decide +kernel, by decide +kernel⟩
def A_common (ds : List PyData) (d : PyData) : Prop := ∃ m n : Nat, ds = [.int m, .int n] ∧ d = .int (Nat.gcd m n)
theorem g_common (F : DefAt K mg "common" s_common []) : Good P w K mg base "common" [] 1 A_common := by
  refine good_of false F sc_common (by rintro ds d ⟨m, n, rfl, _⟩; rfl) (fun _ _ _ _ _ _ us hl => match us, hl with | [_, _], _ => rfl) (fun f cdv Ar outer s H E ds d hr h => ?_)
  obtain ⟨m, n, rfl, rfl⟩ := h
  refine dss_cons (ds_while (fun k st' => ∃ a : Nat, st' = ⟨[some (.int a), some (.int k)], none⟩ ∧ Nat.gcd a k = Nat.gcd m n) n ⟨m, rfl, rfl⟩ ?_)
  rintro k st' ⟨a, rfl, e⟩
  refine ⟨_, dt_cmp (d_name 1) d_int od_neI, fun z => ?_, fun z => ?_⟩
  · have z : k ≠ 0 := fun q => by subst q; cases z
    refine dss_one (ds_par 0 1 sc_common.nd (d_name 1) (d_bin (d_name 0) (d_name 1) (od_mod (by omega))) ?_)
    refine ⟨a % k, Nat.mod_lt _ (by omega), k, rfl, ?_⟩
    rw [← e, Nat.gcd_comm a k, Nat.gcd_rec k a, Nat.gcd_comm]
  · have z : k = 0 := Decidable.byContradiction fun q => by
      rw [decide_eq_false (show ¬ ((k : Int) = 0) by omega)] at z
      cases z
    subst z
    refine dss_one (ds_ret (d_name 0) ?_)
    show PyData.int a = _
    rw [← e, Nat.gcd_zero_right]
end
end Wb
/-! ## D4 -/
set_option maxHeartbeats 4000000
namespace Wb
open PySem PySem.Spec PyProof.Rows L2
/-! ### shares: mathematics -/
/-- t / b in lowest terms -/
def shP (t : Int) (b : Nat) : Int × Int := (t / (Nat.gcd t.natAbs b : Nat), (b : Int) / (Nat.gcd t.natAbs b : Nat))
def shD (t : Int) (b : Nat) : PyData := .tuple [.int (shP t b).1, .int (shP t b).2]
/-- the product of n times (p - 2) / p, lowered each time -/
def keptF (p : Nat) : Nat → Int × Nat
  | 0 => (1, 1)
  | n + 1 => (((keptF p n).1 * ((p : Int) - 2)) / (Nat.gcd ((keptF p n).1 * ((p : Int) - 2)).natAbs ((keptF p n).2 * p) : Nat), ((keptF p n).2 * p) / (Nat.gcd ((keptF p n).1 * ((p : Int) - 2)).natAbs ((keptF p n).2 * p)))
def lossP (p n : Nat) : Int × Int := shP ((keptF p n).2 - (keptF p n).1) (keptF p n).2
def lossD (p n : Nat) : PyData := .tuple [.int (lossP p n).1, .int (lossP p n).2]
def lossL (p n : Nat) : Int × Int := shP ((p : Int) ^ n - ((p : Int) - 2) ^ n) (p ^ n)
theorem loss_same : ∀ p ∈ ([5, 7, 11, 13, 101, 65537, 2147483647] : List Nat), ∀ n ∈ ([0, 1, 2, 3, 4, 5, 6, 7, 8, 9] : List Nat), lossP p n = lossL p n := by decide +kernel
theorem goodP_nat {p : Int} (h : goodP p) : ∃ q : Nat, p = q ∧ q ∈ ([5, 7, 11, 13, 101, 65537, 2147483647] : List Nat) := by
  rcases h with h | h | h | h | h | h | h <;> subst h <;> exact ⟨_, rfl, by decide⟩
/-- all in range: decided for the seven primes -/
theorem kept_rng : ∀ p ∈ ([5, 7, 11, 13, 101, 65537, 2147483647] : List Nat), ∀ n ∈ ([0, 1, 2, 3, 4, 5, 6, 7, 8, 9] : List Nat), 0 < (keptF p n).2 ∧ (keptF p n).2 < 2 ^ 300 ∧ (keptF p n).1.natAbs < 2 ^ 300 ∧ ((keptF p n).2 * p) < 2 ^ 400 := by decide +kernel
theorem mem10 {n : Nat} (h : n ≤ 9) : n ∈ ([0, 1, 2, 3, 4, 5, 6, 7, 8, 9] : List Nat) := by
  simp only [List.mem_cons, List.not_mem_nil, or_false]
  omega
theorem gcd_pos' {t : Int} {b : Nat} (h : 0 < b) : 0 < Nat.gcd t.natAbs b := Nat.gcd_pos_of_pos_right _ h
theorem gcd_le' {t : Int} {b : Nat} (h : 0 < b) : Nat.gcd t.natAbs b ≤ b := Nat.gcd_le_right _ h
theorem div_ok {t i : Int} {b : Nat} (h : 0 < b) (hb : b < 2 ^ 8000) : CDivW i (Nat.gcd t.natAbs b : Nat) :=
  wide_div (b := 8000) (by have := gcd_pos' (t := t) h; omega) (by rw [Int.natAbs_natCast]; exact Nat.lt_of_le_of_lt (gcd_le' h) hb) (by decide) (by decide)
section
variable {P : Program} {w : World} {K : PySem.W.Frag} {mg : Str → Option Value} {base : Heap}
theorem sc_share : FnScope ["top", "bottom", "shared"] ["top", "bottom"] (defScope s_share) := ⟨rfl, rfl, rfl, by decide +kernel, rfl, by decide +kernel, by decide +kernel⟩
def A_share (ds : List PyData) (d : PyData) : Prop := ∃ (t : Int) (b : Nat), ds = [.int t, .int b] ∧ 0 < b ∧ b < 2 ^ 8000 ∧ d = shD t b
theorem abs_nat (t : Int) : (if t < 0 then -t else t) = (t.natAbs : Int) := by split <;> omega
theorem g_share (F : DefAt K mg "share" s_share []) (B : Blt mg) (G : Good P w K mg base "common" [] 1 A_common) : Good P w K mg base "share" [] 2 A_share := by
  refine good_of false F sc_share (by rintro ds d ⟨m, n, rfl, _⟩; rfl) (fun _ _ _ _ _ _ us hl => match us, hl with | [_, _], _ => rfl) (fun f cdv Ar outer s H E ds d hr h => ?_)
  obtain ⟨t, b, rfl, hb, hb2, rfl⟩ := h
  refine dss_cons (ds_set 2 sc_share.nd (d_call G hr (da_cons (d_callB (da_cons (d_name 0) da_nil) (cd_abs.to (by rw [abs_nat])) B.abs) (da_cons (d_name 1) da_nil)) ⟨t.natAbs, b, rfl, rfl⟩) ?_)
  exact dss_one (ds_ret (d_tup (da_cons (d_bin (d_name 0) (d_name 2) (od_fdiv (div_ok hb hb2))) (da_cons (d_bin (d_name 1) (d_name 2) (od_fdiv (div_ok hb hb2))) da_nil))) rfl)
theorem sc_multiplied : FnScope ["one", "other"] ["one", "other"] (defScope s_multiplied) := ⟨rfl, rfl, rfl, by decide +kernel, rfl, by decide +kernel, by decide +kernel⟩
def A_multiplied (ds : List PyData) (d : PyData) : Prop := ∃ (a c : Int) (b e : Nat), ds = [.tuple [.int a, .int b], .tuple [.int c, .int e]] ∧ 0 < b ∧ 0 < e ∧ a.natAbs < 2 ^ 1000 ∧ c.natAbs < 2 ^ 1000 ∧ b < 2 ^ 1000 ∧ e < 2 ^ 1000 ∧ d = shD (a * c) (b * e)
theorem g_multiplied (F : DefAt K mg "multiplied" s_multiplied []) (G : Good P w K mg base "share" [] 2 A_share) : Good P w K mg base "multiplied" [] 3 A_multiplied := by
  refine good_of false F sc_multiplied (by rintro ds d ⟨a, c, b, e, rfl, _⟩; rfl) (fun _ _ _ _ _ _ us hl => match us, hl with | [_, _], _ => rfl) (fun f cdv Ar outer s H E ds d hr h => ?_)
  obtain ⟨a, c, b, e, rfl, hb, he, h1, h2, h3, h4, rfl⟩ := h
  refine dss_one (ds_ret (d_call G hr (da_cons (d_bin (d_ixT (d_name 0) d_int rfl) (d_ixT (d_name 1) d_int rfl) (od_mul (wide_mul h1 h2 (by decide) (by decide) (by decide)))) (da_cons (d_bin (d_ixT (d_name 0) d_int rfl) (d_ixT (d_name 1) d_int rfl) (od_mul (wide_mul (i := (b : Int)) (j := (e : Int)) (by rw [Int.natAbs_natCast]; exact h3) (by rw [Int.natAbs_natCast]; exact h4) (by decide) (by decide) (by decide)))) da_nil)) ⟨a * c, b * e, rfl, Nat.mul_pos hb he, ?_, rfl⟩) rfl)
  exact Nat.lt_of_lt_of_le (Nat.mul_lt_mul'' h3 h4) (by rw [← Nat.pow_add]; exact Nat.pow_le_pow_right (by decide) (by decide))
theorem sc_lacking : FnScope ["one"] ["one"] (defScope s_lacking) := ⟨rfl, rfl, rfl, by decide +kernel, rfl, by decide +kernel, by decide +kernel⟩
def A_lacking (ds : List PyData) (d : PyData) : Prop := ∃ (a : Int) (b : Nat), ds = [.tuple [.int a, .int b]] ∧ 0 < b ∧ b < 2 ^ 8000 ∧ d = shD (b - a) b
theorem g_lacking (F : DefAt K mg "lacking" s_lacking []) (G : Good P w K mg base "share" [] 2 A_share) : Good P w K mg base "lacking" [] 3 A_lacking := by
  refine good_of false F sc_lacking (by rintro ds d ⟨a, b, rfl, _⟩; rfl) (fun _ _ _ _ _ _ us hl => match us, hl with | [_], _ => rfl) (fun f cdv Ar outer s H E ds d hr h => ?_)
  obtain ⟨a, b, rfl, hb, h1, rfl⟩ := h
  exact dss_one (ds_ret (d_call G hr (da_cons (d_bin (d_ixT (d_name 0) d_int rfl) (d_ixT (d_name 0) d_int rfl) od_sub) (da_cons (d_ixT (d_name 0) d_int rfl) da_nil)) ⟨b - a, b, rfl, hb, h1, rfl⟩) rfl)
theorem sc_missing : FnScope ["p", "places", "kept", "many"] ["p", "places"] (defScope s_missing) := ⟨rfl, rfl, rfl, by decide +kernel, rfl, by decide +kernel, by decide +kernel⟩
def A_missing (ds : List PyData) (d : PyData) : Prop := ∃ (p n : Nat), ds = [.int p, .list (List.replicate n (.int 2))] ∧ p ∈ ([5, 7, 11, 13, 101, 65537, 2147483647] : List Nat) ∧ n ≤ 9 ∧ d = lossD p n
theorem lt300 {n : Nat} (h : n < 2 ^ 300) : n < 2 ^ 1000 := Nat.lt_of_lt_of_le h (Nat.pow_le_pow_right (by decide) (by decide))
theorem lt8000 {n : Nat} (h : n < 2 ^ 300) : n < 2 ^ 8000 := Nat.lt_of_lt_of_le h (Nat.pow_le_pow_right (by decide) (by decide))
theorem primes_lt : ∀ p ∈ ([5, 7, 11, 13, 101, 65537, 2147483647] : List Nat), 5 ≤ p ∧ p < 2 ^ 31 := by decide
theorem g_missing (F : DefAt K mg "missing" s_missing []) (G : Good P w K mg base "multiplied" [] 3 A_multiplied) (G2 : Good P w K mg base "lacking" [] 3 A_lacking) : Good P w K mg base "missing" [] 4 A_missing := by
  refine good_of false F sc_missing (by rintro ds d ⟨p, n, rfl, _⟩; rfl) (fun _ _ _ _ _ _ us hl => match us, hl with | [_, _], _ => rfl) (fun f cdv Ar outer s H E ds d hr h => ?_)
  obtain ⟨p, n, rfl, hp, hn, rfl⟩ := h
  have pr := primes_lt p hp
  refine dss_cons (ds_set 2 sc_missing.nd (d_tup (ds := [.int 1, .int 1]) (da_cons d_int (da_cons d_int da_nil))) ?_)
  refine dss_cons (ds_for 3 sc_missing.nd (id_list (ds := List.replicate n (.int 2)) (d_name 1)) (fun i st' => i ≤ n ∧ ∃ y, st' = ⟨[some (.int p), some (.list (List.replicate n (.int 2))), some (.tuple [.int (keptF p i).1, .int (keptF p i).2]), y], none⟩) ⟨Nat.zero_le _, none, rfl⟩ ?_ ?_)
  · rintro i d st' hd ⟨hi, y, rfl⟩
    have ed := rep_get hd
    subst ed
    have hi2 : i < n := by
      have := (List.getElem?_eq_some_iff.mp hd).1
      simpa using this
    obtain ⟨k1, k2, k3, k4⟩ := kept_rng p hp i (mem10 (by omega))
    refine dss_one (ds_set 2 sc_missing.nd (d_call G hr (da_cons (d_name 2) (da_cons (d_tup (ds := [.int ((p : Int) - 2), .int p]) (da_cons (d_bin (d_name 0) (d_name 3) od_sub) (da_cons (d_name 0) da_nil))) da_nil)) ⟨(keptF p i).1, (p : Int) - 2, (keptF p i).2, p, rfl, k1, by omega, lt300 k3, Nat.lt_of_lt_of_le (show ((p : Int) - 2).natAbs < 2 ^ 31 by omega) (Nat.pow_le_pow_right (by decide) (by decide)), lt300 k2, Nat.lt_of_lt_of_le pr.2 (Nat.pow_le_pow_right (by decide) (by decide)), rfl⟩) ?_)
    exact ⟨hi2, _, rfl⟩
  · rintro st' ⟨_, y, rfl⟩
    rw [List.length_replicate]
    obtain ⟨k1, k2, k3, k4⟩ := kept_rng p hp n (mem10 hn)
    exact dss_one (ds_ret (d_call G2 hr (da_cons (d_name 2) da_nil) ⟨_, _, rfl, k1, lt8000 k2, rfl⟩) rfl)
/-! ### the law's own -/
theorem sc_l_lowered : FnScope ["_law_top", "_law_bottom", "_law_one", "_law_other"] ["_law_top", "_law_bottom"] (defScope s_l_lowered) := ⟨rfl, rfl, rfl, by decide +kernel, rfl, by decide +kernel, by decide +kernel⟩
theorem g_l_lowered (F : DefAt K mg "_law_lowered" s_l_lowered []) (B : Blt mg) : Good P w K mg base "_law_lowered" [] 1 A_share := by
  refine good_of false F sc_l_lowered (by rintro ds d ⟨m, n, rfl, _⟩; rfl) (fun _ _ _ _ _ _ us hl => match us, hl with | [_, _], _ => rfl) (fun f cdv Ar outer s H E ds d hr h => ?_)
  obtain ⟨t, b, rfl, hb, hb2, rfl⟩ := h
  refine dss_cons (ds_par 2 3 sc_l_lowered.nd (d_callB (da_cons (d_name 0) da_nil) (cd_abs.to (by rw [abs_nat])) B.abs) (d_name 1) ?_)
  refine dss_cons (ds_while (fun k st' => ∃ a : Nat, st' = ⟨[some (.int t), some (.int b), some (.int a), some (.int k)], none⟩ ∧ Nat.gcd a k = Nat.gcd t.natAbs b) b ⟨t.natAbs, rfl, rfl⟩ ?_)
  rintro k st' ⟨a, rfl, e⟩
  refine ⟨_, dt_cmp (d_name 3) d_int od_gt, fun z => ?_, fun z => ?_⟩
  · have z := of_decide_eq_true z
    refine dss_one (ds_par 2 3 sc_l_lowered.nd (d_name 3) (d_bin (d_name 2) (d_name 3) (od_mod (by omega))) ?_)
    refine ⟨a % k, Nat.mod_lt _ (by omega), k, rfl, ?_⟩
    rw [← e, Nat.gcd_comm a k, Nat.gcd_rec k a, Nat.gcd_comm]
  · have z := of_decide_eq_false z
    have z : k = 0 := by omega
    subst z
    rw [Nat.gcd_zero_right] at e
    subst e
    exact dss_one (ds_ret (d_tup (da_cons (d_bin (d_name 0) (d_name 2) (od_fdiv (div_ok hb hb2))) (da_cons (d_bin (d_name 1) (d_name 2) (od_fdiv (div_ok hb hb2))) da_nil))) rfl)
theorem sc_l_missing : FnScope ["_law_p", "_law_places", "_law_top", "_law_bottom", "_law_many"] ["_law_p", "_law_places"] (defScope s_l_missing) := ⟨rfl, rfl, rfl, by decide +kernel, rfl, by decide +kernel, by decide +kernel⟩
theorem pow_rng : ∀ p ∈ ([5, 7, 11, 13, 101, 65537, 2147483647] : List Nat), ∀ n ∈ ([0, 1, 2, 3, 4, 5, 6, 7, 8, 9] : List Nat), 0 < p ^ n ∧ p ^ n < 2 ^ 300 ∧ (((p : Int) - 2) ^ n).natAbs < 2 ^ 300 := by decide +kernel
theorem g_l_missing (F : DefAt K mg "_law_missing" s_l_missing []) (G : Good P w K mg base "_law_lowered" [] 1 A_share) : Good P w K mg base "_law_missing" [] 2 A_missing := by
  refine good_of false F sc_l_missing (by rintro ds d ⟨p, n, rfl, _⟩; rfl) (fun _ _ _ _ _ _ us hl => match us, hl with | [_, _], _ => rfl) (fun f cdv Ar outer s H E ds d hr h => ?_)
  obtain ⟨p, n, rfl, hp, hn, rfl⟩ := h
  have pr := primes_lt p hp
  refine dss_cons (ds_tup2 2 3 sc_l_missing.nd (d_tup (ds := [.int 1, .int 1]) (da_cons d_int (da_cons d_int da_nil))) ?_)
  refine dss_cons (ds_for 4 sc_l_missing.nd (id_list (ds := List.replicate n (.int 2)) (d_name 1)) (fun i st' => i ≤ n ∧ ∃ y, st' = ⟨[some (.int p), some (.list (List.replicate n (.int 2))), some (.int (((p : Int) - 2) ^ i)), some (.int ((p ^ i : Nat) : Int)), y], none⟩) ⟨Nat.zero_le _, none, by rw [Int.pow_zero, Nat.pow_zero] <;> rfl⟩ ?_ ?_)
  · rintro i d st' hd ⟨hi, y, rfl⟩
    have ed := rep_get hd
    subst ed
    have hi2 : i < n := by
      have := (List.getElem?_eq_some_iff.mp hd).1
      simpa using this
    obtain ⟨k1, k2, k3⟩ := pow_rng p hp i (mem10 (by omega))
    refine dss_one (ds_par 2 3 sc_l_missing.nd (d_bin (d_name 2) (d_bin (d_name 0) (d_name 4) od_sub) (od_mul (wide_mul k3 (show ((p : Int) - 2).natAbs < 2 ^ 31 by omega) (by decide) (by decide) (by decide)))) (d_bin (d_name 3) (d_name 0) (od_mul (wide_mul (i := ((p ^ i : Nat) : Int)) (j := (p : Int)) (by rw [Int.natAbs_natCast]; exact k2) (by rw [Int.natAbs_natCast]; exact pr.2) (by decide) (by decide) (by decide)))) ?_)
    exact ⟨hi2, _, by rw [Int.pow_succ, Nat.pow_succ, Int.natCast_mul] <;> rfl⟩
  · rintro st' ⟨_, y, rfl⟩
    rw [List.length_replicate]
    obtain ⟨k1, k2, k3⟩ := pow_rng p hp n (mem10 hn)
    refine dss_one (ds_ret (d_call G hr (da_cons (d_bin (d_name 3) (d_name 2) od_sub) (da_cons (d_name 3) da_nil)) ⟨_, p ^ n, rfl, k1, lt8000 k2, rfl⟩) ?_)
    have e := loss_same p hp n (mem10 hn)
    show shD _ _ = lossD p n
    unfold lossD shD
    rw [e]
    unfold lossL
    rw [Int.natCast_pow]
end
end Wb
/-! ## D5 -/
set_option maxHeartbeats 4000000
namespace Wb
open PySem PySem.Spec PyProof.Rows L2
/-! ### tables -/
theorem bits_pow : ∀ k ∈ ([0, 1, 2, 3, 4, 5, 6, 7, 8, 9, 10] : List Nat), Builtin.Int.intBits ((2 ^ k : Nat) : Int) = k + 1 ∧ Builtin.bitAnd ((2 ^ k : Nat) : Int) (((2 ^ k : Nat) : Int) - 1) = 0 ∧ 2 ^ k ≤ 1024 := by decide +kernel
theorem mem11 {n : Nat} (h : n ≤ 10) : n ∈ ([0, 1, 2, 3, 4, 5, 6, 7, 8, 9, 10] : List Nat) := by
  simp only [List.mem_cons, List.not_mem_nil, or_false]
  omega
def bitsI (n ix : Nat) : List Int := (List.range n).map fun i => ((ix / 2 ^ (n - 1 - i) % 2 : Nat) : Int)
def halfL (p : Int) (ns : List Int) (x : Int) (m : Nat) : List Int := (List.range m).map fun i => (ns.getD i 0 + x * (ns.getD (m + i) 0 - ns.getD i 0)) % p
def spreadL (p : Int) : List Int → List Int → Int
  | ns, [] => ns.getD 0 0
  | ns, x :: xs => spreadL p (halfL p ns x (ns.length / 2)) xs
theorem halfL_len (p : Int) (ns : List Int) (x : Int) (m : Nat) : (halfL p ns x m).length = m := by unfold halfL; simp
theorem atI_int {ns : List Int} {i : Nat} (h : i < ns.length) : atI (ns.map PyData.int) (i : Int) = some (.int (ns.getD i 0)) :=
  atI_nat (by rw [List.getElem?_map, List.getElem?_eq_getElem h, List.getD_eq_getElem?_getD, List.getElem?_eq_getElem h]; rfl)
section
variable {P : Program} {w : World} {K : PySem.W.Frag} {mg : Str → Option Value} {base : Heap}
theorem od_and1 {X : Cx} {m : Nat} : OpD X (binaryOp .BitAnd) (.int (m : Int)) (.int 1) (.int ((m % 2 : Nat) : Int)) := ⟨_, op_odd, fun x y H h1 h2 Q q => by cases h1; cases h2; exact ⟨m, rfl, rfl, q _ H (Same.refl H) (.int _)⟩⟩
theorem sc_names_in : FnScope ["table"] ["table"] (defScope s_names_in) := ⟨rfl, rfl, rfl, by decide +kernel, rfl, by decide +kernel, by decide +kernel⟩
def A_names_in (ds : List PyData) (d : PyData) : Prop := ∃ (xs : List PyData) (k : Nat), ds = [.tuple xs] ∧ xs.length = 2 ^ k ∧ k ≤ 10 ∧ d = .int k
theorem g_names_in (F : DefAt K mg "names_in" s_names_in []) (B : Blt mg) : Good P w K mg base "names_in" [] 1 A_names_in := by
  refine good_of false F sc_names_in (by rintro ds d ⟨m, n, rfl, _⟩; rfl) (fun _ _ _ _ _ _ us hl => match us, hl with | [_], _ => rfl) (fun f cdv Ar outer s H E ds d hr h => ?_)
  obtain ⟨xs, k, rfl, hl, hk, rfl⟩ := h
  exact dss_one (ds_ret (d_bin (d_bits (d_callB (da_cons (d_name 0) da_nil) (cd_lenT.to (by rw [hl])) B.len)) d_int od_sub) (by rw [(bits_pow k (mem11 hk)).1]; show PyData.int (((k + 1 : Nat) : Int) - 1) = _; congr 1; omega))
theorem sc_is_plain_table : FnScope ["p", "value"] ["p", "value"] (defScope s_is_plain_table) := ⟨rfl, rfl, rfl, by decide +kernel, rfl, by decide +kernel, by decide +kernel⟩
def A_is_plain_table (ds : List PyData) (d : PyData) : Prop := ∃ (p : Int) (ns : List Int) (k : Nat), ds = [.int p, .tuple (ns.map .int)] ∧ (∀ n ∈ ns, 0 ≤ n ∧ n < p) ∧ ns.length = 2 ^ k ∧ k ≤ 10 ∧ d = .bool true
theorem g_is_plain_table (F : DefAt K mg "is_plain_table" s_is_plain_table []) (B : Blt mg) (C : Cst K mg) (G : Good P w K mg base "are_numbers" [] 4 A_are_numbers) : Good P w K mg base "is_plain_table" [] 5 A_is_plain_table := by
  refine good_of false F sc_is_plain_table (by rintro ds d ⟨m, n, k, rfl, _⟩; rfl) (fun _ _ _ _ _ _ us hl => match us, hl with | [_, _], _ => rfl) (fun f cdv Ar outer s H E ds d hr h => ?_)
  obtain ⟨p, ns, k, rfl, hn, hl, hk, rfl⟩ := h
  obtain ⟨b1, b2, b3⟩ := bits_pow k (mem11 hk)
  have pos : 0 < 2 ^ k := Nat.pow_pos (by decide)
  refine dss_cons (ds_if (dt_not (dt_val (z := true) (d_call G hr (da_cons (d_name 0) (da_cons (d_name 1) (da_cons d_int (da_cons (d_globI C.entries) da_nil)))) ⟨p, 1, 1024, ns, rfl, by omega, by omega, by omega, hn, rfl⟩))) (fun h => absurd h (by decide)) (fun _ => dss_nil ?_))
  have el : ((ns.map PyData.int).length : Int) = ((2 ^ k : Nat) : Int) := by rw [List.length_map, hl]
  exact dss_one (ds_ret (d_cmp (d_bin (d_callB (da_cons (d_name 1) da_nil) (cd_lenT.to (by rw [el])) B.len) (d_bin (d_callB (da_cons (d_name 1) da_nil) (cd_lenT.to (by rw [el])) B.len) d_int od_sub) od_and) d_int od_eqI) (by rw [b2]; rfl))
theorem sc_bits_of : FnScope ["names", "index", "at"] ["names", "index"] (defScope s_bits_of) := ⟨rfl, rfl, rfl, by decide +kernel, rfl, by decide +kernel, by decide +kernel⟩
def A_bits_of (ds : List PyData) (d : PyData) : Prop := ∃ n ix : Nat, ds = [.int n, .int ix] ∧ n ≤ 20 ∧ d = .tuple ((bitsI n ix).map .int)
theorem g_bits_of (F : DefAt K mg "bits_of" s_bits_of []) (B : Blt mg) : Good P w K mg base "bits_of" [] 1 A_bits_of := by
  refine good_of false F sc_bits_of (by rintro ds d ⟨m, n, rfl, _⟩; rfl) (fun _ _ _ _ _ _ us hl => match us, hl with | [_, _], _ => rfl) (fun f cdv Ar outer s H E ds d hr h => ?_)
  obtain ⟨n, ix, rfl, hn, rfl⟩ := h
  refine dss_one (ds_ret (d_callTy (da_cons (d_new (lc1 (out := (bitsI n ix).map .int) 2 sc_bits_of.nd (id_rng1 (n := (n : Int)) (da_cons (d_name 0) da_nil) (by omega) B.range) (by unfold bitsI; simp) (by simp; omega) (fun i d o hd ho => ?_))) da_nil) cd_tuple B.tuple) rfl)
  obtain ⟨hi, rfl⟩ := range_get hd
  unfold bitsI at ho
  rw [List.map_map] at ho
  obtain ⟨_, rfl⟩ := range_get ho
  refine ⟨rfl, fun s H C cl fp => ?_⟩
  have hi2 : i < n := by omega
  refine d_bin (d_bin (d_name 1) (d_bin (d_bin (d_name 0) d_int od_sub) (d_name 2) od_sub) (od_shr (by omega))) d_int ?_
  have e : ((ix : Int) / 2 ^ ((n : Int) - 1 - (0 + (i : Int))).toNat) = ((ix / 2 ^ (n - 1 - i) : Nat) : Int) := by
    have e1 : ((n : Int) - 1 - (0 + (i : Int))).toNat = n - 1 - i := by omega
    rw [e1, Int.natCast_ediv, Int.natCast_pow]; rfl
  rw [e]
  exact od_and1
theorem sc_half : FnScope ["p", "table", "number", "middle", "at"] ["p", "table", "number"] (defScope s_half) := ⟨rfl, rfl, rfl, by decide +kernel, rfl, by decide +kernel, by decide +kernel⟩
def A_half (ds : List PyData) (d : PyData) : Prop := ∃ (p x : Int) (ns : List Int) (m : Nat), ds = [.int p, .tuple (ns.map .int), .int x] ∧ ns.length = 2 * m ∧ m ≤ 2000 ∧ 0 < p ∧ 0 ≤ x ∧ x < 2 ^ 32 ∧ d = .tuple ((halfL p ns x m).map .int)
theorem g_half (F : DefAt K mg "half" s_half []) (B : Blt mg) : Good P w K mg base "half" [] 1 A_half := by
  refine good_of false F sc_half (by rintro ds d ⟨m, n, k, l, rfl, _⟩; rfl) (fun _ _ _ _ _ _ us hl => match us, hl with | [_, _, _], _ => rfl) (fun f cdv Ar outer s H E ds d hr h => ?_)
  obtain ⟨p, x, ns, m, rfl, hl, hm, hp, x0, x1, rfl⟩ := h
  refine dss_cons (ds_set 3 sc_half.nd (d_bin (d_callB (da_cons (d_name 1) da_nil) (cd_lenT.to (d' := .int ((2 * m : Nat) : Int)) (by rw [List.length_map, hl])) B.len) d_int ((od_fdiv ⟨by omega, by decide⟩).to (d' := .int (m : Int)) (by congr 1; omega))) ?_)
  refine dss_one (ds_ret (d_callTy (da_cons (d_new (lc1 (out := (halfL p ns x m).map .int) 4 sc_half.nd (id_rng1 (n := (m : Int)) (da_cons (d_name 3) da_nil) (by omega) B.range) (by rw [List.length_map, halfL_len]; simp) (by simp; omega) (fun i d o hd ho => ?_))) da_nil) cd_tuple B.tuple) rfl)
  obtain ⟨hi, rfl⟩ := range_get hd
  unfold halfL at ho
  rw [List.map_map] at ho
  obtain ⟨_, rfl⟩ := range_get ho
  refine ⟨rfl, fun s H C cl fp => ?_⟩
  have hi2 : i < m := by omega
  have a1 : atI (ns.map PyData.int) (0 + (i : Int)) = some (.int (ns.getD i 0)) := by rw [Int.zero_add]; exact atI_int (by omega)
  have a2 : atI (ns.map PyData.int) ((m : Int) + (0 + (i : Int))) = some (.int (ns.getD (m + i) 0)) := by
    have e : (m : Int) + (0 + (i : Int)) = ((m + i : Nat) : Int) := by omega
    rw [e]; exact atI_int (by omega)
  exact d_bin (d_bin (d_ixT (d_name 1) (d_name 4) a1) (d_bin (d_name 2) (d_bin (d_ixT (d_name 1) (d_bin (d_name 3) (d_name 4) od_add) a2) (d_ixT (d_name 1) (d_name 4) a1) od_sub) (od_mulS (cmul_small x0 x1))) od_add) (d_name 0) (od_mod hp)
theorem sc_spread_at : FnScope ["p", "table", "point", "number"] ["p", "table", "point"] (defScope s_spread_at) := ⟨rfl, rfl, rfl, by decide +kernel, rfl, by decide +kernel, by decide +kernel⟩
def A_spread_at (ds : List PyData) (d : PyData) : Prop := ∃ (p : Int) (ns xs : List Int), ds = [.int p, .tuple (ns.map .int), .list (xs.map .int)] ∧ ns.length = 2 ^ xs.length ∧ xs.length ≤ 10 ∧ 0 < p ∧ (∀ x ∈ xs, 0 ≤ x ∧ x < 2 ^ 32) ∧ d = .int (spreadL p ns xs)
theorem g_spread_at (F : DefAt K mg "spread_at" s_spread_at []) (G : Good P w K mg base "half" [] 1 A_half) : Good P w K mg base "spread_at" [] 2 A_spread_at := by
  refine good_of false F sc_spread_at (by rintro ds d ⟨m, n, k, rfl, _⟩; rfl) (fun _ _ _ _ _ _ us hl => match us, hl with | [_, _, _], _ => rfl) (fun f cdv Ar outer s H E ds d hr h => ?_)
  obtain ⟨p, ns, xs, rfl, hl, hx, hp, hxs, rfl⟩ := h
  refine dss_cons (ds_for 3 sc_spread_at.nd (id_list (ds := xs.map .int) (d_name 2)) (fun i st' => ∃ tab y, st' = ⟨[some (.int p), some (.tuple (tab.map .int)), some (.list (xs.map .int)), y], none⟩ ∧ i ≤ xs.length ∧ tab.length = 2 ^ (xs.length - i) ∧ spreadL p tab (xs.drop i) = spreadL p ns xs) ⟨ns, none, rfl, Nat.zero_le _, hl, rfl⟩ ?_ ?_)
  · rintro i d st' hd ⟨tab, y, rfl, hi, ht, e⟩
    obtain ⟨x, hx1, rfl, hm⟩ := map_get hd
    obtain ⟨hi2, hx2⟩ := List.getElem?_eq_some_iff.mp hx1
    have hk : 2 ^ (xs.length - i) = 2 * 2 ^ (xs.length - (i + 1)) := by
      have : xs.length - i = (xs.length - (i + 1)) + 1 := by omega
      rw [this, Nat.pow_succ]; omega
    have hk2 : 2 ^ (xs.length - (i + 1)) ≤ 2 ^ 10 := Nat.pow_le_pow_right (by decide) (by omega)
    refine dss_one (ds_set 1 sc_spread_at.nd (d_call G hr (da_cons (d_name 0) (da_cons (d_name 1) (da_cons (d_name 3) da_nil))) ⟨p, x, tab, 2 ^ (xs.length - (i + 1)), rfl, by rw [ht, hk], by omega, hp, (hxs x hm).1, (hxs x hm).2, rfl⟩) ?_)
    refine ⟨_, _, rfl, hi2, halfL_len _ _ _ _, ?_⟩
    rw [← e, List.drop_eq_getElem_cons hi2, hx2]
    show _ = spreadL p (halfL p tab x (tab.length / 2)) _
    rw [ht, hk, Nat.mul_div_cancel_left _ (by decide)]
  · rintro st' ⟨tab, y, rfl, hi, ht, e⟩
    rw [List.length_map, List.drop_length] at e
    rw [List.length_map, Nat.sub_self] at ht
    refine dss_one (ds_ret (d_ixT (ds := tab.map .int) (d_name 1) d_int (atI_int (i := 0) (by rw [ht]; decide))) ?_)
    show PyData.int (tab.getD 0 0) = _
    rw [← e]; rfl
end
end Wb
/-! ## D6 -/
set_option maxHeartbeats 4000000
namespace Wb
open PySem PySem.Spec PyProof.Rows L2
/-! ### rules as data: tables joined by times -/
inductive Ru where
  | tab (ns : List Int) (ix : List Nat)
  | tim (a b : Ru)
def nameD (i : Nat) : PyData := .tuple [.str "name", .int i]
def ruD : Ru → PyData
  | .tab ns ix => .tuple [.str "table", .tuple (ns.map .int), .tuple (ix.map nameD)]
  | .tim a b => .tuple [.str "times", ruD a, ruD b]
def okR (p : Int) (many : Nat) : Ru → Prop
  | .tab ns ix => (∀ n ∈ ns, 0 ≤ n ∧ n < p) ∧ ns.length = 2 ^ ix.length ∧ ix.length ≤ 10 ∧ ∀ i ∈ ix, i < many
  | .tim a b => okR p many a ∧ okR p many b
def nodes : Ru → Nat
  | .tab _ _ => 1
  | .tim a b => 1 + nodes a + nodes b
def high : Ru → Nat
  | .tab _ _ => 1
  | .tim a b => max (high a) (high b) + 1
def valR (p : Int) : Ru → List Int → Int
  | .tab ns ix, xs => spreadL p ns (ix.map fun i => xs.getD i 0)
  | .tim a b, xs => valR p a xs * valR p b xs % p
def degR (many : Nat) : Ru → List Int
  | .tab _ ix => (List.range many).map fun j => ((ix.countP fun i => i == j : Nat) : Int)
  | .tim a b => List.zipWith (· + ·) (degR many a) (degR many b)
def valuesL (p : Int) (many : Nat) (r : Ru) : List Int := (List.range (2 ^ many)).map fun ix => valR p r (bitsI many ix)
theorem nodes_pos : ∀ r : Ru, 0 < nodes r
  | .tab _ _ => Nat.one_pos
  | .tim a b => by show 0 < 1 + nodes a + nodes b; omega
theorem high_pos : ∀ r : Ru, 0 < high r
  | .tab _ _ => Nat.one_pos
  | .tim a b => Nat.succ_pos _
theorem frozen_ints (ns : List Int) : frozenAll (ns.map .int) = true := by
  induction ns with
  | nil => rfl
  | cons n ns ih => show (true && _) = true; rw [ih]; rfl
theorem frozen_names (ix : List Nat) : frozenAll (ix.map nameD) = true := by
  induction ix with
  | nil => rfl
  | cons n ns ih => show (true && _) = true; rw [ih]; rfl
theorem frozen_ruD : ∀ r : Ru, frozen (ruD r) = true
  | .tab ns ix => by
    show (true && (frozenAll (ns.map .int) && (frozenAll (ix.map nameD) && true))) = true
    rw [frozen_ints, frozen_names]; rfl
  | .tim a b => by
    show (true && (frozen (ruD a) && (frozen (ruD b) && true))) = true
    rw [frozen_ruD a, frozen_ruD b]; rfl
theorem str_name : PyData.canLay0 (.str "name") = true := by decide +kernel
theorem str_table : PyData.canLay0 (.str "table") = true := by decide +kernel
theorem str_times : PyData.canLay0 (.str "times") = true := by decide +kernel
theorem lay_ints (ns : List Int) : PyData.canLayAll0 (ns.map .int) = true := by
  induction ns with
  | nil => rfl
  | cons n ns ih => show (true && _) = true; rw [ih]; rfl
theorem lay_name (i : Nat) : PyData.canLay0 (nameD i) = true := by
  show (PyData.canLay0 (.str "name") && (true && true)) = true
  rw [str_name]; rfl
theorem lay_names (ix : List Nat) : PyData.canLayAll0 (ix.map nameD) = true := by
  induction ix with
  | nil => rfl
  | cons n ns ih =>
    show (PyData.canLay0 (nameD n) && PyData.canLayAll0 (ns.map nameD)) = true
    rw [ih, lay_name]; rfl
theorem lay_ruD : ∀ r : Ru, PyData.canLay0 (ruD r) = true
  | .tab ns ix => by
    show (PyData.canLay0 (.str "table") && (PyData.canLayAll0 (ns.map .int) && (PyData.canLayAll0 (ix.map nameD) && true))) = true
    rw [lay_ints, lay_names, str_table]; rfl
  | .tim a b => by
    show (PyData.canLay0 (.str "times") && (PyData.canLay0 (ruD a) && (PyData.canLay0 (ruD b) && true))) = true
    rw [lay_ruD a, lay_ruD b, str_times]; rfl
theorem depth_ints (ns : List Int) : PyData.depthAll (ns.map .int) = 0 := by
  induction ns with
  | nil => rfl
  | cons n ns ih => show max 0 _ = 0; rw [ih]; rfl
theorem depth_names (ix : List Nat) : PyData.depthAll (ix.map nameD) ≤ 1 := by
  induction ix with
  | nil => exact Nat.zero_le _
  | cons n ns ih =>
    show max 1 (PyData.depthAll (ns.map nameD)) ≤ 1
    omega
theorem depth_ruD : ∀ r : Ru, PyData.depth (ruD r) ≤ nodes r + 2
  | .tab ns ix => by
    have h := depth_names ix
    show max 0 (max (PyData.depthAll (ns.map .int) + 1) (max (PyData.depthAll (ix.map nameD) + 1) 0)) + 1 ≤ 1 + 2
    rw [depth_ints]
    omega
  | .tim a b => by
    have h1 := depth_ruD a
    have h2 := depth_ruD b
    show max 0 (max (PyData.depth (ruD a)) (max (PyData.depth (ruD b)) 0)) + 1 ≤ 1 + nodes a + nodes b + 2
    omega
theorem shaped_ruD {r : Ru} (h : nodes r ≤ 50) : SeqAt.shaped (ruD r) = true := by
  unfold SeqAt.shaped
  rw [lay_ruD, decide_eq_true (show PyData.depth (ruD r) ≤ 64 by have := depth_ruD r; omega)]; rfl
theorem shaped_name (i : Nat) : SeqAt.shaped (nameD i) = true := by
  unfold SeqAt.shaped
  rw [lay_name]; rfl
theorem halfL_rng {p : Int} (hp : 0 < p) (ns : List Int) (x : Int) (m : Nat) : ∀ n ∈ halfL p ns x m, 0 ≤ n ∧ n < p := fun n h => by
  unfold halfL at h
  obtain ⟨i, _, rfl⟩ := List.mem_map.mp h
  exact mod_rng hp
theorem spreadL_rng {p : Int} (hp : 0 < p) : ∀ (xs ns : List Int), ns.length = 2 ^ xs.length → (∀ n ∈ ns, 0 ≤ n ∧ n < p) → 0 ≤ spreadL p ns xs ∧ spreadL p ns xs < p
  | [], ns, hl, h => by
    have : 0 < ns.length := by rw [hl]; decide
    show 0 ≤ ns.getD 0 0 ∧ ns.getD 0 0 < p
    rw [List.getD_eq_getElem?_getD, List.getElem?_eq_getElem this]
    exact h _ (List.getElem_mem this)
  | x :: xs, ns, hl, h => by
    refine spreadL_rng hp xs _ ?_ (halfL_rng hp _ _ _)
    rw [halfL_len, hl]
    show 2 ^ (xs.length + 1) / 2 = _
    rw [Nat.pow_succ, Nat.mul_div_cancel _ (by decide)]
theorem valR_rng {p : Int} (hp : 0 < p) {many : Nat} : ∀ (r : Ru) (xs : List Int), okR p many r → 0 ≤ valR p r xs ∧ valR p r xs < p
  | .tab ns ix, xs, h => spreadL_rng hp _ ns (by rw [List.length_map]; exact h.2.1) h.1
  | .tim a b, xs, _ => mod_rng hp
theorem degR_len (many : Nat) : ∀ r : Ru, (degR many r).length = many
  | .tab _ ix => by show ((List.range many).map _).length = many; simp
  | .tim a b => by
    show (List.zipWith (· + ·) (degR many a) (degR many b)).length = many
    rw [List.length_zipWith, degR_len many a, degR_len many b]; omega
section
variable {P : Program} {w : World} {K : PySem.W.Frag} {mg : Str → Option Value} {base : Heap}
theorem sc_is_place : FnScope ["p", "many", "value"] ["p", "many", "value"] (defScope s_is_place) := ⟨rfl, rfl, rfl, by decide +kernel, rfl, by decide +kernel, by decide +kernel⟩
def A_is_place (ds : List PyData) (d : PyData) : Prop := ∃ (p : Int) (many i : Nat), ds = [.int p, .int many, nameD i] ∧ i < many ∧ d = .bool true
theorem g_is_place (F : DefAt K mg "is_place" s_is_place []) (B : Blt mg) (G : Good P w K mg base "is_from" [] 2 A_is_from) : Good P w K mg base "is_place" [] 3 A_is_place := by
  refine good_of false F sc_is_place (by rintro ds d ⟨m, n, i, rfl, _⟩; rfl) (fun _ _ _ _ _ _ us hl => match us, hl with | [_, _, _], _ => rfl) (fun f cdv Ar outer s H E ds d hr h => ?_)
  obtain ⟨p, many, i, rfl, hi, rfl⟩ := h
  refine dss_cons (ds_if (z := false) (dt_w (dw_or (z := false) (y := false) (dt_not (z := true) (dt_val (d_isi (d := nameD i) (T := "tuple") (d_name 2) k_tuple_tuple B.isi B.tuple))) (fun _ => dw_or1 (dt_cmp (d_callB (da_cons (d_name 2) da_nil) (cd_lenT (ds := [.str "name", .int i])) B.len) d_int od_neI)))) (fun h => nomatch h) (fun _ => dss_nil ?_))
  refine dss_cons (ds_if (z := true) (dt_cmp (d_ixT (ds := [.str "name", .int i]) (d_name 2) d_int rfl) d_str (od_eqS.to rfl)) (fun _ => dss_one (ds_ret (d_call G hr (da_cons (d_ixT (ds := [.str "name", .int i]) (d_name 2) d_int rfl) (da_cons d_int (da_cons (d_bin (d_name 1) d_int od_sub) da_nil))) ⟨i, 0, (many : Int) - 1, rfl, by rw [decide_eq_true (by omega), decide_eq_true (by omega)]; rfl⟩) rfl)) (fun h => nomatch h))
theorem eqv_ss (i j : Str) : PyData.eqv (.str i) (.str j) = (i == j) := rfl
theorem sc_is_leaf : FnScope ["p", "many", "value", "place"] ["p", "many", "value"] (defScope s_is_leaf) := ⟨rfl, rfl, rfl, by decide +kernel, rfl, by decide +kernel, by decide +kernel⟩
def A_is_leaf (ds : List PyData) (d : PyData) : Prop := ∃ (p : Int) (many : Nat) (ns : List Int) (ix : List Nat), ds = [.int p, .int many, ruD (.tab ns ix)] ∧ okR p many (.tab ns ix) ∧ d = .bool true
theorem g_is_leaf (F : DefAt K mg "is_leaf" s_is_leaf []) (B : Blt mg) (G : Good P w K mg base "is_place" [] 3 A_is_place) (G2 : Good P w K mg base "is_plain_table" [] 5 A_is_plain_table) (G3 : Good P w K mg base "names_in" [] 1 A_names_in) : Good P w K mg base "is_leaf" [] 6 A_is_leaf := by
  refine good_of false F sc_is_leaf (by rintro ds d ⟨m, n, i, j, rfl, _⟩; rfl) (fun _ _ _ _ _ _ us hl => match us, hl with | [_, _, _], _ => rfl) (fun f cdv Ar outer s H E ds d hr h => ?_)
  obtain ⟨p, many, ns, ix, rfl, ⟨h1, h2, h3, h4⟩, rfl⟩ := h
  have tb : ruD (.tab ns ix) = .tuple [.str "table", .tuple (ns.map .int), .tuple (ix.map nameD)] := rfl
  refine dss_cons (ds_if (z := false) (dt_cmp (d_ixT (ds := [.str "table", .tuple (ns.map .int), .tuple (ix.map nameD)]) (d_name 2) d_int rfl) (d_tup (ds := [.str "number", .str "name"]) (da_cons d_str (da_cons d_str da_nil))) ((od_inT (room65 hr) (by decide +kernel) (by decide +kernel)).to (congrArg PyData.bool (by decide +kernel)))) (fun h => nomatch h) (fun _ => dss_nil ?_))
  refine dss_cons (ds_if (z := false) (dt_w (dw_or (z := false) (y := false) (dt_cmp (d_ixT (ds := [.str "table", .tuple (ns.map .int), .tuple (ix.map nameD)]) (d_name 2) d_int rfl) d_str (od_neS.to rfl)) (fun _ => dw_or (z := false) (y := false) (dt_cmp (d_callB (da_cons (d_name 2) da_nil) (cd_lenT (ds := [.str "table", .tuple (ns.map .int), .tuple (ix.map nameD)])) B.len) d_int od_neI)
    (fun _ => dw_or (z := false) (y := false) (dt_not (z := true) (dt_val (d_call G2 hr (da_cons (d_name 0) (da_cons (d_ixT (ds := [.str "table", .tuple (ns.map .int), .tuple (ix.map nameD)]) (d_name 2) d_int rfl) da_nil)) ⟨p, ns, ix.length, rfl, h1, h2, h3, rfl⟩)))
    (fun _ => dw_or1 (dt_not (z := true) (dt_val (d_isi (d := .tuple (ix.map nameD)) (T := "tuple") (d_ixT (ds := [.str "table", .tuple (ns.map .int), .tuple (ix.map nameD)]) (d_name 2) d_int rfl) k_tuple_tuple B.isi B.tuple)))))))) (fun h => nomatch h) (fun _ => dss_nil ?_))
  refine dss_one (ds_ret (d_and (z := true) (d_cmp (d_callB (da_cons (d_ixT (ds := [.str "table", .tuple (ns.map .int), .tuple (ix.map nameD)]) (d_name 2) d_int rfl) da_nil) cd_lenT B.len) (d_call G3 hr (da_cons (d_ixT (ds := [.str "table", .tuple (ns.map .int), .tuple (ix.map nameD)]) (d_name 2) d_int rfl) da_nil) ⟨ns.map .int, ix.length, rfl, by rw [List.length_map]; exact h2, h3, rfl⟩) (od_eqI.to (by rw [List.length_map, decide_eq_true rfl])))
    (fun _ => d_one (d_callB (da_cons (d_new (lc1 (out := (List.replicate ix.length true).map .bool) 3 sc_is_leaf.nd (id_tup (ds := ix.map nameD) (d_ixT (ds := [.str "table", .tuple (ns.map .int), .tuple (ix.map nameD)]) (d_name 2) d_int rfl)) (by simp) (by simp; omega) (fun i d o hd ho => ?_))) da_nil) ((cd_all rfl).to (by rw [all_true])) B.all))) rfl)
  obtain ⟨b, hb', rfl, _⟩ := map_get ho
  obtain ⟨n, hn, rfl, hm'⟩ := map_get hd
  have eb := rep_get hb'
  subst eb
  refine ⟨rfl, fun s H C' cl fp => ?_⟩
  exact d_call G hr (da_cons (d_name 0) (da_cons (d_name 1) (da_cons (d_name 3) da_nil))) ⟨p, many, n, rfl, h4 n hm', rfl⟩
end
end Wb
/-! ## D7 -/
set_option maxHeartbeats 4000000
namespace Wb
open PySem PySem.Spec PyProof.Rows L2
/-! ### the look at a rule, by a stack -/
def prD (x : Ru × Nat) : PyData := .tuple [ruD x.1, .int x.2]
def nodesAll (l : List (Ru × Nat)) : Nat := (l.map fun x => nodes x.1).sum
theorem nodesAll_app (l : List (Ru × Nat)) (x : Ru × Nat) : nodesAll (l ++ [x]) = nodesAll l + nodes x.1 := by
  unfold nodesAll
  rw [List.map_append, List.sum_append]; simp
theorem nodes_le {l : List (Ru × Nat)} {x : Ru × Nat} (h : x ∈ l) : nodes x.1 ≤ nodesAll l := by
  induction l with
  | nil => cases h
  | cons y l ih =>
    show _ ≤ nodes y.1 + nodesAll l
    rcases List.mem_cons.mp h with e | h
    · subst e; omega
    · have := ih h; omega
theorem len_le_nodes : ∀ l : List (Ru × Nat), l.length ≤ nodesAll l
  | [] => Nat.zero_le _
  | y :: l => by
    have h1 := nodes_pos y.1
    have h2 := len_le_nodes l
    show l.length + 1 ≤ nodes y.1 + nodesAll l
    omega
theorem frozen_prs (l : List (Ru × Nat)) : frozenAll (l.map prD) = true := by
  induction l with
  | nil => rfl
  | cons x l ih =>
    show (frozenAll [ruD x.1, .int x.2] && frozenAll (l.map prD)) = true
    rw [ih]
    show ((frozen (ruD x.1) && (true && true)) && true) = true
    rw [frozen_ruD]; rfl
theorem shaped_prs {l : List (Ru × Nat)} (h : nodesAll l ≤ 50) : SeqAt.shaped (.list (l.map prD)) = true := by
  have h1 : PyData.canLayAll0 (l.map prD) = true := by
    clear h
    induction l with
    | nil => rfl
    | cons x l ih =>
      show ((PyData.canLay0 (ruD x.1) && (true && true)) && PyData.canLayAll0 (l.map prD)) = true
      rw [ih, lay_ruD]; rfl
  have h2 : PyData.depthAll (l.map prD) ≤ nodesAll l + 3 := by
    clear h h1
    induction l with
    | nil => exact Nat.zero_le _
    | cons x l ih =>
      have := depth_ruD x.1
      show max (max (PyData.depth (ruD x.1)) (max 0 0) + 1) (PyData.depthAll (l.map prD)) ≤ nodes x.1 + nodesAll l + 3
      omega
  show (PyData.canLayAll0 (l.map prD) && decide (PyData.depthAll (l.map prD) + 1 ≤ 64)) = true
  rw [h1, decide_eq_true (by omega)]; rfl
theorem snoc_of {α : Type} {l : List α} (h : l ≠ []) : ∃ r x, l = r ++ [x] := ⟨l.dropLast, l.getLast h, (List.dropLast_concat_getLast h).symm⟩
/-- the last of a list of Option data is frozen, if known -/
def fzO (o : Option PyData) : Bool := match o with | some d => frozen d | none => true
theorem fz7 {p many wd : Int} {r : Ru} {a b : Option PyData} {l : List (Ru × Nat)} (ha : fzO a = true) (hb : fzO b = true) : DSt.fz ⟨[some (.int p), some (.int many), some (ruD r), none, some (.int wd), a, b], some (3, l.map prD)⟩ = true := by
  show ((true && (true && (frozen (ruD r) && (true && (true && (fzO a && (fzO b && true))))))) && frozenAll (l.map prD)) = true
  rw [frozen_ruD, ha, hb, frozen_prs]; rfl
section
variable {P : Program} {w : World} {K : PySem.W.Frag} {mg : Str → Option Value} {base : Heap}
theorem sc_is_plain_rule : FnScope ["p", "many", "value", "left", "words", "part", "deep"] ["p", "many", "value"] (defScope s_is_plain_rule) := ⟨rfl, rfl, rfl, by decide +kernel, rfl, by decide +kernel, by decide +kernel⟩
def A_is_plain_rule (ds : List PyData) (d : PyData) : Prop := ∃ (p : Int) (many : Nat) (r : Ru), ds = [.int p, .int many, ruD r] ∧ okR p many r ∧ nodes r ≤ 50 ∧ d = .bool true
theorem ruD_tup (r : Ru) : ∃ (s : Str) (d e : PyData), ruD r = .tuple [.str s, d, e] := by
  cases r with
  | tab ns ix => exact ⟨_, _, _, rfl⟩
  | tim a b => exact ⟨_, _, _, rfl⟩
theorem g_is_plain_rule (F : DefAt K mg "is_plain_rule" s_is_plain_rule []) (B : Blt mg) (C : Cst K mg) (G : Good P w K mg base "is_leaf" [] 6 A_is_leaf) : Good P w K mg base "is_plain_rule" [] 7 A_is_plain_rule := by
  refine good_of true F sc_is_plain_rule (by rintro ds d ⟨m, n, i, rfl, _⟩; rfl) (fun _ _ _ _ _ _ us hl => match us, hl with | [_, _, _], _ => rfl) (fun f cdv Ar outer s H E ds d hr h => ?_)
  obtain ⟨p, many, r, rfl, hok, hn, rfl⟩ := h
  obtain ⟨aj, hmj, hdj⟩ := C.joins
  refine dss_cons (ds_parO1 (ds := [prD (r, 1)]) 3 4 sc_is_plain_rule.nd (dl_lst (da_cons (d_tup (ds := [ruD r, .int 1]) (da_cons (d_name 2) (da_cons d_int da_nil))) da_nil)) d_int ?_ (by show 3 < 7; decide))
  refine dss_cons (ds_while (fun m st' => ∃ (l : List (Ru × Nat)) (wd : Nat) (a b : Option PyData), st' = ⟨[some (.int p), some (.int many), some (ruD r), none, some (.int wd), a, b], some (3, l.map prD)⟩ ∧ fzO a = true ∧ fzO b = true ∧ m = nodesAll l ∧ wd + nodesAll l = nodes r ∧ ∀ x ∈ l, okR p many x.1 ∧ x.2 ≤ wd + 1) (nodes r) ⟨[(r, 1)], 0, none, none, rfl, rfl, rfl, by unfold nodesAll; simp, by unfold nodesAll; simp, fun x hx => by
    have e : x = (r, 1) := List.mem_singleton.mp hx
    subst e
    exact ⟨hok, Nat.le_refl _⟩⟩ ?_)
  rintro m st' ⟨l, wd, a, b, rfl, fa, fb, rfl, hw, hl⟩
  refine ⟨!l.isEmpty, dt_cmp (d_name (d := .list (l.map prD)) 3) (d_lst (ds := []) da_nil) ((od_neD (room64 hr) (shaped_prs (by omega)) (by decide +kernel)).to (congrArg PyData.bool ?_)), fun z => ?_, fun z => dss_one (ds_ret d_bl rfl)⟩
  · cases l with
    | nil => rfl
    | cons x l => rfl
  · have ne : l ≠ [] := fun e => by subst e; cases z
    obtain ⟨l', ⟨q, k⟩, rfl⟩ := snoc_of ne
    rw [nodesAll_app] at hw
    have hw : wd + (nodesAll l' + nodes q) = nodes r := hw
    have hq := hl (q, k) (List.mem_append_right _ (List.mem_singleton.mpr rfl))
    have hl' : ∀ x ∈ l', okR p many x.1 ∧ x.2 ≤ wd + 1 := fun x hx => hl x (List.mem_append_left _ hx)
    have eo : (l' ++ [(q, k)]).map prD = l'.map prD ++ [.tuple [ruD q, .int k]] := by rw [List.map_append]; rfl
    have hfz : DSt.fz ⟨[some (.int p), some (.int many), some (ruD r), none, some (.int (wd : Int)), a, b], some (3, (l' ++ [(q, k)]).map prD)⟩ = true := fz7 fa fb
    rw [eo] at hfz
    rw [eo]
    refine dss_cons (ds_pop2 (xs := l'.map prD) (d1 := ruD q) (d2 := .int k) 3 5 6 sc_is_plain_rule.nd rfl hfz ?_)
    refine dss_cons (ds_aug (n := (wd : Int)) (m := 1) 4 sc_is_plain_rule.nd rfl d_int ?_)
    have hk : (k : Int) ≤ 400 := by have := hq.2; have := nodes_pos q; omega
    refine dss_cons (ds_if (z := false) (dt_w (dw_or (z := false) (y := false) (dt_cmp (d_name 4) (d_globI C.words) (od_gt.to (by rw [decide_eq_false (by omega)]))) (fun _ => dw_or1 (dt_cmp (d_name 6) (d_globI C.depth) (od_gt.to (by rw [decide_eq_false (by omega)])))))) (fun h => nomatch h) (fun _ => dss_nil ?_))
    obtain ⟨sq, dq1, dq2, eq⟩ := ruD_tup q
    have hq5 : nodes q ≤ 50 := by omega
    refine dss_cons (ds_if (z := false) (dt_w (dw_or (z := false) (y := false) (dt_not (z := true) (dt_val (d_isi (d := .tuple [.str sq, dq1, dq2]) (T := "tuple") ((d_name (d := ruD q) 5).to eq) k_tuple_tuple B.isi B.tuple))) (fun _ => dw_or (z := false) (y := false) (dt_cmp (d_name (d := ruD q) 5) (d_tup (ds := []) da_nil) ((od_eqD (room64 hr) (shaped_ruD hq5) (by decide +kernel)).to (congrArg PyData.bool (by rw [eq]; rfl))))
      (fun _ => dw_or1 (dt_not (z := true) (dt_val (d_isi (d := .str sq) (T := "str") (d_ixT (ds := [.str sq, dq1, dq2]) ((d_name (d := ruD q) 5).to eq) d_int rfl) k_str_str B.isi B.str))))))) (fun h => nomatch h) (fun _ => dss_nil ?_))
    have fin : ∀ (l2 : List (Ru × Nat)), nodesAll l2 < nodesAll l' + nodes q → (wd + 1 + nodesAll l2 = nodes r) → (∀ x ∈ l2, okR p many x.1 ∧ x.2 ≤ wd + 1 + 1) → ∃ m', m' < nodesAll (l' ++ [(q, k)]) ∧ ∃ (l : List (Ru × Nat)) (wd' : Nat) (a b : Option PyData), (⟨[some (.int p), some (.int many), some (ruD r), none, some (.int ((wd : Int) + 1)), some (ruD q), some (.int k)], some (3, l2.map prD)⟩ : DSt) = ⟨[some (.int p), some (.int many), some (ruD r), none, some (.int wd'), a, b], some (3, l.map prD)⟩ ∧ fzO a = true ∧ fzO b = true ∧ m' = nodesAll l ∧ wd' + nodesAll l = nodes r ∧ ∀ x ∈ l, okR p many x.1 ∧ x.2 ≤ wd' + 1 := fun l2 h1 h2 h3 =>
      ⟨nodesAll l2, by rw [nodesAll_app]; exact h1, l2, wd + 1, some (ruD q), some (.int k), rfl, frozen_ruD q, rfl, rfl, h2, h3⟩
    have hl2 : ∀ x ∈ l', okR p many x.1 ∧ x.2 ≤ wd + 1 + 1 := fun x hx => ⟨(hl' x hx).1, by have := (hl' x hx).2; omega⟩
    cases q with
    | tab ns ix =>
      refine dss_one (ds_if (z := false) (dt_cmp (d_ixT (ds := [.str "table", .tuple (ns.map .int), .tuple (ix.map nameD)]) (d_name 5) d_int rfl) (d_glob (v := .ref aj) hmj rfl hdj) ((od_inT (room65 hr) (by decide +kernel) (by decide +kernel)).to (congrArg PyData.bool (by decide +kernel)))) (fun h => nomatch h) (fun _ => ?_))
      refine dss_one (ds_if (z := false) (dt_not (z := true) (dt_val (d_call G hr (da_cons (d_name 0) (da_cons (d_name 1) (da_cons (d_name 5) da_nil))) ⟨p, many, ns, ix, rfl, hq.1, rfl⟩))) (fun h => nomatch h) (fun _ => dss_nil ?_))
      exact fin l' (by show _ < nodesAll l' + 1; omega) (by have : wd + (nodesAll l' + 1) = nodes r := hw; omega) hl2
    | tim qa qb =>
      refine dss_one (ds_if (z := true) (dt_cmp (d_ixT (ds := [.str "times", ruD qa, ruD qb]) (d_name 5) d_int rfl) (d_glob (v := .ref aj) hmj rfl hdj) ((od_inT (room65 hr) (by decide +kernel) (by decide +kernel)).to (congrArg PyData.bool (by decide +kernel)))) (fun _ => ?_) (fun h => nomatch h))
      refine dss_cons (ds_if (z := false) (dt_cmp (d_callB (da_cons (d_name 5) da_nil) (cd_lenT (ds := [.str "times", ruD qa, ruD qb])) B.len) d_int od_neI) (fun h => nomatch h) (fun _ => dss_nil ?_))
      have ex (x : Ru) : frozen (prD (x, k + 1)) = true := by
        show (frozen (ruD x) && (true && true)) = true
        rw [frozen_ruD]; rfl
      have hqq : wd + (nodesAll l' + (1 + nodes qa + nodes qb)) = nodes r := hw
      have lz : (l'.map prD).length ≤ nodesAll l' := by
        rw [List.length_map]
        exact len_le_nodes l'
      refine dss_cons (ds_app (xs := l'.map prD) (d := prD (qa, k + 1)) 3 rfl (fz7 (frozen_ruD (.tim qa qb)) rfl) (d_tup (ds := [ruD qa, .int ((k + 1 : Nat) : Int)]) (da_cons (d_ixT (ds := [.str "times", ruD qa, ruD qb]) (d_name 5) d_int rfl) (da_cons (d_bin (d_name 6) d_int od_add) da_nil))) (ex qa) (by omega) ?_)
      have e1 : l'.map prD ++ [prD (qa, k + 1)] = (l' ++ [(qa, k + 1)]).map prD := by rw [List.map_append]; rfl
      rw [e1]
      refine dss_one (ds_app (xs := (l' ++ [(qa, k + 1)]).map prD) (d := prD (qb, k + 1)) 3 rfl (fz7 (frozen_ruD (.tim qa qb)) rfl) (d_tup (ds := [ruD qb, .int ((k + 1 : Nat) : Int)]) (da_cons (d_ixT (ds := [.str "times", ruD qa, ruD qb]) (d_name 5) d_int rfl) (da_cons (d_bin (d_name 6) d_int od_add) da_nil))) (ex qb) (by rw [← e1, List.length_append]; show _ + 1 < _; omega) ?_)
      have e2 : (l' ++ [(qa, k + 1)]).map prD ++ [prD (qb, k + 1)] = (l' ++ [(qa, k + 1)] ++ [(qb, k + 1)]).map prD := by rw [List.map_append (l₁ := l' ++ [(qa, k + 1)])]; rfl
      rw [e2]
      refine fin _ ?_ ?_ ?_
      · rw [nodesAll_app, nodesAll_app]
        show nodesAll l' + nodes qa + nodes qb < nodesAll l' + (1 + nodes qa + nodes qb)
        omega
      · rw [nodesAll_app, nodesAll_app]
        show wd + 1 + (nodesAll l' + nodes qa + nodes qb) = _
        omega
      · intro x hx
        rcases List.mem_append.mp hx with hx | hx
        · rcases List.mem_append.mp hx with hx | hx
          · exact hl2 x hx
          · have e : x = (qa, k + 1) := List.mem_singleton.mp hx
            subst e
            exact ⟨hq.1.1, by have : k ≤ wd + 1 := hq.2; show k + 1 ≤ _; omega⟩
        · have e : x = (qb, k + 1) := List.mem_singleton.mp hx
          subst e
          exact ⟨hq.1.2, by have : k ≤ wd + 1 := hq.2; show k + 1 ≤ _; omega⟩
end
end Wb
/-! ## D8 -/
set_option maxHeartbeats 4000000
namespace Wb
open PySem PySem.Spec PyProof.Rows L2
/-! ### values and degrees of rules -/
theorem int_get {ns : List Int} {i : Nat} {o : PyData} (h : (ns.map PyData.int)[i]? = some o) : o = .int (ns.getD i 0) := by
  obtain ⟨n, h1, rfl, _⟩ := map_get h
  rw [List.getD_eq_getElem?_getD, h1]; rfl
theorem frozen_kept (keep : Nat → Bool) (gg : Nat → PyData) : True := trivial
theorem kept_length (keep : Nat → Bool) (gg : Nat → PyData) (n : Nat) : (kept keep gg n).length = (List.range n).countP keep := by
  unfold kept
  rw [List.length_map, List.countP_eq_length_filter]
theorem countP_ix (ix : List Nat) (j : Nat) : (List.range ix.length).countP (fun i => decide (ix[i]? = some j)) = ix.countP fun i => i == j := by
  induction ix with
  | nil => rfl
  | cons x ix ih =>
    rw [List.length_cons, List.range_succ_eq_map, List.countP_cons, List.countP_cons, List.countP_map, ← ih]
    congr 1
    by_cases e : x = j
    · subst e; simp
    · simp [e]
theorem eqv_name (i j : Nat) : PyData.eqv (nameD i) (nameD j) = decide (i = j) := by
  show (true && (PyData.eqv (.int i) (.int j) && true)) = _
  rw [eqv_ii]
  by_cases e : i = j
  · subst e; simp
  · rw [decide_eq_false e, decide_eq_false (by omega)]; rfl
section
variable {P : Program} {w : World} {K : PySem.W.Frag} {mg : Str → Option Value} {base : Heap}
theorem sc_place_at : FnScope ["place", "point"] ["place", "point"] (defScope s_place_at) := ⟨rfl, rfl, rfl, by decide +kernel, rfl, by decide +kernel, by decide +kernel⟩
def A_place_at (ds : List PyData) (d : PyData) : Prop := ∃ (i : Nat) (xs : List Int), ds = [nameD i, .tuple (xs.map .int)] ∧ i < xs.length ∧ d = .int (xs.getD i 0)
theorem g_place_at (F : DefAt K mg "place_at" s_place_at []) : Good P w K mg base "place_at" [] 1 A_place_at := by
  refine good_of false F sc_place_at (by rintro ds d ⟨m, n, rfl, _⟩; rfl) (fun _ _ _ _ _ _ us hl => match us, hl with | [_, _], _ => rfl) (fun f cdv Ar outer s H E ds d hr h => ?_)
  obtain ⟨i, xs, rfl, hi, rfl⟩ := h
  exact dss_one (ds_ret (d_if (z := false) (dt_cmp (d_ixT (ds := [.str "name", .int i]) (d_name 0) d_int rfl) d_str (od_eqS.to (congrArg PyData.bool (by decide +kernel)))) (fun h => nomatch h) (fun _ => d_ixT (ds := xs.map .int) (d_name 1) (d_ixT (ds := [.str "name", .int i]) (d_name 0) d_int rfl) (atI_int hi))) rfl)
theorem sc_value_at : FnScope ["p", "rule", "point", "word", "one", "other", "place"] ["p", "rule", "point"] (defScope s_value_at) := ⟨rfl, rfl, rfl, by decide +kernel, rfl, by decide +kernel, by decide +kernel⟩
def A_value (n : Nat) (ds : List PyData) (d : PyData) : Prop := ∃ (p : Int) (r : Ru) (xs : List Int), ds = [.int p, ruD r, .tuple (xs.map .int)] ∧ high r ≤ n ∧ okR p xs.length r ∧ (∀ x ∈ xs, 0 ≤ x ∧ x < 2 ^ 32) ∧ 0 < p ∧ p < 2 ^ 32 ∧ d = .int (valR p r xs)
theorem g_value_at (F : DefAt K mg "value_at" s_value_at []) (G : Good P w K mg base "place_at" [] 1 A_place_at) (G2 : Good P w K mg base "spread_at" [] 2 A_spread_at) : ∀ n : Nat, Good P w K mg base "value_at" [] (n + 3) (A_value n)
  | n => by
    have ih : ∀ m, n = m + 1 → Good P w K mg base "value_at" [] (m + 3) (A_value m) := fun m e => by
      subst e
      exact g_value_at F G G2 m
    refine good_of false F sc_value_at (by rintro ds d ⟨m, n, k, rfl, _⟩; rfl) (fun _ _ _ _ _ _ us hl => match us, hl with | [_, _, _], _ => rfl) (fun f cdv Ar outer s H E ds d hr h => ?_)
    obtain ⟨p, r, xs, rfl, hh, hok, hx, hp, hp2, rfl⟩ := h
    cases r with
    | tab ns ix =>
      refine dss_cons (ds_set 3 sc_value_at.nd (d_ixT (ds := [.str "table", .tuple (ns.map .int), .tuple (ix.map nameD)]) (d_name 1) d_int rfl) ?_)
      refine dss_cons (ds_if (z := false) (dt_w (dw_or (z := false) (y := false) (dt_cmp (d_name 3) d_str (od_eqS.to (congrArg PyData.bool (by decide +kernel)))) (fun _ => dw_or1 (dt_cmp (d_name 3) d_str (od_eqS.to (congrArg PyData.bool (by decide +kernel))))))) (fun h => nomatch h) (fun _ => dss_nil ?_))
      refine dss_cons (ds_if (z := true) (dt_cmp (d_name 3) d_str (od_eqS.to (congrArg PyData.bool (by decide +kernel)))) (fun _ => ?_) (fun h => nomatch h))
      refine dss_one (ds_ret (d_call G2 hr (da_cons (d_name 0) (da_cons (d_ixT (ds := [.str "table", .tuple (ns.map .int), .tuple (ix.map nameD)]) (d_name 1) d_int rfl) (da_cons (d_new (lc1 (out := (ix.map fun i => xs.getD i 0).map .int) 6 sc_value_at.nd (id_tup (ds := ix.map nameD) (d_ixT (ds := [.str "table", .tuple (ns.map .int), .tuple (ix.map nameD)]) (d_name 1) d_int rfl)) (by simp) (by simp; have := hok.2.2.1; omega) (fun i d o hd ho => ?_))) da_nil))) ⟨p, ns, ix.map fun i => xs.getD i 0, rfl, by rw [List.length_map]; exact hok.2.1, by rw [List.length_map]; exact hok.2.2.1, hp, ?_, rfl⟩ (Nat.le_add_left _ _)) rfl)
      · obtain ⟨j, h1, rfl, hj⟩ := map_get hd
        rw [List.map_map] at ho
        obtain ⟨j', h1', rfl, _⟩ := map_get ho
        rw [h1] at h1'
        cases h1'
        refine ⟨rfl, fun s H C cl fp => ?_⟩
        exact d_call G hr (da_cons (d_name 6) (da_cons (d_name 2) da_nil)) ⟨j, xs, rfl, hok.2.2.2 j hj, rfl⟩ (Nat.le_trans (by decide) (Nat.le_add_left 2 n))
      · intro x hxm
        obtain ⟨j, hj, rfl⟩ := List.mem_map.mp hxm
        have hl := hok.2.2.2 j hj
        rw [List.getD_eq_getElem?_getD, List.getElem?_eq_getElem hl]
        exact hx _ (List.getElem_mem hl)
    | tim a b =>
      have h1 : max (high a) (high b) + 1 ≤ n := hh
      obtain ⟨m, rfl⟩ : ∃ m, n = m + 1 := ⟨n - 1, by omega⟩
      have G3 := ih m rfl
      have ra := valR_rng hp a xs hok.1
      have rb := valR_rng hp b xs hok.2
      refine dss_cons (ds_set 3 sc_value_at.nd (d_ixT (ds := [.str "times", ruD a, ruD b]) (d_name 1) d_int rfl) ?_)
      refine dss_cons (ds_if (z := false) (dt_w (dw_or (z := false) (y := false) (dt_cmp (d_name 3) d_str (od_eqS.to (congrArg PyData.bool (by decide +kernel)))) (fun _ => dw_or1 (dt_cmp (d_name 3) d_str (od_eqS.to (congrArg PyData.bool (by decide +kernel))))))) (fun h => nomatch h) (fun _ => dss_nil ?_))
      refine dss_cons (ds_if (z := false) (dt_cmp (d_name 3) d_str (od_eqS.to (congrArg PyData.bool (by decide +kernel)))) (fun h => nomatch h) (fun _ => dss_nil ?_))
      refine dss_cons (ds_par 4 5 sc_value_at.nd (d_call G3 hr (da_cons (d_name 0) (da_cons (d_ixT (ds := [.str "times", ruD a, ruD b]) (d_name 1) d_int rfl) (da_cons (d_name 2) da_nil))) ⟨p, a, xs, rfl, by omega, hok.1, hx, hp, hp2, rfl⟩ (Nat.le_refl _)) (d_call G3 hr (da_cons (d_name 0) (da_cons (d_ixT (ds := [.str "times", ruD a, ruD b]) (d_name 1) d_int rfl) (da_cons (d_name 2) da_nil))) ⟨p, b, xs, rfl, by omega, hok.2, hx, hp, hp2, rfl⟩ (Nat.le_refl _)) ?_)
      refine dss_cons (ds_if (z := true) (dt_cmp (d_name 3) d_str (od_eqS.to (congrArg PyData.bool (by decide +kernel)))) (fun _ => ?_) (fun h => nomatch h))
      exact dss_one (ds_ret (d_bin (d_bin (d_name 4) (d_name 5) (od_mulS (cmul_small ra.1 (by omega)))) (d_name 0) (od_mod hp)) rfl)
theorem sc_values_of : FnScope ["p", "many", "rule", "index"] ["p", "many", "rule"] (defScope s_values_of) := ⟨rfl, rfl, rfl, by decide +kernel, rfl, by decide +kernel, by decide +kernel⟩
def A_values_of (ds : List PyData) (d : PyData) : Prop := ∃ (p : Int) (many : Nat) (r : Ru), ds = [.int p, .int many, ruD r] ∧ many ≤ 10 ∧ high r ≤ 5 ∧ okR p many r ∧ 0 < p ∧ p < 2 ^ 32 ∧ d = .list ((valuesL p many r).map .int)
theorem g_values_of (F : DefAt K mg "values_of" s_values_of []) (B : Blt mg) (G : Good P w K mg base "value_at" [] 8 (A_value 5)) (G2 : Good P w K mg base "bits_of" [] 1 A_bits_of) : Good P w K mg base "values_of" [] 9 A_values_of := by
  refine good_of false F sc_values_of (by rintro ds d ⟨m, n, k, rfl, _⟩; rfl) (fun _ _ _ _ _ _ us hl => match us, hl with | [_, _, _], _ => rfl) (fun f cdv Ar outer s H E ds d hr h => ?_)
  obtain ⟨p, many, r, rfl, hm, hh, hok, hp, hp2, rfl⟩ := h
  have pw : (2 : Nat) ^ many ≤ 1024 := Nat.le_trans (Nat.pow_le_pow_right (by decide) hm) (by decide)
  have e1 : (1 : Int) * 2 ^ ((many : Int)).toNat = ((2 ^ many : Nat) : Int) := by rw [Int.toNat_natCast, Int.one_mul, Int.natCast_pow]; rfl
  have vl : ((valuesL p many r).map PyData.int).length = 2 ^ many := by unfold valuesL; simp
  obtain ⟨q, hq⟩ : ∃ q, q = 2 ^ many := ⟨_, rfl⟩
  rw [← hq] at pw e1 vl
  refine dss_one (ds_ret (d_new (lc1 (out := (valuesL p many r).map .int) 3 sc_values_of.nd (id_rng1 (n := (q : Int)) (da_cons (d_bin d_int (d_name 1) ((od_shl ⟨by omega, by omega, by decide⟩).to (by rw [e1]))) da_nil) (by omega) B.range) (by rw [vl]; simp) (by simp; omega) (fun i d o hd ho => ?_))) rfl)
  obtain ⟨hi, rfl⟩ := range_get hd
  unfold valuesL at ho
  rw [List.map_map] at ho
  obtain ⟨_, rfl⟩ := range_get ho
  have bl : (bitsI many i).length = many := by unfold bitsI; simp
  refine ⟨rfl, fun s H C cl fp => ?_⟩
  refine d_call G hr (da_cons (d_name 0) (da_cons (d_name 2) (da_cons (d_call G2 hr (da_cons (d_name 1) (da_cons ((d_name 3).to (d := .int (0 + (i : Int))) (by rw [Int.zero_add])) da_nil)) ⟨many, i, rfl, by omega, rfl⟩) da_nil))) ⟨p, r, bitsI many i, rfl, hh, by rw [bl]; exact hok, fun x hx => ?_, hp, hp2, rfl⟩
  unfold bitsI at hx
  obtain ⟨j, _, rfl⟩ := List.mem_map.mp hx
  omega
theorem sc_joined_by : FnScope ["word", "parts", "found", "part"] ["word", "parts"] (defScope s_joined_by) := ⟨rfl, rfl, rfl, by decide +kernel, rfl, by decide +kernel, by decide +kernel⟩
def A_joined_by (ds : List PyData) (d : PyData) : Prop := ∃ (r : Ru) (rs : List Ru), ds = [.str "times", .list ((r :: rs).map ruD)] ∧ d = ruD (rs.foldl .tim r)
theorem cutD_one (ds : List PyData) : cutD ds (some 1) none = ds.drop 1 := by
  unfold cutD
  rw [show HT.sIx ds.length 0 (some 1) = min 1 ds.length from HT.sIx_nat ds.length 0 1, HT.sIx_none]
  cases ds with
  | nil => rfl
  | cons x r =>
    rw [show min 1 (x :: r).length = 1 by rw [List.length_cons]; omega]
    show (List.take ((x :: r).length - 1) r) = r
    rw [List.length_cons, Nat.add_sub_cancel]
    exact List.take_length
theorem g_joined_by (F : DefAt K mg "joined_by" s_joined_by []) : Good P w K mg base "joined_by" [] 1 A_joined_by := by
  refine good_of false F sc_joined_by (by rintro ds d ⟨m, n, rfl, _⟩; rfl) (fun _ _ _ _ _ _ us hl => match us, hl with | [_, _], _ => rfl) (fun f cdv Ar outer s H E ds d hr h => ?_)
  obtain ⟨r, rs, rfl, rfl⟩ := h
  refine dss_cons (ds_set 2 sc_joined_by.nd (d_ixL (ds := (r :: rs).map ruD) (d_name 1) d_int (atI_nat (j := 0) rfl)) ?_)
  refine dss_cons (ds_for 3 sc_joined_by.nd (id_list (ds := rs.map ruD) ((d_slL (ds := (r :: rs).map ruD) (d_name 1) .int .no).to (by rw [cutD_one]; rfl))) (fun i st' => ∃ y, st' = ⟨[some (.str "times"), some (.list ((r :: rs).map ruD)), some (ruD ((rs.take i).foldl .tim r)), y], none⟩) ⟨none, rfl⟩ ?_ ?_)
  · rintro i d st' hd ⟨y, rfl⟩
    obtain ⟨q, h1, rfl, _⟩ := map_get hd
    refine dss_one (ds_set 2 sc_joined_by.nd (d_tup (ds := [.str "times", ruD ((rs.take i).foldl .tim r), ruD q]) (da_cons (d_name 0) (da_cons (d_name 2) (da_cons (d_name 3) da_nil)))) ?_)
    refine ⟨some (ruD q), ?_⟩
    rw [List.take_add_one, h1, List.foldl_append]
    rfl
  · rintro st' ⟨y, rfl⟩
    rw [List.length_map, List.take_length]
    exact dss_one (ds_ret (d_name 2) rfl)
end
end Wb
/-! ## D9 -/
set_option maxHeartbeats 4000000
namespace Wb
open PySem PySem.Spec PyProof.Rows L2
section
variable {P : Program} {w : World} {K : PySem.W.Frag} {mg : Str → Option Value} {base : Heap}
theorem sc_told : FnScope ["many", "rule", "word", "one", "other", "places", "left", "right", "name", "place"] ["many", "rule"] (defScope s_told_degrees) := ⟨rfl, rfl, rfl, by decide +kernel, rfl, by decide +kernel, by decide +kernel⟩
def A_told (n : Nat) (ds : List PyData) (d : PyData) : Prop := ∃ (many : Nat) (r : Ru) (p : Int), ds = [.int many, ruD r] ∧ high r ≤ n ∧ okR p many r ∧ many ≤ 20 ∧ d = .tuple ((degR many r).map .int)
theorem g_told (F : DefAt K mg "told_degrees" s_told_degrees []) (B : Blt mg) (C : Cst K mg) : ∀ n : Nat, Good P w K mg base "told_degrees" [] (n + 1) (A_told n)
  | n => by
    have ih : ∀ m, n = m + 1 → Good P w K mg base "told_degrees" [] (m + 1) (A_told m) := fun m e => by
      subst e
      exact g_told F B C m
    refine good_of false F sc_told (by rintro ds d ⟨m, n, k, rfl, _⟩; rfl) (fun _ _ _ _ _ _ us hl => match us, hl with | [_, _], _ => rfl) (fun f cdv Ar outer s H E ds d hr h => ?_)
    obtain ⟨many, r, p, rfl, hh, hok, hm, rfl⟩ := h
    obtain ⟨aj, hmj, hdj⟩ := C.joins
    cases r with
    | tab ns ix =>
      refine dss_cons (ds_set 2 sc_told.nd (d_ixT (ds := [.str "table", .tuple (ns.map .int), .tuple (ix.map nameD)]) (d_name 1) d_int rfl) ?_)
      refine dss_cons (ds_if (z := false) (dt_cmp (d_name 2) (d_glob (v := .ref aj) hmj rfl hdj) ((od_inT (room65 hr) (by decide +kernel) (by decide +kernel)).to (congrArg PyData.bool (by decide +kernel)))) (fun h => nomatch h) (fun _ => dss_nil ?_))
      refine dss_cons (ds_set 5 sc_told.nd (d_if (z := true) (dt_cmp (d_name 2) d_str (od_eqS.to (congrArg PyData.bool (by decide +kernel)))) (fun _ => d_ixT (ds := [.str "table", .tuple (ns.map .int), .tuple (ix.map nameD)]) (d_name 1) d_int rfl) (fun h => nomatch h)) ?_)
      refine dss_one (ds_ret (d_callTy (da_cons (d_new (lc1 (out := (degR many (.tab ns ix)).map .int) 8 sc_told.nd (id_rng1 (n := (many : Int)) (da_cons (d_name 0) da_nil) (by omega) B.range) (by rw [List.length_map, degR_len]; simp) (by simp; omega) (fun i d o hd ho => ?_))) da_nil) cd_tuple B.tuple) rfl)
      obtain ⟨hi, rfl⟩ := range_get hd
      have ho' : (((List.range many).map fun j => ((ix.countP fun i => i == j : Nat) : Int)).map PyData.int)[i]? = some o := ho
      rw [List.map_map] at ho'
      obtain ⟨_, rfl⟩ := range_get ho'
      refine ⟨rfl, fun s H' C' cl fp => ?_⟩
      refine d_callB (da_cons (d_new (lcf1 9 (fun k => decide (ix[k]? = some i)) (fun k => nameD (ix.getD k 0)) sc_told.nd (id_tup (ds := ix.map nameD) (d_name 5)) (by simp; have := hok.2.2.1; omega) (fun k d hd => ?_) (fun k d hd hk => ?_))) da_nil) (cd_lenL.to ?_) B.len
      · obtain ⟨j, h1, rfl, _⟩ := map_get hd
        intro s1 H1 C1 cl1 fp1
        refine dt_cmp (d_name 9) (d_tup (ds := [.str "name", .int (0 + (i : Int))]) (da_cons d_str (da_cons (d_name 8) da_nil))) ?_
        have e0 : (PyData.tuple [.str "name", .int (0 + (i : Int))]) = nameD i := by rw [Int.zero_add]; rfl
        rw [e0]
        refine (od_eqD (room64 hr) (shaped_name j) (shaped_name i)).to ?_
        rw [eqv_name, h1]
        congr 1
        by_cases e : j = i
        · subst e; simp
        · simp [e]
      · obtain ⟨j, h1, rfl, _⟩ := map_get hd
        have e : ix.getD k 0 = j := by rw [List.getD_eq_getElem?_getD, h1]; rfl
        rw [e]
        exact ⟨rfl, fun s1 H1 C1 cl1 fp1 => d_name 9⟩
      · rw [kept_length, List.length_map, countP_ix]; rfl
    | tim a b =>
      have h1 : max (high a) (high b) + 1 ≤ n := hh
      obtain ⟨m, rfl⟩ : ∃ m, n = m + 1 := ⟨n - 1, by omega⟩
      have G3 := ih m rfl
      have la := degR_len many a
      have lb := degR_len many b
      refine dss_cons (ds_set 2 sc_told.nd (d_ixT (ds := [.str "times", ruD a, ruD b]) (d_name 1) d_int rfl) ?_)
      refine dss_cons (ds_if (z := true) (dt_cmp (d_name 2) (d_glob (v := .ref aj) hmj rfl hdj) ((od_inT (room65 hr) (by decide +kernel) (by decide +kernel)).to (congrArg PyData.bool (by decide +kernel)))) (fun _ => ?_) (fun h => nomatch h))
      refine dss_cons (ds_par 3 4 sc_told.nd (d_call G3 hr (da_cons (d_name 0) (da_cons (d_ixT (ds := [.str "times", ruD a, ruD b]) (d_name 1) d_int rfl) da_nil)) ⟨many, a, p, rfl, by omega, hok.1, hm, rfl⟩ (Nat.le_refl _)) (d_call G3 hr (da_cons (d_name 0) (da_cons (d_ixT (ds := [.str "times", ruD a, ruD b]) (d_name 1) d_int rfl) da_nil)) ⟨many, b, p, rfl, by omega, hok.2, hm, rfl⟩ (Nat.le_refl _)) ?_)
      refine dss_cons (ds_if (z := true) (dt_cmp (d_name 2) d_str (od_eqS.to (congrArg PyData.bool (by decide +kernel)))) (fun _ => ?_) (fun h => nomatch h))
      refine dss_one (ds_ret (d_callTy (da_cons (d_new (lc2 (out := (degR many (.tim a b)).map .int) 6 7 sc_told.nd (id_zipT (ds := (degR many a).map .int) (es := (degR many b).map .int) (da_cons (d_name 3) (da_cons (d_name 4) da_nil)) B.zip) (by rw [zipD_len, List.length_map, List.length_map, List.length_map, degR_len, la, lb]; omega) (by rw [zipD_len, List.length_map, List.length_map, la, lb]; omega) (fun i d o hd ho => ?_))) da_nil) cd_tuple B.tuple) rfl)
      obtain ⟨d1, d2, rfl, g1, g2⟩ := zipD_get _ _ _ _ hd
      obtain ⟨x, hx, rfl, _⟩ := map_get g1
      obtain ⟨y, hy, rfl, _⟩ := map_get g2
      have ho' : ((List.zipWith (· + ·) (degR many a) (degR many b)).map PyData.int)[i]? = some o := ho
      obtain ⟨z, hz, rfl, _⟩ := map_get ho'
      rw [List.getElem?_zipWith, hx, hy] at hz
      cases hz
      exact ⟨rfl, _, _, rfl, fun s H C' cl fp => d_bin (d_name 6) (d_name 7) od_add⟩
end
end Wb
/-! ## D10 -/
set_option maxHeartbeats 4000000
namespace Wb
open PySem PySem.Spec PyProof.Rows L2
/-! ### webs as data -/
def tieD (t : Nat × Nat) : PyData := .tuple [.int t.1, .int t.2]
def webD (n : Nat) (ts : List (Nat × Nat)) : PyData := .tuple [.int n, .tuple (ts.map tieD)]
def ltT (a b : Nat × Nat) : Prop := a.1 < b.1 ∨ (a.1 = b.1 ∧ a.2 < b.2)
structure OkW (n b : Nat) (ts : List (Nat × Nat)) : Prop where
  pw : n = 2 ^ b
  bl : b ≤ 3
  rng : ∀ t ∈ ts, t.1 < t.2 ∧ t.2 < n
  asc : ts.Pairwise ltT
  few : ts.length ≤ 28
theorem OkW.cases {n b : Nat} {ts : List (Nat × Nat)} (h : OkW n b ts) : (n = 1 ∧ b = 0) ∨ (n = 2 ∧ b = 1) ∨ (n = 4 ∧ b = 2) ∨ (n = 8 ∧ b = 3) := by
  have h1 := h.pw
  have h2 := h.bl
  match b, h2 with
  | 0, _ => exact .inl ⟨h1, rfl⟩
  | 1, _ => exact .inr (.inl ⟨h1, rfl⟩)
  | 2, _ => exact .inr (.inr (.inl ⟨h1, rfl⟩))
  | 3, _ => exact .inr (.inr (.inr ⟨h1, rfl⟩))
theorem frozen_ties (ts : List (Nat × Nat)) : frozenAll (ts.map tieD) = true := by
  induction ts with
  | nil => rfl
  | cons n ns ih => show (true && _) = true; rw [ih]; rfl
theorem frozen_web (n : Nat) (ts : List (Nat × Nat)) : frozen (webD n ts) = true := by
  show (true && (frozenAll (ts.map tieD) && true)) = true
  rw [frozen_ties]; rfl
def setT (n : Nat) (l : List Int) (t : Nat × Nat) : List Int := (l.set (t.1 * n + t.2) 1).set (t.2 * n + t.1) 1
def tieL (n : Nat) (ts : List (Nat × Nat)) : List Int := ts.foldl (setT n) (List.replicate (n * n) 0)
theorem setT_len (n : Nat) (l : List Int) (t : Nat × Nat) : (setT n l t).length = l.length := by unfold setT; simp
theorem tieF_len (n : Nat) : ∀ (ts : List (Nat × Nat)) (l : List Int), (ts.foldl (setT n) l).length = l.length
  | [], _ => rfl
  | t :: ts, l => by rw [List.foldl_cons, tieF_len n ts, setT_len]
theorem tieL_len (n : Nat) (ts : List (Nat × Nat)) : (tieL n ts).length = n * n := by
  unfold tieL
  rw [tieF_len, List.length_replicate]
theorem rep_one {α : Type} (k : Nat) (x : α) : (List.replicate k [x]).flatten = List.replicate k x := by
  induction k with
  | zero => rfl
  | succ k ih => rw [List.replicate_succ, List.flatten_cons, ih]; rfl
theorem map_set_int (l : List Int) (k : Nat) (v : Int) : (l.map PyData.int).set k (.int v) = (l.set k v).map .int := by
  rw [List.map_set]
theorem knot_lt {n a b : Nat} (ha : a < n) (hb : b < n) : a * n + b < n * n := by
  have h : (a + 1) * n ≤ n * n := Nat.mul_le_mul_right n ha
  rw [Nat.add_mul, Nat.one_mul] at h
  omega
section
variable {P : Program} {w : World} {K : PySem.W.Frag} {mg : Str → Option Value} {base : Heap}
theorem sc_is_web : FnScope ["value", "knots", "ties", "tie", "one", "other"] ["value"] (defScope s_is_web) := ⟨rfl, rfl, rfl, by decide +kernel, rfl, by decide +kernel, by decide +kernel⟩
def A_is_web (ds : List PyData) (d : PyData) : Prop := ∃ (n b : Nat) (ts : List (Nat × Nat)), ds = [webD n ts] ∧ OkW n b ts ∧ d = .bool true
theorem lexLt_tie {a b : Nat × Nat} (h : ltT a b) : HT.lexLt [(a.1 : Int), (a.2 : Int)] [(b.1 : Int), (b.2 : Int)] = true := by
  rw [HT.lexLt_cons, HT.lexLt_cons]
  rcases h with h | ⟨h1, h2⟩
  · rw [if_neg (by omega), decide_eq_true (by omega)]
  · rw [if_pos (by omega), if_neg (by omega), decide_eq_true (by omega)]
theorem g_is_web (F : DefAt K mg "is_web" s_is_web []) (B : Blt mg) (G : Good P w K mg base "is_integer" [] 1 A_is_integer) (G2 : Good P w K mg base "is_from" [] 2 A_is_from) : Good P w K mg base "is_web" [] 3 A_is_web := by
  refine good_of false F sc_is_web (by rintro ds d ⟨m, n, k, rfl, _⟩; rfl) (fun _ _ _ _ _ _ us hl => match us, hl with | [_], _ => rfl) (fun f cdv Ar outer s H E ds d hr h => ?_)
  obtain ⟨n, b, ts, rfl, ok, rfl⟩ := h
  have n8 : (![PyData.int 1, .int 2, .int 4, .int 8].any fun z => PyData.eqv z (.int (n : Int))) = false := by
    rcases ok.cases with ⟨rfl, _⟩ | ⟨rfl, _⟩ | ⟨rfl, _⟩ | ⟨rfl, _⟩ <;> rfl
  have hts := ok.few
  refine dss_cons (ds_if (z := false) (dt_w (dw_or (z := false) (y := false) (dt_not (z := true) (dt_val (d_isi (d := webD n ts) (T := "tuple") (d_name 0) k_tuple_tuple B.isi B.tuple)))
    (fun _ => dw_or (z := false) (y := false) (dt_cmp (d_callB (da_cons (d_name 0) da_nil) (cd_lenT (ds := [.int n, .tuple (ts.map tieD)])) B.len) d_int od_neI)
    (fun _ => dw_or (z := false) (y := false) (dt_not (z := true) (dt_val (d_call G hr (da_cons (d_ixT (ds := [.int n, .tuple (ts.map tieD)]) (d_name 0) d_int rfl) da_nil) ⟨n, rfl, rfl⟩)))
    (fun _ => dw_or1 (dt_cmp (d_ixT (ds := [.int n, .tuple (ts.map tieD)]) (d_name 0) d_int rfl) (d_tup (ds := [.int 1, .int 2, .int 4, .int 8]) (da_cons d_int (da_cons d_int (da_cons d_int (da_cons d_int da_nil))))) ((od_notInT (room65 hr) (shaped_int _) (shaped_ints [1, 2, 4, 8])).to (congrArg PyData.bool n8)))))))) (fun h => nomatch h) (fun _ => dss_nil ?_))
  refine dss_cons (ds_tup2 1 2 sc_is_web.nd (d_name (d := .tuple [.int n, .tuple (ts.map tieD)]) 0) ?_)
  refine dss_cons (ds_if (z := false) (dt_w (dw_or (z := false) (y := false) (dt_not (z := true) (dt_val (d_isi (d := .tuple (ts.map tieD)) (T := "tuple") (d_name 2) k_tuple_tuple B.isi B.tuple)))
    (fun _ => dw_or1 (dt_not (z := true) (dt_val (d_callB (da_cons (d_new (lc1 (out := (List.replicate ts.length true).map .bool) 3 sc_is_web.nd (id_tup (ds := ts.map tieD) (d_name 2)) (by simp) (by simp; omega) (fun i d o hd ho => ?_))) da_nil) ((cd_all rfl).to (by rw [all_true])) B.all)))))) (fun h => nomatch h) (fun _ => dss_nil ?_))
  · obtain ⟨b', hb', rfl, _⟩ := map_get ho
    obtain ⟨t, ht, rfl, hm⟩ := map_get hd
    have eb := rep_get hb'
    subst eb
    refine ⟨rfl, fun s H C' cl fp => ?_⟩
    exact d_and (z := true) (y := true) (d_isi (d := tieD t) (T := "tuple") (d_name 3) k_tuple_tuple B.isi B.tuple) (fun _ => d_one (d_cmp (d_callB (da_cons (d_name 3) da_nil) (cd_lenT (ds := [.int t.1, .int t.2])) B.len) d_int (od_eqI.to rfl)))
  refine dss_cons (ds_if (z := false) (dt_not (z := true) (dt_val (d_callB (da_cons (d_new (lc2 (out := (List.replicate ts.length true).map .bool) 4 5 sc_is_web.nd (id_tup (ds := ts.map tieD) (d_name 2)) (by simp) (by simp; omega) (fun i d o hd ho => ?_))) da_nil) ((cd_all rfl).to (by rw [all_true])) B.all))) (fun h => nomatch h) (fun _ => dss_nil ?_))
  · obtain ⟨b', hb', rfl, _⟩ := map_get ho
    obtain ⟨t, ht, rfl, hm⟩ := map_get hd
    have eb := rep_get hb'
    subst eb
    have rg := ok.rng t hm
    refine ⟨rfl, .int t.1, .int t.2, rfl, fun s H C' cl fp => ?_⟩
    exact d_and (z := true) (y := true) (d_call G2 hr (da_cons (d_name 4) (da_cons d_int (da_cons (d_bin (d_name 1) d_int od_sub) da_nil))) ⟨t.1, 0, (n : Int) - 1, rfl, by rw [decide_eq_true (by omega), decide_eq_true (by omega)]; rfl⟩)
      (fun _ => d_one (d_call G2 hr (da_cons (d_name 5) (da_cons (d_bin (d_name 4) d_int od_add) (da_cons (d_bin (d_name 1) d_int od_sub) da_nil))) ⟨t.2, (t.1 : Int) + 1, (n : Int) - 1, rfl, by rw [decide_eq_true (by omega), decide_eq_true (by omega)]; rfl⟩))
  refine dss_one (ds_ret (d_callB (da_cons (d_new (lc2 (out := (List.replicate (ts.length - 1) true).map .bool) 4 5 sc_is_web.nd (id_zipT (ds := ts.map tieD) (es := (ts.map tieD).drop 1) (da_cons (d_name 2) (da_cons ((d_slT (ds := ts.map tieD) (d_name 2) .int .no).to (by rw [cutD_one])) da_nil)) B.zip) (by rw [zipD_len, List.length_drop, List.length_map, List.length_map, List.length_replicate]; omega) (by rw [zipD_len, List.length_drop, List.length_map]; omega) (fun i d o hd ho => ?_))) da_nil) ((cd_all rfl).to (by rw [all_true])) B.all) rfl)
  obtain ⟨b', hb', rfl, _⟩ := map_get ho
  have eb := rep_get hb'
  subst eb
  obtain ⟨d1, d2, rfl, g1, g2⟩ := zipD_get _ _ _ _ hd
  obtain ⟨t, ht, rfl, _⟩ := map_get g1
  rw [List.getElem?_drop] at g2
  obtain ⟨u, hu, rfl, _⟩ := map_get g2
  refine ⟨rfl, _, _, rfl, fun s H C' cl fp => ?_⟩
  obtain ⟨l1, e1⟩ := List.getElem?_eq_some_iff.mp ht
  obtain ⟨l2, e2⟩ := List.getElem?_eq_some_iff.mp hu
  have lt : ltT t u := by
    have q := List.pairwise_iff_getElem.mp ok.asc i (1 + i) l1 l2 (by omega)
    rw [e1, e2] at q
    exact q
  exact d_cmp (d_name 4) (d_name 5) ((od_ltT (ns := [(t.1 : Int), (t.2 : Int)]) (ms := [(u.1 : Int), (u.2 : Int)]) (room0 hr)).to (by rw [lexLt_tie lt]))
theorem sc_need_web : FnScope ["value"] ["value"] (defScope s_need_web) := ⟨rfl, rfl, rfl, by decide +kernel, rfl, by decide +kernel, by decide +kernel⟩
def A_need_web (ds : List PyData) (d : PyData) : Prop := ∃ (n b : Nat) (ts : List (Nat × Nat)), ds = [webD n ts] ∧ OkW n b ts ∧ d = .none
theorem g_need_web (F : DefAt K mg "need_web" s_need_web []) (G : Good P w K mg base "is_web" [] 3 A_is_web) : Good P w K mg base "need_web" [] 4 A_need_web := by
  refine good_of false F sc_need_web (by rintro ds d ⟨m, n, k, rfl, _⟩; rfl) (fun _ _ _ _ _ _ us hl => match us, hl with | [_], _ => rfl) (fun f cdv Ar outer s H E ds d hr h => ?_)
  obtain ⟨n, b, ts, rfl, ok, rfl⟩ := h
  exact dss_one (ds_if (z := false) (dt_not (z := true) (dt_val (d_call G hr (da_cons (d_name 0) da_nil) ⟨n, b, ts, rfl, ok, rfl⟩))) (fun h => nomatch h) (fun _ => dss_nil rfl))
theorem sc_bits_in : FnScope ["knots"] ["knots"] (defScope s_bits_in) := ⟨rfl, rfl, rfl, by decide +kernel, rfl, by decide +kernel, by decide +kernel⟩
def A_bits_in (ds : List PyData) (d : PyData) : Prop := ∃ (n b : Nat), ds = [.int n] ∧ n = 2 ^ b ∧ b ≤ 3 ∧ d = .int b
theorem g_bits_in (F : DefAt K mg "bits_in" s_bits_in []) : Good P w K mg base "bits_in" [] 1 A_bits_in := by
  refine good_of false F sc_bits_in (by rintro ds d ⟨m, n, rfl, _⟩; rfl) (fun _ _ _ _ _ _ us hl => match us, hl with | [_], _ => rfl) (fun f cdv Ar outer s H E ds d hr h => ?_)
  obtain ⟨n, b, rfl, rfl, hb, rfl⟩ := h
  exact dss_one (ds_ret (d_bin (d_bits (d_name 0)) d_int od_sub) (by rw [(bits_pow b (mem11 (by omega))).1]; show PyData.int (((b + 1 : Nat) : Int) - 1) = _; congr 1; omega))
theorem sc_ties_of : FnScope ["web", "knots", "ties", "found", "one", "other"] ["web"] (defScope s_ties_of) := ⟨rfl, rfl, rfl, by decide +kernel, rfl, by decide +kernel, by decide +kernel⟩
def A_ties_of (ds : List PyData) (d : PyData) : Prop := ∃ (n b : Nat) (ts : List (Nat × Nat)), ds = [webD n ts] ∧ OkW n b ts ∧ d = .tuple ((tieL n ts).map .int)
theorem g_ties_of (F : DefAt K mg "ties_of" s_ties_of []) (B : Blt mg) : Good P w K mg base "ties_of" [] 1 A_ties_of := by
  refine good_of true F sc_ties_of (by rintro ds d ⟨m, n, k, rfl, _⟩; rfl) (fun _ _ _ _ _ _ us hl => match us, hl with | [_], _ => rfl) (fun f cdv Ar outer s H E ds d hr h => ?_)
  obtain ⟨n, b, ts, rfl, ok, rfl⟩ := h
  have n8 : n ≤ 8 := by rcases ok.cases with ⟨rfl, _⟩ | ⟨rfl, _⟩ | ⟨rfl, _⟩ | ⟨rfl, _⟩ <;> decide
  have nn : n * n ≤ 64 := Nat.mul_le_mul n8 n8
  refine dss_cons (ds_tup2 1 2 sc_ties_of.nd (d_name (d := .tuple [.int n, .tuple (ts.map tieD)]) 0) ?_)
  refine dss_cons (ds_own (ds := (List.replicate (n * n) (0 : Int)).map .int) 3 sc_ties_of.nd ((dl_rep (ds := [.int 0]) (k := ((n * n : Nat) : Int)) (da_cons d_int da_nil) (d_bin (d_name 1) (d_name 1) ((od_mulS (cmul_small (by omega) (by omega))).to (by rw [Int.natCast_mul]))) (by decide) (by omega)).to (by rw [Int.toNat_natCast, rep_one, List.map_replicate])) ?_ (by show 3 < 6; decide))
  have tl (i : Nat) : ((ts.take i).foldl (setT n) (List.replicate (n * n) 0)).length = n * n := by rw [tieF_len, List.length_replicate]
  have fz (a b : Option PyData) (l : List Int) (ha : fzO a = true) (hb : fzO b = true) : DSt.fz ⟨[some (webD n ts), some (.int n), some (.tuple (ts.map tieD)), none, a, b], some (3, l.map .int)⟩ = true := by
    show ((frozen (webD n ts) && (true && (frozenAll (ts.map tieD) && (true && (fzO a && (fzO b && true)))))) && frozenAll (l.map .int)) = true
    rw [frozen_web, frozen_ties, ha, hb, frozen_ints]; rfl
  refine dss_cons (ds_for2 4 5 sc_ties_of.nd (id_tup (ds := ts.map tieD) (d_name 2) (fun _ => frozen_ties ts)) (fun i st' => ∃ a b, st' = ⟨[some (webD n ts), some (.int n), some (.tuple (ts.map tieD)), none, a, b], some (3, ((ts.take i).foldl (setT n) (List.replicate (n * n) 0)).map .int)⟩) ⟨none, none, rfl⟩ ?_ ?_)
  · rintro i d st' hd ⟨a, b, rfl⟩
    obtain ⟨t, ht, rfl, hm⟩ := map_get hd
    have rg := ok.rng t hm
    have k1 := knot_lt (n := n) (a := t.1) (b := t.2) (by omega) rg.2
    have k2 := knot_lt (n := n) (a := t.2) (b := t.1) rg.2 (by omega)
    refine ⟨.int t.1, .int t.2, rfl, ?_⟩
    refine dss_cons (ds_set1 (k := t.1 * n + t.2) (z := (t.1 : Int) * n + t.2) 3 rfl (fz _ _ _ rfl rfl) (d_int (i := 1)) rfl (d_bin (d_bin (d_name 4) (d_name 1) (od_mulS (cmul_small (by omega) (by omega)))) (d_name 5) od_add) (by rw [Int.natCast_add, Int.natCast_mul]) (by rw [List.length_map, tl]; exact k1) ?_)
    rw [map_set_int]
    refine dss_one (ds_set1 (k := t.2 * n + t.1) (z := (t.2 : Int) * n + t.1) 3 rfl (fz _ _ _ rfl rfl) (d_int (i := 1)) rfl (d_bin (d_bin (d_name 5) (d_name 1) (od_mulS (cmul_small (by omega) (by omega)))) (d_name 4) od_add) (by rw [Int.natCast_add, Int.natCast_mul]) (by rw [List.length_map, List.length_set, tl]; exact k2) ?_)
    rw [map_set_int]
    refine ⟨some (.int t.1), some (.int t.2), ?_⟩
    rw [List.take_add_one, ht, List.foldl_append]
    rfl
  · rintro st' ⟨a, b, rfl⟩
    rw [List.length_map, List.take_length]
    exact dss_one (ds_ret (d_callTy (da_cons (d_name 3) da_nil) cd_tuple B.tuple) rfl)
end
end Wb
/-! ## D11 -/
set_option maxHeartbeats 4000000
namespace Wb
open PySem PySem.Spec PyProof.Rows L2
/-! ### the sums of walks -/
def knotN (b k : Nat) : List Nat := (List.range b).map fun i => k * b + i
def walkP (n b : Nat) (ts : List (Nat × Nat)) (len at_ : Nat) : Ru := .tab (tieL n ts) (knotN b at_ ++ knotN b ((at_ + 1) % len))
def walkR (n b : Nat) (ts : List (Nat × Nat)) (len : Nat) : Ru := if len = 2 then .tim (walkP n b ts 2 0) (walkP n b ts 2 1) else .tim (.tim (walkP n b ts 3 0) (walkP n b ts 3 1)) (walkP n b ts 3 2)
def sumD (p : Int) (many : Nat) (r : Ru) (c : Int) : PyData := .tuple [.int p, .int many, ruD r, .int c]
def wsD (p : Int) (n b : Nat) (ts : List (Nat × Nat)) (len : Nat) (c : Int) : PyData := sumD p (len * b) (walkR n b ts len) c
section
variable {P : Program} {w : World} {K : PySem.W.Frag} {mg : Str → Option Value} {base : Heap}
theorem sc_ties_table : FnScope ["web"] ["web"] (defScope s_ties_table) := ⟨rfl, rfl, rfl, by decide +kernel, rfl, by decide +kernel, by decide +kernel⟩
theorem g_ties_table (F : DefAt K mg "ties_table" s_ties_table []) (G : Good P w K mg base "need_web" [] 4 A_need_web) (G2 : Good P w K mg base "ties_of" [] 1 A_ties_of) : Good P w K mg base "ties_table" [] 5 A_ties_of := by
  refine good_of false F sc_ties_table (by rintro ds d ⟨m, n, k, rfl, _⟩; rfl) (fun _ _ _ _ _ _ us hl => match us, hl with | [_], _ => rfl) (fun f cdv Ar outer s H E ds d hr h => ?_)
  obtain ⟨n, b, ts, rfl, ok, rfl⟩ := h
  refine dss_cons (ds_expr (d_call G hr (da_cons (d_name 0) da_nil) ⟨n, b, ts, rfl, ok, rfl⟩) ?_)
  exact dss_one (ds_ret (d_call G2 hr (da_cons (d_name 0) da_nil) ⟨n, b, ts, rfl, ok, rfl⟩) rfl)
theorem sc_need_length : FnScope ["value"] ["value"] (defScope s_need_length) := ⟨rfl, rfl, rfl, by decide +kernel, rfl, by decide +kernel, by decide +kernel⟩
def A_need_length (ds : List PyData) (d : PyData) : Prop := ∃ (n : Int), ds = [.int n] ∧ (n = 2 ∨ n = 3) ∧ d = .none
theorem g_need_length (F : DefAt K mg "need_length" s_need_length []) (G : Good P w K mg base "is_from" [] 2 A_is_from) : Good P w K mg base "need_length" [] 3 A_need_length := by
  refine good_of false F sc_need_length (by rintro ds d ⟨m, rfl, _⟩; rfl) (fun _ _ _ _ _ _ us hl => match us, hl with | [_], _ => rfl) (fun f cdv Ar outer s H E ds d hr h => ?_)
  obtain ⟨n, rfl, hn, rfl⟩ := h
  exact dss_one (ds_if (z := false) (dt_not (z := true) (dt_val (d_call G hr (da_cons (d_name 0) (da_cons d_int (da_cons d_int da_nil))) ⟨n, 2, 3, rfl, by rw [decide_eq_true (by omega), decide_eq_true (by omega)]; rfl⟩))) (fun h => nomatch h) (fun _ => dss_nil rfl))
theorem sc_places : FnScope ["web", "knot", "many", "bit"] ["web", "knot"] (defScope s_places_of_knot) := ⟨rfl, rfl, rfl, by decide +kernel, rfl, by decide +kernel, by decide +kernel⟩
def A_places (ds : List PyData) (d : PyData) : Prop := ∃ (n b k : Nat) (ts : List (Nat × Nat)), ds = [webD n ts, .int k] ∧ OkW n b ts ∧ k ≤ 10 ∧ d = .tuple ((knotN b k).map nameD)
theorem g_places (F : DefAt K mg "places_of_knot" s_places_of_knot []) (B : Blt mg) (G : Good P w K mg base "bits_in" [] 1 A_bits_in) : Good P w K mg base "places_of_knot" [] 2 A_places := by
  refine good_of false F sc_places (by rintro ds d ⟨m, n, k, l, rfl, _⟩; rfl) (fun _ _ _ _ _ _ us hl => match us, hl with | [_, _], _ => rfl) (fun f cdv Ar outer s H E ds d hr h => ?_)
  obtain ⟨n, b, k, ts, rfl, ok, hk, rfl⟩ := h
  have hb := ok.bl
  refine dss_cons (ds_set 2 sc_places.nd (d_call G hr (da_cons (d_ixT (ds := [.int n, .tuple (ts.map tieD)]) (d_name 0) d_int rfl) da_nil) ⟨n, b, rfl, ok.pw, ok.bl, rfl⟩) ?_)
  refine dss_one (ds_ret (d_callTy (da_cons (d_new (lc1 (out := (knotN b k).map nameD) 3 sc_places.nd (id_rng1 (n := (b : Int)) (da_cons (d_name 2) da_nil) (by omega) B.range) (by unfold knotN; simp) (by simp; omega) (fun i d o hd ho => ?_))) da_nil) cd_tuple B.tuple) rfl)
  obtain ⟨hi, rfl⟩ := range_get hd
  unfold knotN at ho
  rw [List.map_map] at ho
  obtain ⟨_, rfl⟩ := range_get ho
  refine ⟨rfl, fun s H C cl fp => ?_⟩
  have e : (k : Int) * b + (0 + (i : Int)) = ((k * b + i : Nat) : Int) := by rw [Int.natCast_add, Int.natCast_mul, Int.zero_add]
  exact (d_tup (ds := [.str "name", .int ((k : Int) * b + (0 + (i : Int)))]) (da_cons d_str (da_cons (d_bin (d_bin (d_name 1) (d_name 2) (od_mulS (cmul_small (by omega) (by omega)))) (d_name 3) od_add) da_nil))).to (by rw [e]; rfl)
theorem sc_walks_rule : FnScope ["web", "length", "table", "parts", "at", "ends"] ["web", "length"] (defScope s_walks_rule) := ⟨rfl, rfl, rfl, by decide +kernel, rfl, by decide +kernel, by decide +kernel⟩
def A_walks_rule (ds : List PyData) (d : PyData) : Prop := ∃ (n b len : Nat) (ts : List (Nat × Nat)), ds = [webD n ts, .int len] ∧ OkW n b ts ∧ (len = 2 ∨ len = 3) ∧ d = ruD (walkR n b ts len)
theorem frozen_rus (rs : List Ru) : frozenAll (rs.map ruD) = true := by
  induction rs with
  | nil => rfl
  | cons r rs ih => show (frozen (ruD r) && frozenAll (rs.map ruD)) = true; rw [ih, frozen_ruD]; rfl
theorem g_walks_rule (F : DefAt K mg "walks_rule" s_walks_rule []) (B : Blt mg) (G : Good P w K mg base "ties_of" [] 1 A_ties_of) (G2 : Good P w K mg base "places_of_knot" [] 2 A_places) (G3 : Good P w K mg base "joined_by" [] 1 A_joined_by) : Good P w K mg base "walks_rule" [] 3 A_walks_rule := by
  refine good_of true F sc_walks_rule (by rintro ds d ⟨m, n, k, l, rfl, _⟩; rfl) (fun _ _ _ _ _ _ us hl => match us, hl with | [_, _], _ => rfl) (fun f cdv Ar outer s H E ds d hr h => ?_)
  obtain ⟨n, b, len, ts, rfl, ok, hlen, rfl⟩ := h
  have hb := ok.bl
  have kl (k : Nat) : (knotN b k).length = b := by unfold knotN; simp
  have fz (a e : Option PyData) (rs : List Ru) (ha : fzO a = true) (he : fzO e = true) : DSt.fz ⟨[some (webD n ts), some (.int len), some (.tuple ((tieL n ts).map .int)), none, a, e], some (3, rs.map ruD)⟩ = true := by
    show ((frozen (webD n ts) && (true && (frozenAll ((tieL n ts).map .int) && (true && (fzO a && (fzO e && true)))))) && frozenAll (rs.map ruD)) = true
    rw [frozen_web, frozen_ints, ha, he, frozen_rus]; rfl
  refine dss_cons (ds_parO2 (ds := []) 2 3 sc_walks_rule.nd (d_call G hr (da_cons (d_name 0) da_nil) ⟨n, b, ts, rfl, ok, rfl⟩) (dl_lst da_nil) ?_ (by show 3 < 6; decide))
  refine dss_cons (ds_for 4 sc_walks_rule.nd (id_rng1 (n := (len : Int)) (da_cons (d_name 1) da_nil) (by omega) B.range) (fun i st' => ∃ a e, st' = ⟨[some (webD n ts), some (.int len), some (.tuple ((tieL n ts).map .int)), none, a, e], some (3, ((List.range i).map (walkP n b ts len)).map ruD)⟩ ∧ fzO e = true) ⟨none, none, rfl, rfl⟩ ?_ ?_)
  · rintro i d st' hd ⟨a, e, rfl, he⟩
    obtain ⟨hi, rfl⟩ := range_get hd
    have hi2 : i < len := by omega
    have e1 : ((0 + (i : Int)) + 1) % (len : Int) = (((i + 1) % len : Nat) : Int) := by rw [Int.natCast_emod, Int.natCast_add, Int.zero_add]; rfl
    have hm : (i + 1) % len < len := Nat.mod_lt _ (by omega)
    refine dss_cons (ds_set 5 sc_walks_rule.nd (d_bin (d_call G2 hr (da_cons (d_name 0) (da_cons ((d_name 4).to (d := .int (0 + (i : Int))) (by rw [Int.zero_add])) da_nil)) ⟨n, b, i, ts, rfl, ok, by omega, rfl⟩) (d_call G2 hr (da_cons (d_name 0) (da_cons (d_bin (d_bin (d_name 4) d_int od_add) (d_name 1) ((od_mod (by omega)).to (by rw [e1]))) da_nil)) ⟨n, b, (i + 1) % len, ts, rfl, ok, by omega, rfl⟩) (od_catT (by rw [List.length_map, List.length_map, kl, kl]; omega))) ?_)
    have ee : (knotN b i).map nameD ++ (knotN b ((i + 1) % len)).map nameD = (knotN b i ++ knotN b ((i + 1) % len)).map nameD := List.map_append.symm
    rw [ee]
    have ep : ((List.range i).map (walkP n b ts len)).map ruD ++ [ruD (walkP n b ts len i)] = ((List.range (i + 1)).map (walkP n b ts len)).map ruD := by
      rw [List.range_succ, List.map_append, List.map_append]; rfl
    refine dss_one (ds_app (xs := ((List.range i).map (walkP n b ts len)).map ruD) (d := ruD (walkP n b ts len i)) 3 rfl (fz _ _ _ rfl (show frozen (.tuple _) = true from frozen_names _)) (d_tup (ds := [.str "table", .tuple ((tieL n ts).map .int), .tuple ((knotN b i ++ knotN b ((i + 1) % len)).map nameD)]) (da_cons d_str (da_cons (d_name 2) (da_cons (d_name 5) da_nil)))) (frozen_ruD _) (by simp; omega) ?_)
    rw [ep]
    exact ⟨_, _, rfl, frozen_names _⟩
  · rintro st' ⟨a, e, rfl, he⟩
    rw [List.length_map, List.length_range, Int.toNat_natCast]
    rcases hlen with rfl | rfl
    · exact dss_one (ds_ret (d_call G3 hr (da_cons d_str (da_cons (d_name 3) da_nil)) ⟨walkP n b ts 2 0, [walkP n b ts 2 1], rfl, rfl⟩) rfl)
    · exact dss_one (ds_ret (d_call G3 hr (da_cons d_str (da_cons (d_name 3) da_nil)) ⟨walkP n b ts 3 0, [walkP n b ts 3 1, walkP n b ts 3 2], rfl, rfl⟩) rfl)
theorem sc_sum_of_walks : FnScope ["p", "web", "length", "claim"] ["p", "web", "length", "claim"] (defScope s_sum_of_walks) := ⟨rfl, rfl, rfl, by decide +kernel, rfl, by decide +kernel, by decide +kernel⟩
def A_sum_of_walks (ds : List PyData) (d : PyData) : Prop := ∃ (p c : Int) (n b len : Nat) (ts : List (Nat × Nat)), ds = [.int p, webD n ts, .int len, .int c] ∧ OkW n b ts ∧ (len = 2 ∨ len = 3) ∧ d = wsD p n b ts len c
theorem g_sum_of_walks (F : DefAt K mg "sum_of_walks" s_sum_of_walks []) (G : Good P w K mg base "bits_in" [] 1 A_bits_in) (G2 : Good P w K mg base "walks_rule" [] 3 A_walks_rule) : Good P w K mg base "sum_of_walks" [] 4 A_sum_of_walks := by
  refine good_of false F sc_sum_of_walks (by rintro ds d ⟨m, n, k, l, a, b, rfl, _⟩; rfl) (fun _ _ _ _ _ _ us hl => match us, hl with | [_, _, _, _], _ => rfl) (fun f cdv Ar outer s H E ds d hr h => ?_)
  obtain ⟨p, c, n, b, len, ts, rfl, ok, hlen, rfl⟩ := h
  have e : ((len : Int)) * (b : Int) = ((len * b : Nat) : Int) := by rw [Int.natCast_mul]
  exact dss_one (ds_ret (d_tup (ds := [.int p, .int ((len * b : Nat) : Int), ruD (walkR n b ts len), .int c]) (da_cons (d_name 0) (da_cons (d_bin (d_name 2) (d_call G hr (da_cons (d_ixT (ds := [.int n, .tuple (ts.map tieD)]) (d_name 1) d_int rfl) da_nil) ⟨n, b, rfl, ok.pw, ok.bl, rfl⟩) ((od_mulS (cmul_small (by omega) (by omega))).to (by rw [e]))) (da_cons (d_call G2 hr (da_cons (d_name 1) (da_cons (d_name 2) da_nil)) ⟨n, b, len, ts, rfl, ok, hlen, rfl⟩) (da_cons (d_name 3) da_nil))))) rfl)
theorem sc_walks_sum : FnScope ["p", "web", "length", "claim"] ["p", "web", "length", "claim"] (defScope s_walks_sum) := ⟨rfl, rfl, rfl, by decide +kernel, rfl, by decide +kernel, by decide +kernel⟩
def A_walks_sum (ds : List PyData) (d : PyData) : Prop := ∃ (p c : Int) (n b len : Nat) (ts : List (Nat × Nat)), ds = [.int p, webD n ts, .int len, .int c] ∧ goodP p ∧ 0 ≤ c ∧ c < p ∧ OkW n b ts ∧ (len = 2 ∨ len = 3) ∧ d = wsD p n b ts len c
theorem g_walks_sum (F : DefAt K mg "walks_sum" s_walks_sum []) (G1 : Good P w K mg base "need_prime" [.int 5] 4 A_need_prime) (G2 : Good P w K mg base "need_web" [] 4 A_need_web) (G3 : Good P w K mg base "need_length" [] 3 A_need_length) (G4 : Good P w K mg base "need_number" [] 4 A_need_number) (G5 : Good P w K mg base "sum_of_walks" [] 4 A_sum_of_walks) : Good P w K mg base "walks_sum" [] 5 A_walks_sum := by
  refine good_of false F sc_walks_sum (by rintro ds d ⟨m, n, k, l, a, b, rfl, _⟩; rfl) (fun _ _ _ _ _ _ us hl => match us, hl with | [_, _, _, _], _ => rfl) (fun f cdv Ar outer s H E ds d hr h => ?_)
  obtain ⟨p, c, n, b, len, ts, rfl, hp, c0, c1, ok, hlen, rfl⟩ := h
  refine dss_cons (ds_expr (d_call G1 hr (da_cons (d_name 0) da_nil) ⟨p, rfl, hp, rfl⟩) ?_)
  refine dss_cons (ds_expr (d_call G2 hr (da_cons (d_name 1) da_nil) ⟨n, b, ts, rfl, ok, rfl⟩) ?_)
  refine dss_cons (ds_expr (d_call G3 hr (da_cons (d_name 2) da_nil) ⟨len, rfl, by omega, rfl⟩) ?_)
  refine dss_cons (ds_expr (d_call G4 hr (da_cons (d_name 0) (da_cons (d_name 3) da_nil)) ⟨p, c, rfl, c0, c1, rfl⟩) ?_)
  exact dss_one (ds_ret (d_call G5 hr (da_cons (d_name 0) (da_cons (d_name 1) (da_cons (d_name 2) (da_cons (d_name 3) da_nil)))) ⟨p, c, n, b, len, ts, rfl, ok, hlen, rfl⟩) rfl)
theorem sc_triangles_sum : FnScope ["p", "web", "claim"] ["p", "web", "claim"] (defScope s_triangles_sum) := ⟨rfl, rfl, rfl, by decide +kernel, rfl, by decide +kernel, by decide +kernel⟩
def A_triangles_sum (ds : List PyData) (d : PyData) : Prop := ∃ (p c : Int) (n b : Nat) (ts : List (Nat × Nat)), ds = [.int p, webD n ts, .int c] ∧ goodP p ∧ 0 ≤ c ∧ c < p ∧ OkW n b ts ∧ d = wsD p n b ts 3 (6 * c % p)
theorem g_triangles_sum (F : DefAt K mg "triangles_sum" s_triangles_sum []) (G1 : Good P w K mg base "need_prime" [.int 5] 4 A_need_prime) (G2 : Good P w K mg base "need_web" [] 4 A_need_web) (G4 : Good P w K mg base "need_number" [] 4 A_need_number) (G5 : Good P w K mg base "sum_of_walks" [] 4 A_sum_of_walks) : Good P w K mg base "triangles_sum" [] 5 A_triangles_sum := by
  refine good_of false F sc_triangles_sum (by rintro ds d ⟨m, n, k, l, a, rfl, _⟩; rfl) (fun _ _ _ _ _ _ us hl => match us, hl with | [_, _, _], _ => rfl) (fun f cdv Ar outer s H E ds d hr h => ?_)
  obtain ⟨p, c, n, b, ts, rfl, hp, c0, c1, ok, rfl⟩ := h
  have rg := goodP_rng hp
  refine dss_cons (ds_expr (d_call G1 hr (da_cons (d_name 0) da_nil) ⟨p, rfl, hp, rfl⟩) ?_)
  refine dss_cons (ds_expr (d_call G2 hr (da_cons (d_name 1) da_nil) ⟨n, b, ts, rfl, ok, rfl⟩) ?_)
  refine dss_cons (ds_expr (d_call G4 hr (da_cons (d_name 0) (da_cons (d_name 2) da_nil)) ⟨p, c, rfl, c0, c1, rfl⟩) ?_)
  exact dss_one (ds_ret (d_call G5 hr (da_cons (d_name 0) (da_cons (d_name 1) (da_cons d_int (da_cons (d_bin (d_bin d_int (d_name 2) (od_mulS (cmul_small (by omega) (by omega)))) (d_name 0) (od_mod (by omega))) da_nil)))) ⟨p, 6 * c % p, n, b, 3, ts, rfl, ok, .inr rfl, rfl⟩) rfl)
end
end Wb
/-! ## D12 -/
set_option maxHeartbeats 4000000
namespace Wb
open PySem PySem.Spec PyProof.Rows L2
/-! ### counting walks: mathematics of the program's own matrices -/
def idM (n : Nat) : List (List Int) := (List.range n).map fun i => (List.range n).map fun j => if i = j then (1 : Int) else 0
def mulM (n : Nat) (t : List Int) (m : List (List Int)) : List (List Int) := m.map fun r => (List.range n).map fun to => ((List.range n).map fun mid => r.getD mid 0 * t.getD (mid * n + to) 0).sum
def powM (n : Nat) (t : List Int) : Nat → List (List Int)
  | 0 => idM n
  | k + 1 => mulM n t (powM n t k)
def traceM (n : Nat) (m : List (List Int)) : Int := ((List.range n).map fun k => (m.getD k []).getD k 0).sum
def cwN (n : Nat) (ts : List (Nat × Nat)) (len : Nat) : Int := traceM n (powM n (tieL n ts) len)
def rowD (r : List Int) : List PyData := r.map .int
def matD (m : List (List Int)) : PyData := .list ((m.map rowD).map .list)
def Sq (n : Nat) (m : List (List Int)) : Prop := m.length = n ∧ ∀ r ∈ m, r.length = n
theorem sq_id (n : Nat) : Sq n (idM n) := by
  refine ⟨by unfold idM; simp, fun r h => ?_⟩
  unfold idM at h
  obtain ⟨i, _, rfl⟩ := List.mem_map.mp h
  simp
theorem sq_mul {n : Nat} {t : List Int} {m : List (List Int)} (h : Sq n m) : Sq n (mulM n t m) := by
  refine ⟨by unfold mulM; rw [List.length_map]; exact h.1, fun r hr => ?_⟩
  unfold mulM at hr
  obtain ⟨i, _, rfl⟩ := List.mem_map.mp hr
  simp
theorem sq_pow (n : Nat) (t : List Int) : ∀ k, Sq n (powM n t k)
  | 0 => sq_id n
  | k + 1 => sq_mul (sq_pow n t k)
theorem setT_rng {n : Nat} {l : List Int} {t : Nat × Nat} (h : ∀ x ∈ l, x = 0 ∨ x = 1) : ∀ x ∈ setT n l t, x = 0 ∨ x = 1 := fun x hx => by
  unfold setT at hx
  rcases List.mem_or_eq_of_mem_set hx with hx | rfl
  · rcases List.mem_or_eq_of_mem_set hx with hx | rfl
    · exact h x hx
    · exact .inr rfl
  · exact .inr rfl
theorem tieF_rng (n : Nat) : ∀ (ts : List (Nat × Nat)) (l : List Int), (∀ x ∈ l, x = 0 ∨ x = 1) → ∀ x ∈ ts.foldl (setT n) l, x = 0 ∨ x = 1
  | [], _, h => h
  | t :: ts, l, h => tieF_rng n ts _ (setT_rng h)
theorem tieL_rng (n : Nat) (ts : List (Nat × Nat)) : ∀ x ∈ tieL n ts, x = 0 ∨ x = 1 := tieF_rng n ts _ fun x hx => .inl (List.mem_replicate.mp hx).2
theorem tie_at {n : Nat} {ts : List (Nat × Nat)} {i : Nat} (h : i < n * n) : (tieL n ts).getD i 0 = 0 ∨ (tieL n ts).getD i 0 = 1 := by
  have hl : i < (tieL n ts).length := by rw [tieL_len]; exact h
  rw [List.getD_eq_getElem?_getD, List.getElem?_eq_getElem hl]
  exact tieL_rng n ts _ (List.getElem_mem hl)
section
variable {P : Program} {w : World} {K : PySem.W.Frag} {mg : Str → Option Value} {base : Heap}
theorem sc_count : FnScope ["web", "length", "knots", "table", "found", "step", "one", "other", "row", "to", "mid", "knot"] ["web", "length"] (defScope s_count_walks) := ⟨rfl, rfl, rfl, by decide +kernel, rfl, by decide +kernel, by decide +kernel⟩
def A_count (ds : List PyData) (d : PyData) : Prop := ∃ (n b len : Nat) (ts : List (Nat × Nat)), ds = [webD n ts, .int len] ∧ OkW n b ts ∧ (len = 2 ∨ len = 3) ∧ d = .int (cwN n ts len)
theorem rows_get {l : List (List PyData)} {i : Nat} {d : PyData} (h : (l.map PyData.list)[i]? = some d) : ∃ r, l[i]? = some r ∧ d = .list r := by
  obtain ⟨r, h1, h2, _⟩ := map_get h
  exact ⟨r, h1, h2⟩
theorem g_count (F : DefAt K mg "count_walks" s_count_walks []) (B : Blt mg) (G : Good P w K mg base "ties_of" [] 1 A_ties_of) : Good P w K mg base "count_walks" [] 2 A_count := by
  refine good_of false F sc_count (by rintro ds d ⟨m, n, k, l, rfl, _⟩; rfl) (fun _ _ _ _ _ _ us hl => match us, hl with | [_, _], _ => rfl) (fun f cdv Ar outer s H E ds d hr h => ?_)
  obtain ⟨n, b, len, ts, rfl, ok, hlen, rfl⟩ := h
  have n8 : n ≤ 8 := by rcases ok.cases with ⟨rfl, _⟩ | ⟨rfl, _⟩ | ⟨rfl, _⟩ | ⟨rfl, _⟩ <;> decide
  have nn : n * n ≤ 64 := Nat.mul_le_mul n8 n8
  refine dss_cons (ds_tup2 2 3 sc_count.nd (d_tup (ds := [.int n, .tuple ((tieL n ts).map .int)]) (da_cons (d_ixT (ds := [.int n, .tuple (ts.map tieD)]) (d_name 0) d_int rfl) (da_cons (d_call G hr (da_cons (d_name 0) da_nil) ⟨n, b, ts, rfl, ok, rfl⟩) da_nil))) ?_)
  refine dss_cons (ds_set 4 sc_count.nd (d_new (lcL1 (outs := (idM n).map rowD) 6 sc_count.nd (id_rng1 (n := (n : Int)) (da_cons (d_name 2) da_nil) (by omega) B.range) (by unfold idM; simp) (by simp; omega) (fun i d o hd ho => ?_))) ?_)
  · obtain ⟨hi, rfl⟩ := range_get hd
    unfold idM at ho
    rw [List.map_map] at ho
    obtain ⟨_, rfl⟩ := range_get ho
    refine ⟨frozen_ints _, fun s H C cl fp => ?_⟩
    refine lc1 7 sc_count.nd (id_rng1 (n := (n : Int)) (da_cons (d_name 2) da_nil) (by omega) B.range) (by simp [rowD]) (by simp; omega) (fun j d o hd ho => ?_)
    obtain ⟨hj, rfl⟩ := range_get hd
    have ho' : (((List.range n).map fun j => if i = j then (1 : Int) else 0).map PyData.int)[j]? = some o := ho
    rw [List.map_map] at ho'
    obtain ⟨_, rfl⟩ := range_get ho'
    refine ⟨rfl, fun s H C cl fp => ?_⟩
    refine d_callTy (da_cons (d_cmp (d_name 6) (d_name 7) od_eqI) da_nil) (cd_intB.to ?_) B.int
    refine congrArg PyData.int ?_
    show (if decide (0 + (i : Int) = 0 + (j : Int)) = true then (1 : Int) else 0) = if i = j then 1 else 0
    by_cases e : i = j
    · rw [if_pos e, if_pos (decide_eq_true (by rw [e]))]
    · rw [if_neg e, if_neg (fun z => e (by have := of_decide_eq_true z; omega))]
  refine dss_cons (ds_for 5 sc_count.nd (id_rng1 (n := (len : Int)) (da_cons (d_name 1) da_nil) (by omega) B.range) (fun i st' => ∃ y, st' = ⟨[some (webD n ts), some (.int len), some (.int n), some (.tuple ((tieL n ts).map .int)), some (matD (powM n (tieL n ts) i)), y, none, none, none, none, none, none], none⟩) ⟨none, rfl⟩ ?_ ?_)
  · rintro i d st' hd ⟨y, rfl⟩
    obtain ⟨hi, rfl⟩ := range_get hd
    have sq := sq_pow n (tieL n ts) i
    refine dss_one (ds_set 4 sc_count.nd (d_new (lcL1 (outs := (mulM n (tieL n ts) (powM n (tieL n ts) i)).map rowD) 8 sc_count.nd (id_list (ds := ((powM n (tieL n ts) i).map rowD).map .list) (d_name 4)) (by unfold mulM; simp) (by simp; have := sq.1; omega) (fun k d o hd ho => ?_))) ⟨_, rfl⟩)
    obtain ⟨r', hr', rfl⟩ := rows_get hd
    obtain ⟨r, h1, rfl, hm⟩ := map_get hr'
    unfold mulM at ho
    rw [List.map_map] at ho
    obtain ⟨r2, h2, rfl, _⟩ := map_get ho
    rw [h1] at h2
    cases h2
    have rl := sq.2 r hm
    refine ⟨frozen_ints _, fun s H C cl fp => ?_⟩
    refine lc1 9 sc_count.nd (id_rng1 (n := (n : Int)) (da_cons (d_name 2) da_nil) (by omega) B.range) (by simp [rowD]) (by simp; omega) (fun j d o hd ho => ?_)
    obtain ⟨hj, rfl⟩ := range_get hd
    have ho' : (((List.range n).map fun to => ((List.range n).map fun mid => r.getD mid 0 * (tieL n ts).getD (mid * n + to) 0).sum).map PyData.int)[j]? = some o := ho
    rw [List.map_map] at ho'
    obtain ⟨_, rfl⟩ := range_get ho'
    refine ⟨rfl, fun s H C cl fp => ?_⟩
    refine d_callB (da_cons (d_new (lc1 (out := ((List.range n).map fun mid => r.getD mid 0 * (tieL n ts).getD (mid * n + j) 0).map .int) 10 sc_count.nd (id_rng1 (n := (n : Int)) (da_cons (d_name 2) da_nil) (by omega) B.range) (by simp) (by simp; omega) (fun q d o hd ho => ?_))) da_nil) (cd_sum rfl) B.sum
    obtain ⟨hq, rfl⟩ := range_get hd
    rw [List.map_map] at ho
    obtain ⟨_, rfl⟩ := range_get ho
    refine ⟨rfl, fun s H C cl fp => ?_⟩
    have hq2 : q < n := by omega
    have hj2 : j < n := by omega
    have kt := knot_lt hq2 hj2
    have ta := tie_at (ts := ts) kt
    have a1 : atI (rowD r) (0 + (q : Int)) = some (.int (r.getD q 0)) := by rw [Int.zero_add]; exact atI_int (by omega)
    have a2 : atI ((tieL n ts).map PyData.int) ((0 + (q : Int)) * (n : Int) + (0 + (j : Int))) = some (.int ((tieL n ts).getD (q * n + j) 0)) := by
      have e : (0 + (q : Int)) * (n : Int) + (0 + (j : Int)) = ((q * n + j : Nat) : Int) := by rw [Int.natCast_add, Int.natCast_mul, Int.zero_add, Int.zero_add]
      rw [e]; exact atI_int (by rw [tieL_len]; exact kt)
    exact d_bin (d_ixL (ds := rowD r) (d_name 8) (d_name 10) a1) (d_ixT (d_name 3) (d_bin (d_bin (d_name 10) (d_name 2) (od_mulS (cmul_small (by omega) (by omega)))) (d_name 9) od_add) a2) (od_mulS (.inr (by rcases ta with e | e <;> rw [e] <;> decide)))
  · rintro st' ⟨y, rfl⟩
    rw [List.length_map, List.length_range, Int.toNat_natCast]
    have sq := sq_pow n (tieL n ts) len
    refine dss_one (ds_ret (d_callB (da_cons (d_new (lc1 (out := ((List.range n).map fun k => ((powM n (tieL n ts) len).getD k []).getD k 0).map .int) 11 sc_count.nd (id_rng1 (n := (n : Int)) (da_cons (d_name 2) da_nil) (by omega) B.range) (by simp) (by simp; omega) (fun q d o hd ho => ?_))) da_nil) (cd_sum rfl) B.sum) rfl)
    obtain ⟨hq, rfl⟩ := range_get hd
    rw [List.map_map] at ho
    obtain ⟨_, rfl⟩ := range_get ho
    refine ⟨rfl, fun s H C cl fp => ?_⟩
    have hq2 : q < (powM n (tieL n ts) len).length := by rw [sq.1]; omega
    have eg : (powM n (tieL n ts) len).getD q [] = (powM n (tieL n ts) len)[q] := by rw [List.getD_eq_getElem?_getD, List.getElem?_eq_getElem hq2]; rfl
    have rl := sq.2 _ (List.getElem_mem hq2)
    have a0 : atI (((powM n (tieL n ts) len).map rowD).map PyData.list) (0 + (q : Int)) = some (.list (rowD (powM n (tieL n ts) len)[q])) := by
      rw [Int.zero_add]
      exact atI_nat (by rw [List.getElem?_map, List.getElem?_map, List.getElem?_eq_getElem hq2]; rfl)
    have a1 : atI (rowD (powM n (tieL n ts) len)[q]) (0 + (q : Int)) = some (.int ((powM n (tieL n ts) len)[q].getD q 0)) := by rw [Int.zero_add]; exact atI_int (by omega)
    exact (d_ixL (ds := rowD (powM n (tieL n ts) len)[q]) (d_ixL (ds := ((powM n (tieL n ts) len).map rowD).map PyData.list) (d_name 4) (d_name 11) a0) (d_name 11) a1).to (by rw [← eg]; rfl)
theorem sc_walks : FnScope ["web", "length"] ["web", "length"] (defScope s_walks) := ⟨rfl, rfl, rfl, by decide +kernel, rfl, by decide +kernel, by decide +kernel⟩
theorem g_walks (F : DefAt K mg "walks" s_walks []) (G2 : Good P w K mg base "need_web" [] 4 A_need_web) (G3 : Good P w K mg base "need_length" [] 3 A_need_length) (G : Good P w K mg base "count_walks" [] 2 A_count) : Good P w K mg base "walks" [] 5 A_count := by
  refine good_of false F sc_walks (by rintro ds d ⟨m, n, k, l, rfl, _⟩; rfl) (fun _ _ _ _ _ _ us hl => match us, hl with | [_, _], _ => rfl) (fun f cdv Ar outer s H E ds d hr h => ?_)
  obtain ⟨n, b, len, ts, rfl, ok, hlen, rfl⟩ := h
  refine dss_cons (ds_expr (d_call G2 hr (da_cons (d_name 0) da_nil) ⟨n, b, ts, rfl, ok, rfl⟩) ?_)
  refine dss_cons (ds_expr (d_call G3 hr (da_cons (d_name 1) da_nil) ⟨len, rfl, by omega, rfl⟩) ?_)
  exact dss_one (ds_ret (d_call G hr (da_cons (d_name 0) (da_cons (d_name 1) da_nil)) ⟨n, b, len, ts, rfl, ok, hlen, rfl⟩) rfl)
theorem sc_triangles : FnScope ["web"] ["web"] (defScope s_triangles) := ⟨rfl, rfl, rfl, by decide +kernel, rfl, by decide +kernel, by decide +kernel⟩
def A_triangles (ds : List PyData) (d : PyData) : Prop := ∃ (n b : Nat) (ts : List (Nat × Nat)), ds = [webD n ts] ∧ OkW n b ts ∧ d = .int (cwN n ts 3 / 6)
theorem g_triangles (F : DefAt K mg "triangles" s_triangles []) (G2 : Good P w K mg base "need_web" [] 4 A_need_web) (G : Good P w K mg base "count_walks" [] 2 A_count) : Good P w K mg base "triangles" [] 5 A_triangles := by
  refine good_of false F sc_triangles (by rintro ds d ⟨m, n, k, rfl, _⟩; rfl) (fun _ _ _ _ _ _ us hl => match us, hl with | [_], _ => rfl) (fun f cdv Ar outer s H E ds d hr h => ?_)
  obtain ⟨n, b, ts, rfl, ok, rfl⟩ := h
  refine dss_cons (ds_expr (d_call G2 hr (da_cons (d_name 0) da_nil) ⟨n, b, ts, rfl, ok, rfl⟩) ?_)
  exact dss_one (ds_ret (d_bin (d_call G hr (da_cons (d_name 0) (da_cons d_int da_nil)) ⟨n, b, 3, ts, rfl, ok, .inr rfl, rfl⟩) d_int (od_fdiv ⟨by omega, by decide⟩)) rfl)
end
end Wb
/-! ## D13 -/
set_option maxHeartbeats 4000000
namespace Wb
open PySem PySem.Spec PyProof.Rows L2
/-! ### sums -/
structure OkS (p : Int) (many : Nat) (r : Ru) (c : Int) : Prop where
  hp : goodP p
  hmany : many ≤ 10
  hr : okR p many r
  hnodes : nodes r ≤ 50
  hhigh : high r ≤ 5
  c0 : 0 ≤ c
  c1 : c < p
  deg : ∀ x ∈ degR many r, x ≤ 30
section
variable {P : Program} {w : World} {K : PySem.W.Frag} {mg : Str → Option Value} {base : Heap}
theorem sc_is_sum : FnScope ["value", "p", "many", "rule", "claim", "degree"] ["value"] (defScope s_is_sum) := ⟨rfl, rfl, rfl, by decide +kernel, rfl, by decide +kernel, by decide +kernel⟩
def A_is_sum (ds : List PyData) (d : PyData) : Prop := ∃ (p c : Int) (many : Nat) (r : Ru), ds = [sumD p many r c] ∧ OkS p many r c ∧ d = .bool true
theorem g_is_sum (F : DefAt K mg "is_sum" s_is_sum []) (B : Blt mg) (C : Cst K mg) (G1 : Good P w K mg base "is_prime" [] 3 A_is_prime) (G2 : Good P w K mg base "is_from" [] 2 A_is_from) (G3 : Good P w K mg base "is_plain_rule" [] 7 A_is_plain_rule) (G4 : Good P w K mg base "is_number" [] 3 A_is_number) (G5 : Good P w K mg base "told_degrees" [] 6 (A_told 5)) : Good P w K mg base "is_sum" [] 8 A_is_sum := by
  refine good_of false F sc_is_sum (by rintro ds d ⟨m, n, k, l, rfl, _⟩; rfl) (fun _ _ _ _ _ _ us hl => match us, hl with | [_], _ => rfl) (fun f cdv Ar outer s H E ds d hr h => ?_)
  obtain ⟨p, c, many, r, rfl, ok, rfl⟩ := h
  have hm := ok.hmany
  refine dss_cons (ds_if (z := false) (dt_w (dw_or (z := false) (y := false) (dt_not (z := true) (dt_val (d_isi (d := sumD p many r c) (T := "tuple") (d_name 0) k_tuple_tuple B.isi B.tuple)))
    (fun _ => dw_or (z := false) (y := false) (dt_cmp (d_callB (da_cons (d_name 0) da_nil) (cd_lenT (ds := [.int p, .int many, ruD r, .int c])) B.len) d_int od_neI)
    (fun _ => dw_or1 (dt_not (z := true) (dt_val (d_call G1 hr (da_cons (d_ixT (ds := [.int p, .int many, ruD r, .int c]) (d_name 0) d_int rfl) da_nil) ⟨p, rfl, ok.hp, rfl⟩))))))) (fun h => nomatch h) (fun _ => dss_nil ?_))
  refine dss_cons (ds_tup4 1 2 3 4 sc_is_sum.nd (d_name (d := .tuple [.int p, .int many, ruD r, .int c]) 0) ?_)
  refine dss_cons (ds_if (z := false) (dt_w (dw_or (z := false) (y := false) (dt_not (z := true) (dt_val (d_call G2 hr (da_cons (d_name 2) (da_cons d_int (da_cons (d_globI C.names) da_nil))) ⟨many, 0, 10, rfl, by rw [decide_eq_true (by omega), decide_eq_true (by omega)]; rfl⟩)))
    (fun _ => dw_or (z := false) (y := false) (dt_not (z := true) (dt_val (d_call G3 hr (da_cons (d_name 1) (da_cons (d_name 2) (da_cons (d_name 3) da_nil))) ⟨p, many, r, rfl, ok.hr, ok.hnodes, rfl⟩)))
    (fun _ => dw_or1 (dt_not (z := true) (dt_val (d_call G4 hr (da_cons (d_name 1) (da_cons (d_name 4) da_nil)) ⟨p, c, rfl, by rw [num_ok ok.c0 ok.c1]⟩))))))) (fun h => nomatch h) (fun _ => dss_nil ?_))
  refine dss_one (ds_ret (d_callB (da_cons (d_new (lc1 (out := (List.replicate many true).map .bool) 5 sc_is_sum.nd (id_tup (ds := (degR many r).map .int) (d_call G5 hr (da_cons (d_name 2) (da_cons (d_name 3) da_nil)) ⟨many, r, p, rfl, ok.hhigh, ok.hr, by omega, rfl⟩)) (by rw [List.length_map, List.length_map, degR_len]; simp) (by rw [List.length_map, degR_len]; omega) (fun i d o hd ho => ?_))) da_nil) ((cd_all rfl).to (by rw [all_true])) B.all) rfl)
  obtain ⟨b', hb', rfl, _⟩ := map_get ho
  obtain ⟨t, ht, rfl, hmm⟩ := map_get hd
  have eb := rep_get hb'
  subst eb
  refine ⟨rfl, fun s H C' cl fp => ?_⟩
  exact d_cmp (d_name 5) (d_globI C.degree) (od_le.to (by rw [decide_eq_true (ok.deg t hmm)]))
theorem sc_need_sum : FnScope ["value"] ["value"] (defScope s_need_sum) := ⟨rfl, rfl, rfl, by decide +kernel, rfl, by decide +kernel, by decide +kernel⟩
def A_need_sum (ds : List PyData) (d : PyData) : Prop := ∃ (p c : Int) (many : Nat) (r : Ru), ds = [sumD p many r c] ∧ OkS p many r c ∧ d = .none
theorem g_need_sum (F : DefAt K mg "need_sum" s_need_sum []) (G : Good P w K mg base "is_sum" [] 8 A_is_sum) : Good P w K mg base "need_sum" [] 9 A_need_sum := by
  refine good_of false F sc_need_sum (by rintro ds d ⟨m, n, k, l, rfl, _⟩; rfl) (fun _ _ _ _ _ _ us hl => match us, hl with | [_], _ => rfl) (fun f cdv Ar outer s H E ds d hr h => ?_)
  obtain ⟨p, c, many, r, rfl, ok, rfl⟩ := h
  exact dss_one (ds_if (z := false) (dt_not (z := true) (dt_val (d_call G hr (da_cons (d_name 0) da_nil) ⟨p, c, many, r, rfl, ok, rfl⟩))) (fun h => nomatch h) (fun _ => dss_nil rfl))
theorem sc_is_so : FnScope ["claimed", "p", "many", "rule", "claim"] ["claimed"] (defScope s_is_so) := ⟨rfl, rfl, rfl, by decide +kernel, rfl, by decide +kernel, by decide +kernel⟩
def A_is_so (ds : List PyData) (d : PyData) : Prop := ∃ (p c : Int) (many : Nat) (r : Ru), ds = [sumD p many r c] ∧ OkS p many r c ∧ d = .bool (decide ((valuesL p many r).sum % p = c))
theorem g_is_so (F : DefAt K mg "is_so" s_is_so []) (B : Blt mg) (G : Good P w K mg base "need_sum" [] 9 A_need_sum) (G2 : Good P w K mg base "values_of" [] 9 A_values_of) : Good P w K mg base "is_so" [] 10 A_is_so := by
  refine good_of false F sc_is_so (by rintro ds d ⟨m, n, k, l, rfl, _⟩; rfl) (fun _ _ _ _ _ _ us hl => match us, hl with | [_], _ => rfl) (fun f cdv Ar outer s H E ds d hr h => ?_)
  obtain ⟨p, c, many, r, rfl, ok, rfl⟩ := h
  have rg := goodP_rng ok.hp
  refine dss_cons (ds_expr (d_call G hr (da_cons (d_name 0) da_nil) ⟨p, c, many, r, rfl, ok, rfl⟩) ?_)
  refine dss_cons (ds_tup4 1 2 3 4 sc_is_so.nd (d_name (d := .tuple [.int p, .int many, ruD r, .int c]) 0) ?_)
  exact dss_one (ds_ret (d_cmp (d_bin (d_callB (da_cons (d_call G2 hr (da_cons (d_name 1) (da_cons (d_name 2) (da_cons (d_name 3) da_nil))) ⟨p, many, r, rfl, ok.hmany, ok.hhigh, ok.hr, by omega, by omega, rfl⟩) da_nil) (cd_sum rfl) B.sum) (d_name 1) (od_mod (by omega))) (d_name 4) od_eqI) rfl)
theorem sc_places_of : FnScope ["claimed", "p", "many", "rule", "claim", "degree"] ["claimed"] (defScope s_places_of) := ⟨rfl, rfl, rfl, by decide +kernel, rfl, by decide +kernel, by decide +kernel⟩
def A_places_of (ds : List PyData) (d : PyData) : Prop := ∃ (p c : Int) (many : Nat) (r : Ru), ds = [sumD p many r c] ∧ OkS p many r c ∧ degR many r = List.replicate many 2 ∧ d = .list (List.replicate many (.int 2))
theorem g_places_of (F : DefAt K mg "places_of" s_places_of []) (B : Blt mg) (G5 : Good P w K mg base "told_degrees" [] 6 (A_told 5)) : Good P w K mg base "places_of" [] 7 A_places_of := by
  refine good_of false F sc_places_of (by rintro ds d ⟨m, n, k, l, rfl, _⟩; rfl) (fun _ _ _ _ _ _ us hl => match us, hl with | [_], _ => rfl) (fun f cdv Ar outer s H E ds d hr h => ?_)
  obtain ⟨p, c, many, r, rfl, ok, hd2, rfl⟩ := h
  have hm := ok.hmany
  have rg := goodP_rng ok.hp
  refine dss_cons (ds_tup4 1 2 3 4 sc_places_of.nd (d_name (d := .tuple [.int p, .int many, ruD r, .int c]) 0) ?_)
  refine dss_one (ds_ret (d_new (lc1 (out := List.replicate many (.int 2)) 5 sc_places_of.nd (id_tup (ds := (degR many r).map .int) (d_call G5 hr (da_cons (d_name 2) (da_cons (d_name 3) da_nil)) ⟨many, r, p, rfl, ok.hhigh, ok.hr, by omega, rfl⟩)) (by rw [List.length_map, degR_len]; simp) (by rw [List.length_map, degR_len]; omega) (fun i d o hd ho => ?_))) rfl)
  have eo := rep_get ho
  subst eo
  obtain ⟨t, ht, rfl, hmm⟩ := map_get hd
  rw [hd2] at ht
  have et := rep_get ht
  subst et
  refine ⟨rfl, fun s H C' cl fp => ?_⟩
  exact d_callB (da_cons (d_name 5) (da_cons (d_bin (d_name 1) d_int od_sub) da_nil)) ((cd_min rfl).to (by rw [if_neg (show ¬ (p - 1 < 2) by omega)])) B.min
theorem sc_loss : FnScope ["claimed"] ["claimed"] (defScope s_loss) := ⟨rfl, rfl, rfl, by decide +kernel, rfl, by decide +kernel, by decide +kernel⟩
def A_loss (ds : List PyData) (d : PyData) : Prop := ∃ (p : Nat) (c : Int) (many : Nat) (r : Ru), ds = [sumD p many r c] ∧ OkS p many r c ∧ degR many r = List.replicate many 2 ∧ many ≤ 9 ∧ d = lossD p many
theorem goodP_mem {p : Nat} (h : goodP (p : Int)) : p ∈ ([5, 7, 11, 13, 101, 65537, 2147483647] : List Nat) := by
  obtain ⟨q, e, hq⟩ := goodP_nat h
  have : p = q := by omega
  rw [this]; exact hq
theorem g_loss (F : DefAt K mg "loss" s_loss []) (G : Good P w K mg base "need_sum" [] 9 A_need_sum) (G2 : Good P w K mg base "missing" [] 4 A_missing) (G3 : Good P w K mg base "places_of" [] 7 A_places_of) : Good P w K mg base "loss" [] 10 A_loss := by
  refine good_of false F sc_loss (by rintro ds d ⟨m, n, k, l, rfl, _⟩; rfl) (fun _ _ _ _ _ _ us hl => match us, hl with | [_], _ => rfl) (fun f cdv Ar outer s H E ds d hr h => ?_)
  obtain ⟨p, c, many, r, rfl, ok, hd2, h9, rfl⟩ := h
  refine dss_cons (ds_expr (d_call G hr (da_cons (d_name 0) da_nil) ⟨p, c, many, r, rfl, ok, rfl⟩) ?_)
  exact dss_one (ds_ret (d_call G2 hr (da_cons (d_ixT (ds := [.int p, .int many, ruD r, .int c]) (d_name 0) d_int rfl) (da_cons (d_call G3 hr (da_cons (d_name 0) da_nil) ⟨p, c, many, r, rfl, ok, hd2, rfl⟩) da_nil)) ⟨p, many, rfl, goodP_mem ok.hp, h9, rfl⟩) rfl)
end
end Wb
/-! ## D14 -/
set_option maxHeartbeats 4000000
namespace Wb
open PySem PySem.Spec PyProof.Rows L2
/-! ### the law's own helpers -/
def triD (t : Nat × Nat × Nat) : PyData := .tuple [.int t.1, .int t.2.1, .int t.2.2]
def thr2 (n i j : Nat) : List (Nat × Nat × Nat) := (List.range (n - (j + 1))).map fun k => (i, j, j + 1 + k)
def thr1 (n i m : Nat) : List (Nat × Nat × Nat) := (List.range m).flatMap fun k => thr2 n i (i + 1 + k)
def thrU (n m : Nat) : List (Nat × Nat × Nat) := (List.range m).flatMap fun i => thr1 n i (n - (i + 1))
def threesN (n : Nat) : List (Nat × Nat × Nat) := thrU n n
theorem thr1_succ (n i m : Nat) : thr1 n i (m + 1) = thr1 n i m ++ thr2 n i (i + 1 + m) := by
  unfold thr1
  rw [List.range_succ, List.flatMap_append]; simp
theorem thrU_succ (n m : Nat) : thrU n (m + 1) = thrU n m ++ thr1 n m (n - (m + 1)) := by
  unfold thrU
  rw [List.range_succ, List.flatMap_append]; simp
theorem thr2_len (n i j : Nat) : (thr2 n i j).length ≤ n := by unfold thr2; rw [List.length_map, List.length_range]; omega
theorem thr1_len (n i : Nat) : ∀ m, (thr1 n i m).length ≤ m * n
  | 0 => by simp [thr1]
  | m + 1 => by
    rw [thr1_succ, List.length_append, Nat.add_mul]
    have h1 := thr1_len n i m
    have h2 := thr2_len n i (i + 1 + m)
    omega
theorem thrU_len (n : Nat) : ∀ m, (thrU n m).length ≤ m * (n * n)
  | 0 => by simp [thrU]
  | m + 1 => by
    rw [thrU_succ, List.length_append, Nat.add_mul]
    have h1 := thrU_len n m
    have h2 := thr1_len n m (n - (m + 1))
    have h3 : (n - (m + 1)) * n ≤ n * n := Nat.mul_le_mul_right n (by omega)
    omega
/-- x[a], x[b] = 1, 1 -/
theorem ds_set2 {X : Cx} {st : DSt} {R : RD} {a b : Expr} {pos pt pt2 ptt p p2 pv2 : Pos} {kt kv k1 k2 : Nat} {pc pc2 : Pos} {v1 v2 : Int} {xs : List PyData} {x : Str} {k l : Nat} {z y : Int} (i : Nat) (ho : st.ow = some (i, xs)) (hf : st.fz = true) (ha : DE X a st (.int z)) (hz : z = (k : Int)) (hk : k < xs.length)
    (hb : DE X b ⟨st.im, some (i, xs.set k (.int v1))⟩ (.int y)) (hy : y = (l : Int)) (hl : l < xs.length) (hr : R.nx ⟨st.im, some (i, (xs.set k (.int v1)).set l (.int v2))⟩) (hc : X.calm = true := by rfl) (hN : X.N[i]? = some x := by rfl) (hv : Vis X.env.scope x := by first | exact Or.inl rfl | exact Or.inr (Or.inl rfl) | exact Or.inr (Or.inr rfl))
    (hd : (x == ("__debug__" : Str)) = false := by decide) (hcd : (x == ("__classdict__" : Str)) = false := by decide)
    (hsub : ∀ v, assign (.Subscript (.Name x p) a pt) X.env v = (do let ov ← holding [v] (eval (.Name x p) X.env); let iv ← holding [v, ov] (eval a X.env); standAt pt; holding [v, ov, iv] (setItem ov iv v); release [v, ov, iv] []) := by intro _; rfl)
    (hsub2 : ∀ v, assign (.Subscript (.Name x p2) b pt2) X.env v = (do let ov ← holding [v] (eval (.Name x p2) X.env); let iv ← holding [v, ov] (eval b X.env); standAt pt2; holding [v, ov, iv] (setItem ov iv v); release [v, ov, iv] []) := by intro _; rfl)
    (hs : swapsWithSole [.Tuple [.Subscript (.Name x p) a pt, .Subscript (.Name x p2) b pt2] kt ptt] (.Tuple [.Constant (.int v1) k1 pc, .Constant (.int v2) k2 pc2] kv pv2) pos.line X.env = pure false := by rfl) (hw : swappedStores [.Tuple [.Subscript (.Name x p) a pt, .Subscript (.Name x p2) b pt2] kt ptt] (.Tuple [.Constant (.int v1) k1 pc, .Constant (.int v2) k2 pc2] kv pv2) X.env = pure none := by rfl)
    (h1 : (assignEach [.Tuple [.Subscript (.Name x p) a pt, .Subscript (.Name x p2) b pt2] kt ptt] X.env).map (·.2) = [assign (.Tuple [.Subscript (.Name x p) a pt, .Subscript (.Name x p2) b pt2] kt ptt) X.env] := by rfl)
    (hn : (assignEach [.Subscript (.Name x p) a pt, .Subscript (.Name x p2) b pt2] X.env).length = 2 := by rfl) (hst : (assignEach [.Subscript (.Name x p) a pt, .Subscript (.Name x p2) b pt2] X.env).findIdx? (·.1) = none := by rfl)
    (hc1 : (assignEach [.Subscript (.Name x p) a pt, .Subscript (.Name x p2) b pt2] X.env).map (·.2) = assign (.Subscript (.Name x p) a pt) X.env :: (assignEach [.Subscript (.Name x p2) b pt2] X.env).map (·.2) := by rfl)
    (hc2 : (assignEach [.Subscript (.Name x p2) b pt2] X.env).map (·.2) = assign (.Subscript (.Name x p2) b pt2) X.env :: (assignEach [] X.env).map (·.2) := by rfl)
    (hs1 : starEach [.Constant (.int v1) k1 pc, .Constant (.int v2) k2 pc2] X.env = (false, eval (.Constant (.int v1) k1 pc) X.env) :: starEach [.Constant (.int v2) k2 pc2] X.env := by rfl) (hs2 : starEach [.Constant (.int v2) k2 pc2] X.env = (false, eval (.Constant (.int v2) k2 pc2) X.env) :: starEach [] X.env := by rfl) :
    DS true X (.Assign [.Tuple [.Subscript (.Name x p) a pt, .Subscript (.Name x p2) b pt2] kt ptt] (.Tuple [.Constant (.int v1) k1 pc, .Constant (.int v2) k2 pc2] kv pv2) pos) st R := fun HB σ H E D P => by
  subst hz hy
  obtain ⟨q, vs, g1, g2, g3, g4⟩ := E.ow i xs ho
  refine wpS_of (ps_asg (pe_tup (pa_cons pe_int (pa_cons pe_int pa_nil hs2) hs1)) (pg_tup hc (pgs_cons (pg_sub (pv i hN hv hd hcd) pe_wp set_list hsub) (pgs_cons (pg_sub (pv i hN hv hd hcd) pe_wp set_list hsub2) pgs_nil hc2) hc1) hn hst) hs hw h1) ?_
  refine ⟨by show 2 ≤ sizeLine; decide, fun tp htp => ?_⟩
  have e0 := same_new (o := HO.tup [V.int v1, V.int v2]) htp
  refine ⟨tp, [.int v1, .int v2], rfl, .inl (.inl upd_same), rfl, .int v1, [.int v2], rfl, ?_⟩
  have E1 := E.ext e0
  refine ⟨.ref q, g1, ha HB σ _ E1 _ fun u H3 e3 gu => ?_⟩
  cases gu
  have e03 := e0.trans e3
  have E3 := E.ext e03
  have l3 := daAll_len g3
  refine ⟨q, vs, _, k, rfl, rfl, e03 _ _ g2, by rw [l3]; exact ixN_nat hk, ?_⟩
  obtain ⟨E4, t4⟩ := E3.mut hf ho g1 (e03 _ _ g2) g4 (daAll_set k (daAll_mono e03 _ _ g3) (.int v1)) (frozenAll_set k (own_fz hf ho) rfl)
  have f4 : DSt.fz ⟨st.im, some (i, xs.set k (.int v1))⟩ = true := by
    have f1 : st.im.all (fun o => match o with | some d => frozen d | none => true) = true := by
      unfold DSt.fz at hf
      exact (Bool.and_eq_true_iff.mp hf).1
    show (st.im.all (fun o => match o with | some d => frozen d | none => true) && frozenAll (xs.set k (.int v1))) = true
    rw [f1, frozenAll_set k (own_fz hf ho) rfl]; rfl
  refine ⟨.int v2, [], rfl, ?_⟩
  refine ⟨.ref q, g1, hb HB σ _ E4 _ fun u H5 e5 gu => ?_⟩
  cases gu
  have E5 := E4.ext e5
  refine ⟨q, vs.set k (.int v1), _, l, rfl, rfl, e5 _ _ upd_same, by rw [List.length_set, l3]; exact ixN_nat hl, ?_⟩
  obtain ⟨l', us, o1, o2, o3, o4⟩ := E5.ow i _ rfl
  rw [g1] at o1
  cases o1
  have ev : us = vs.set k (.int v1) := by
    have := e5 _ _ (upd_same (H := H3) (a := q) (o := .lst (vs.set k (.int v1))))
    rw [o2] at this
    cases this
    rfl
  subst ev
  obtain ⟨E6, t6⟩ := E5.mut f4 rfl g1 o2 o4 (daAll_set l o3 (.int v2)) (frozenAll_set l (frozenAll_set k (own_fz hf ho) rfl) rfl)
  exact ⟨rfl, P.nx σ _ _ (Rel.trans (Rel.trans (Rel.trans (Rel.same e03) t4) (Rel.same e5)) t6) E6 hr⟩
section
variable {P : Program} {w : World} {K : PySem.W.Frag} {mg : Str → Option Value} {base : Heap}
theorem sc_l_ties : FnScope ["_law_web_here", "_law_knots", "_law_found", "_law_one", "_law_other"] ["_law_web_here"] (defScope s_l_ties) := ⟨rfl, rfl, rfl, by decide +kernel, rfl, by decide +kernel, by decide +kernel⟩
theorem g_l_ties (F : DefAt K mg "_law_ties" s_l_ties []) (B : Blt mg) : Good P w K mg base "_law_ties" [] 1 A_ties_of := by
  refine good_of true F sc_l_ties (by rintro ds d ⟨m, n, k, rfl, _⟩; rfl) (fun _ _ _ _ _ _ us hl => match us, hl with | [_], _ => rfl) (fun f cdv Ar outer s H E ds d hr h => ?_)
  obtain ⟨n, b, ts, rfl, ok, rfl⟩ := h
  have n8 : n ≤ 8 := by rcases ok.cases with ⟨rfl, _⟩ | ⟨rfl, _⟩ | ⟨rfl, _⟩ | ⟨rfl, _⟩ <;> decide
  have nn : n * n ≤ 64 := Nat.mul_le_mul n8 n8
  refine dss_cons (ds_parO2 (ds := (List.replicate (n * n) (0 : Int)).map .int) 1 2 sc_l_ties.nd (d_ixT (ds := [.int n, .tuple (ts.map tieD)]) (d_name 0) d_int rfl) ((dl_rep (ds := [.int 0]) (k := ((n * n : Nat) : Int)) (da_cons d_int da_nil) (d_bin (d_ixT (ds := [.int n, .tuple (ts.map tieD)]) (d_name 0) d_int rfl) (d_ixT (ds := [.int n, .tuple (ts.map tieD)]) (d_name 0) d_int rfl) ((od_mulS (cmul_small (by omega) (by omega))).to (by rw [Int.natCast_mul]))) (by decide) (by omega)).to (by rw [Int.toNat_natCast, rep_one, List.map_replicate])) ?_ (by show 2 < 5; decide))
  have tl (i : Nat) : ((ts.take i).foldl (setT n) (List.replicate (n * n) 0)).length = n * n := by rw [tieF_len, List.length_replicate]
  have fz (a b : Option PyData) (l : List Int) (ha : fzO a = true) (hb : fzO b = true) : DSt.fz ⟨[some (webD n ts), some (.int n), none, a, b], some (2, l.map .int)⟩ = true := by
    show ((frozen (webD n ts) && (true && (true && (fzO a && (fzO b && true))))) && frozenAll (l.map .int)) = true
    rw [frozen_web, ha, hb, frozen_ints]; rfl
  refine dss_cons (ds_for2 3 4 sc_l_ties.nd (id_tup (ds := ts.map tieD) (d_ixT (ds := [.int n, .tuple (ts.map tieD)]) (d_name 0) d_int rfl) (fun _ => frozen_ties ts)) (fun i st' => ∃ a b, st' = ⟨[some (webD n ts), some (.int n), none, a, b], some (2, ((ts.take i).foldl (setT n) (List.replicate (n * n) 0)).map .int)⟩) ⟨none, none, rfl⟩ ?_ ?_)
  · rintro i d st' hd ⟨a, b, rfl⟩
    obtain ⟨t, ht, rfl, hm⟩ := map_get hd
    have rg := ok.rng t hm
    have k1 := knot_lt (n := n) (a := t.1) (b := t.2) (by omega) rg.2
    have k2 := knot_lt (n := n) (a := t.2) (b := t.1) rg.2 (by omega)
    refine ⟨.int t.1, .int t.2, rfl, ?_⟩
    refine dss_one (ds_set2 (k := t.1 * n + t.2) (l := t.2 * n + t.1) (z := (t.1 : Int) * n + t.2) (y := (t.2 : Int) * n + t.1) 2 rfl (fz _ _ _ rfl rfl) (d_bin (d_bin (d_name 3) (d_name 1) (od_mulS (cmul_small (by omega) (by omega)))) (d_name 4) od_add) (by rw [Int.natCast_add, Int.natCast_mul]) (by rw [List.length_map, tl]; exact k1)
      (d_bin (d_bin (d_name 4) (d_name 1) (od_mulS (cmul_small (by omega) (by omega)))) (d_name 3) od_add) (by rw [Int.natCast_add, Int.natCast_mul]) (by rw [List.length_map, tl]; exact k2) ?_)
    rw [map_set_int, map_set_int]
    refine ⟨some (.int t.1), some (.int t.2), ?_⟩
    rw [List.take_add_one, ht, List.foldl_append]
    rfl
  · rintro st' ⟨a, b, rfl⟩
    rw [List.length_map, List.take_length]
    exact dss_one (ds_ret (d_callTy (da_cons (d_name 2) da_nil) cd_tuple B.tuple) rfl)
theorem sc_l_names : FnScope ["_law_table", "_law_many"] ["_law_table"] (defScope s_l_names) := ⟨rfl, rfl, rfl, by decide +kernel, rfl, by decide +kernel, by decide +kernel⟩
theorem g_l_names (F : DefAt K mg "_law_names" s_l_names []) (B : Blt mg) : Good P w K mg base "_law_names" [] 1 A_names_in := by
  refine good_of false F sc_l_names (by rintro ds d ⟨m, n, rfl, _⟩; rfl) (fun _ _ _ _ _ _ us hl => match us, hl with | [_], _ => rfl) (fun f cdv Ar outer s H E ds d hr h => ?_)
  obtain ⟨xs, k, rfl, hl, hk, rfl⟩ := h
  refine dss_cons (ds_set 1 sc_l_names.nd d_int ?_)
  refine dss_cons (ds_while (fun m st' => ∃ j : Nat, st' = ⟨[some (.tuple xs), some (.int j)], none⟩ ∧ j + m = k) k ⟨0, rfl, by omega⟩ ?_)
  rintro m st' ⟨j, rfl, e⟩
  have e1 : (1 : Int) * 2 ^ ((j : Int)).toNat = ((2 ^ j : Nat) : Int) := by rw [Int.toNat_natCast, Int.one_mul, Int.natCast_pow]; rfl
  refine ⟨decide (j < k), dt_cmp (d_bin d_int (d_name 1) ((od_shl ⟨by omega, by omega, by decide⟩).to (by rw [e1]))) (d_callB (da_cons (d_name 0) da_nil) (cd_lenT.to (by rw [hl])) B.len) (od_lt.to ?_), fun z => ?_, fun z => ?_⟩
  · refine congrArg PyData.bool ?_
    by_cases q : j < k
    · have : 2 ^ j < 2 ^ k := Nat.pow_lt_pow_right (by decide) q
      rw [decide_eq_true q, decide_eq_true (by omega)]
    · have : 2 ^ k ≤ 2 ^ j := Nat.pow_le_pow_right (by decide) (by omega)
      rw [decide_eq_false q, decide_eq_false (by omega)]
  · have z := of_decide_eq_true z
    exact dss_one (ds_set 1 sc_l_names.nd (d_bin (d_name 1) d_int od_add) ⟨m - 1, by omega, j + 1, rfl, by omega⟩)
  · have z := of_decide_eq_false z
    have : j = k := by omega
    subst this
    exact dss_one (ds_ret (d_name 1) rfl)
end
end Wb
/-! ## D15 -/
set_option maxHeartbeats 4000000
namespace Wb
open PySem PySem.Spec PyProof.Rows L2
/-! ### data that _law_alike is asked about: ints, texts, tuples -/
mutual
def plainA : PyData → Bool
  | .int _ => true
  | .str _ => true
  | .tuple xs => plainAll xs
  | _ => false
def plainAll : List PyData → Bool
  | [] => true
  | d :: ds => plainA d && plainAll ds
end
theorem plainAll_get : ∀ {ds : List PyData} {i : Nat} {d : PyData}, plainAll ds = true → ds[i]? = some d → plainA d = true
  | [], _, _, _, h => by simp at h
  | x :: xs, 0, d, hp, h => by
    have e : x = d := by simpa using h
    subst e
    have q : plainA x = true ∧ plainAll xs = true := by simpa [plainAll] using hp
    exact q.1
  | x :: xs, i + 1, d, hp, h => by
    have q : plainA x = true ∧ plainAll xs = true := by simpa [plainAll] using hp
    exact plainAll_get q.2 (by simpa using h)
theorem depth_get : ∀ {ds : List PyData} {i : Nat} {d : PyData}, ds[i]? = some d → PyData.depth d ≤ PyData.depthAll ds
  | [], _, _, h => by simp at h
  | x :: xs, 0, d, h => by
    have e : x = d := by simpa using h
    subst e
    show _ ≤ max (PyData.depth x) (PyData.depthAll xs)
    omega
  | x :: xs, i + 1, d, h => by
    have q := depth_get (ds := xs) (i := i) (d := d) (by simpa using h)
    show _ ≤ max (PyData.depth x) (PyData.depthAll xs)
    omega
/-! no tuple in it longer than some thousand -/
mutual
def shortA : PyData → Bool
  | .tuple xs => decide (xs.length ≤ 4000) && shortAll xs
  | _ => true
def shortAll : List PyData → Bool
  | [] => true
  | d :: ds => shortA d && shortAll ds
end
theorem shortAll_get : ∀ {ds : List PyData} {i : Nat} {d : PyData}, shortAll ds = true → ds[i]? = some d → shortA d = true
  | [], _, _, _, h => by simp at h
  | x :: xs, 0, d, hp, h => by
    have e : x = d := by simpa using h
    subst e
    have q : shortA x = true ∧ shortAll xs = true := by simpa [shortAll] using hp
    exact q.1
  | x :: xs, i + 1, d, hp, h => by
    have q : shortA x = true ∧ shortAll xs = true := by simpa [shortAll] using hp
    exact shortAll_get q.2 (by simpa using h)
theorem kept_none (gg : Nat → PyData) (n : Nat) : kept (fun _ => false) gg n = [] := by
  unfold kept
  rw [List.filter_eq_nil_iff.mpr (fun _ _ => Bool.false_ne_true)]; rfl
section
variable {P : Program} {w : World} {K : PySem.W.Frag} {mg : Str → Option Value} {base : Heap}
theorem od_isNone {X : Cx} {d : PyData} (h : d ≠ .none) : OpD X (compareOp .Is) d .none (.bool false) := ⟨_, op_isN, fun x y H h1 h2 Q q => by
  cases h2
  have n : x ≠ .non := fun e => by subst e; cases h1; exact h rfl
  refine ⟨rfl, ?_⟩
  rw [decide_eq_false n]
  exact q _ H (Same.refl H) (.bl _)⟩
theorem sc_alike : FnScope ["_law_found", "_law_due", "_law_k"] ["_law_found", "_law_due"] (defScope s_l_alike) := ⟨rfl, rfl, rfl, by decide +kernel, rfl, by decide +kernel, by decide +kernel⟩
def A_alike (n : Nat) (ds : List PyData) (d : PyData) : Prop := ∃ x : PyData, ds = [x, x] ∧ plainA x = true ∧ shortA x = true ∧ PyData.depth x + 1 ≤ n ∧ d = .bool true
theorem g_alike (F : DefAt K mg "_law_alike" s_l_alike []) (B : Blt mg) : ∀ n : Nat, Good P w K mg base "_law_alike" [] (n + 1) (A_alike n)
  | n => by
    have ih : ∀ m, n = m + 1 → Good P w K mg base "_law_alike" [] (m + 1) (A_alike m) := fun m e => by
      subst e
      exact g_alike F B m
    refine good_of false F sc_alike (by rintro ds d ⟨m, rfl, _⟩; rfl) (fun _ _ _ _ _ _ us hl => match us, hl with | [_, _], _ => rfl) (fun f cdv Ar outer s H E ds d hr h => ?_)
    obtain ⟨x, rfl, hp, hs, hn, rfl⟩ := h
    cases x with
    | none => cases hp
    | bool b => cases hp
    | list b => cases hp
    | dict b => cases hp
    | int i =>
      refine dss_cons (ds_if (z := false) (dt_val (d_isi2 (d := .int i) (T := "tuple") (T' := "list") (d_name 1) k_int_tuple k_int_list B.isi B.tuple B.list)) (fun h => nomatch h) (fun _ => dss_nil ?_))
      refine dss_cons (ds_if (z := false) (dt_val (d_isi (d := .int i) (T := "dict") (d_name 1) k_int_dict B.isi B.dict)) (fun h => nomatch h) (fun _ => dss_nil ?_))
      refine dss_cons (ds_if (z := false) (dt_w (dw_or (z := false) (y := false) (dt_cmp (d_name (d := .int i) 1) d_non (od_isNone (fun e => nomatch e))) (fun _ => dw_or1 (dt_val (d_isi (d := .int i) (T := "str") (d_name 1) k_int_str B.isi B.str))))) (fun h => nomatch h) (fun _ => dss_nil ?_))
      exact dss_one (ds_ret (d_and (z := true) (y := true) (d_isi (d := .int i) (T := "int") (d_name 0) k_int_int B.isi B.int) (fun _ => d_and (z := true) (y := true) (d_cmp (d_isi (d := .int i) (T := "bool") (d_name 0) k_int_bool B.isi B.bool) (d_isi (d := .int i) (T := "bool") (d_name 1) k_int_bool B.isi B.bool) (od_eqB.to rfl)) (fun _ => d_one (d_cmp (d_name (d := .int i) 0) (d_name (d := .int i) 1) (od_eqI.to (by rw [decide_eq_true rfl])))))) rfl)
    | str t =>
      refine dss_cons (ds_if (z := false) (dt_val (d_isi2 (d := .str t) (T := "tuple") (T' := "list") (d_name 1) k_str_tuple k_str_list B.isi B.tuple B.list)) (fun h => nomatch h) (fun _ => dss_nil ?_))
      refine dss_cons (ds_if (z := false) (dt_val (d_isi (d := .str t) (T := "dict") (d_name 1) k_str_dict B.isi B.dict)) (fun h => nomatch h) (fun _ => dss_nil ?_))
      refine dss_cons (ds_if (z := true) (dt_w (dw_or (z := false) (y := true) (dt_cmp (d_name (d := .str t) 1) d_non (od_isNone (fun e => nomatch e))) (fun _ => dw_or1 (dt_val (d_isi (d := .str t) (T := "str") (d_name 1) k_str_str B.isi B.str))))) (fun _ => ?_) (fun h => nomatch h))
      exact dss_one (ds_ret (d_and (z := true) (y := true) (d_cmp (d_name (d := .str t) 0) (d_name (d := .str t) 1) (od_eqS.to (by rw [decide_eq_true rfl]))) (fun _ => d_one (d_cmp (d_isi (d := .str t) (T := "str") (d_name 0) k_str_str B.isi B.str) (d_isi (d := .str t) (T := "str") (d_name 1) k_str_str B.isi B.str) (od_eqB.to rfl)))) rfl)
    | tuple xs =>
      have hp' : plainAll xs = true := hp
      have hs' : xs.length ≤ 4000 ∧ shortAll xs = true := by
        have q : (decide (xs.length ≤ 4000) && shortAll xs) = true := hs
        have := Bool.and_eq_true_iff.mp q
        exact ⟨of_decide_eq_true this.1, this.2⟩
      have hn' : PyData.depthAll xs + 1 + 1 ≤ n := hn
      obtain ⟨m, rfl⟩ : ∃ m, n = m + 1 := ⟨n - 1, by omega⟩
      have G := ih m rfl
      refine dss_cons (ds_if (z := true) (dt_val (d_isi2 (d := .tuple xs) (T := "tuple") (T' := "list") (d_name 1) k_tuple_tuple k_tuple_list B.isi B.tuple B.list)) (fun _ => ?_) (fun h => nomatch h))
      refine dss_cons (ds_if (z := false) (dt_w (dw_or (z := false) (y := false) (dt_not (z := true) (dt_val (d_isi2 (d := .tuple xs) (T := "tuple") (T' := "list") (d_name 0) k_tuple_tuple k_tuple_list B.isi B.tuple B.list))) (fun _ => dw_or1 (dt_cmp (d_isi (d := .tuple xs) (T := "list") (d_name 0) k_tuple_list B.isi B.list) (d_isi (d := .tuple xs) (T := "list") (d_name 1) k_tuple_list B.isi B.list) (od_neB.to rfl))))) (fun h => nomatch h) (fun _ => dss_nil ?_))
      refine dss_cons (ds_if (z := false) (dt_cmp (d_callB (da_cons (d_name 0) da_nil) (cd_lenT (ds := xs)) B.len) (d_callB (da_cons (d_name 1) da_nil) (cd_lenT (ds := xs)) B.len) (od_neI.to (by rw [decide_eq_true rfl]; rfl))) (fun h => nomatch h) (fun _ => dss_nil ?_))
      refine dss_one (ds_ret (d_cmp (d_new ((lcf1 2 (fun _ => false) (fun _ => .none) sc_alike.nd (id_rng1 (n := (xs.length : Int)) (da_cons (d_callB (da_cons (d_name 1) da_nil) (cd_lenT (ds := xs)) B.len) da_nil) (by omega) B.range) (by simp; omega) (fun i d hd s' H' C cl fp => ?_) (fun i d hd hk => nomatch hk)).to (kept_none _ _))) (d_lst (ds := []) da_nil) (od_eqD (room64 hr) (by decide +kernel) (by decide +kernel))) rfl)
      obtain ⟨hi, rfl⟩ := range_get hd
      have hi2 : i < xs.length := by omega
      have hx : xs[i]? = some xs[i] := List.getElem?_eq_getElem hi2
      have ax : atI xs (0 + (i : Int)) = some xs[i] := by rw [Int.zero_add]; exact atI_nat hx
      refine dt_not (z := true) (dt_val (d_call G hr (da_cons (d_ixT (ds := xs) (d_name 0) (d_name 2) ax) (da_cons (d_ixT (ds := xs) (d_name 1) (d_name 2) ax) da_nil)) ⟨xs[i], rfl, plainAll_get hp' hx, shortAll_get hs'.2 hx, ?_, rfl⟩ (Nat.le_refl _)))
      have := depth_get hx
      omega
theorem sc_threes : FnScope ["_law_knots", "_law_found", "_law_one", "_law_other", "_law_third"] ["_law_knots"] (defScope s_l_threes) := ⟨rfl, rfl, rfl, by decide +kernel, rfl, by decide +kernel, by decide +kernel⟩
def A_threes (ds : List PyData) (d : PyData) : Prop := ∃ n : Nat, ds = [.int n] ∧ n ≤ 8 ∧ d = .list ((threesN n).map triD)
theorem g_threes (F : DefAt K mg "_law_threes" s_l_threes []) (B : Blt mg) : Good P w K mg base "_law_threes" [] 1 A_threes := by
  refine good_of false F sc_threes (by rintro ds d ⟨m, rfl, _⟩; rfl) (fun _ _ _ _ _ _ us hl => match us, hl with | [_], _ => rfl) (fun f cdv Ar outer s H E ds d hr h => ?_)
  obtain ⟨n, rfl, hn, rfl⟩ := h
  have nn : n * n ≤ 64 := Nat.mul_le_mul hn hn
  refine dss_cons (ds_set 1 sc_threes.nd (d_lst (ds := []) da_nil) ?_)
  refine dss_cons (ds_for 2 sc_threes.nd (id_rng1 (n := (n : Int)) (da_cons (d_name 0) da_nil) (by omega) B.range) (fun i st' => ∃ a b, st' = ⟨[some (.int n), some (.list ((thrU n i).map triD)), a, b, none], none⟩) ⟨none, none, rfl⟩ ?_ ?_)
  · rintro i d st' hd ⟨a, b, rfl⟩
    obtain ⟨hi, rfl⟩ := range_get hd
    have hi2 : i < n := by omega
    have lu := thrU_len n i
    have lu2 : i * (n * n) ≤ 8 * 64 := Nat.mul_le_mul (by omega) nn
    have er : ((n : Int) - ((0 + (i : Int)) + 1)).toNat = n - (i + 1) := by omega
    refine dss_one (ds_for 3 sc_threes.nd (id_rng2 (lo := (0 + (i : Int)) + 1) (n := (n : Int)) (da_cons (d_bin (d_name 2) d_int od_add) (da_cons (d_name 0) da_nil)) (by omega) B.range) (fun k st' => ∃ b, st' = ⟨[some (.int n), some (.list ((thrU n i ++ thr1 n i k).map triD)), some (.int (0 + (i : Int))), b, none], none⟩) ⟨b, by rw [show thr1 n i 0 = [] from rfl, List.append_nil]; rfl⟩ ?_ ?_)
    · rintro k d st' hd ⟨b, rfl⟩
      obtain ⟨hk, rfl⟩ := range_get hd
      have l1 := thr1_len n i k
      have l1' : k * n ≤ 8 * 8 := Nat.mul_le_mul (by omega) hn
      have l2 := thr2_len n i (i + 1 + k)
      have er2 : ((n : Int) - ((0 + (i : Int)) + 1 + (k : Int) + 1)).toNat = n - (i + 1 + k + 1) := by omega
      refine dss_one (ds_set 1 sc_threes.nd ((d_bin (d_name 1) (d_new (lc1 (out := (thr2 n i (i + 1 + k)).map triD) 4 sc_threes.nd (id_rng2 (lo := (0 + (i : Int)) + 1 + (k : Int) + 1) (n := (n : Int)) (da_cons (d_bin (d_name 3) d_int od_add) (da_cons (d_name 0) da_nil)) (by omega) B.range) (by unfold thr2; simp; omega) (by simp; omega) (fun q d o hd ho => ?_))) (od_catL (by rw [List.length_map, List.length_map, List.length_append]; omega))).to (d' := .list ((thrU n i ++ thr1 n i (k + 1)).map triD)) (by rw [← List.map_append, thr1_succ, List.append_assoc])) ⟨_, rfl⟩)
      obtain ⟨hq, rfl⟩ := range_get hd
      unfold thr2 at ho
      rw [List.map_map] at ho
      obtain ⟨_, rfl⟩ := range_get ho
      refine ⟨rfl, fun s H C cl fp => ?_⟩
      refine (d_tup (ds := [.int (0 + (i : Int)), .int ((0 + (i : Int)) + 1 + (k : Int)), .int ((0 + (i : Int)) + 1 + (k : Int) + 1 + (q : Int))]) (da_cons (d_name 2) (da_cons (d_name 3) (da_cons (d_name 4) da_nil)))).to ?_
      show PyData.tuple [.int (0 + (i : Int)), .int ((0 + (i : Int)) + 1 + (k : Int)), .int ((0 + (i : Int)) + 1 + (k : Int) + 1 + (q : Int))] = .tuple [.int (i : Int), .int ((i + 1 + k : Nat) : Int), .int ((i + 1 + k + 1 + q : Nat) : Int)]
      have e1 : (0 + (i : Int)) = (i : Int) := by omega
      have e2 : ((0 + (i : Int)) + 1 + (k : Int)) = ((i + 1 + k : Nat) : Int) := by omega
      have e3 : ((0 + (i : Int)) + 1 + (k : Int) + 1 + (q : Int)) = ((i + 1 + k + 1 + q : Nat) : Int) := by omega
      rw [e3, e2, e1]
    · rintro st' ⟨b, rfl⟩
      rw [List.length_map, List.length_range, er, ← thrU_succ]
      exact ⟨_, _, rfl⟩
  · rintro st' ⟨a, b, rfl⟩
    rw [List.length_map, List.length_range, Int.toNat_natCast]
    exact dss_one (ds_ret (d_name 1) rfl)
end
end Wb
/-! ## R1 -/
set_option maxHeartbeats 4000000
namespace Wb
open PySem PySem.Spec PyProof.Rows L2
/-! ### the row of draws: a list that is changed -/
structure Rw where
  r : Addr
  s : Addr
  ns : List Int
structure Rc where
  a : Int
  b : Int
  c : Int
def Rc.vs (k : Rc) (ρ : Rw) : List V := [.ref ρ.s, .int k.a, .int k.b, .int k.c]
structure RowC (K : PySem.W.Frag) (H : Hp) (ρ : Rw) (k : Rc) : Prop where
  row : H ρ.r = some (.lst (k.vs ρ))
  scr : SqL K H ρ.s (ρ.ns.map V.int)
def RowOk (K : PySem.W.Frag) (H : Hp) (ρ : Rw) : Prop := ∃ k, RowC K H ρ k ∧ 0 ≤ k.a
def Keep (r : Addr) (H H' : Hp) : Prop := ∀ b o, b ≠ r → H b = some o → H' b = some o
abbrev ptrD (r : Addr) : PyData := .dict [(.int (Int.ofNat r), .none)]
theorem da_ptr {K : PySem.W.Frag} {H : Hp} {v : V} {r : Addr} (h : Da K H v (ptrD r)) : v = .ref r := by cases h; rfl
section
variable {K : PySem.W.Frag} {H H' HB : Hp} {ρ : Rw} {k k' : Rc} {r : Addr}
theorem Keep.refl : Keep r H H := fun _ _ _ h => h
theorem Keep.trans {H2 : Hp} (a : Keep r H H') (b : Keep r H' H2) : Keep r H H2 := fun c o n h => b c o n (a c o n h)
theorem Keep.same (e : Same H H') : Keep r H H' := fun b o _ h => e b o h
theorem Keep.tst (e : Keep r H H') {xs : List V} (h : H r = some (.lst xs)) : Tst H H' := fun b o hb n => e b o (fun q => by subst q; rw [h] at hb; cases hb; exact n _ rfl) hb
theorem sqL_mono {a : Addr} {xs : List V} (e : Same H H') (h : SqL K H a xs) : SqL K H' a xs := by
  rcases h with (h | ⟨o, h⟩) | h
  · exact .inl (.inl (e _ _ h))
  · exact .inl (.inr ⟨o, e _ _ h⟩)
  · exact .inr h
theorem RowC.mono (h : RowC K H ρ k) (e : Same H H') : RowC K H' ρ k := ⟨e _ _ h.row, sqL_mono e h.scr⟩
theorem RowOk.mono (h : RowOk K H ρ) (e : Same H H') : RowOk K H' ρ := by
  obtain ⟨k, h1, h2⟩ := h
  exact ⟨k, h1.mono e, h2⟩
/-- the script stands when the row is written -/
theorem RowC.scr' (h : RowC K H ρ k) (e : Keep ρ.r H H') : SqL K H' ρ.s (ρ.ns.map V.int) := by
  rcases h.scr with (h1 | ⟨o, h1⟩) | h1
  · refine .inl (.inl (e _ _ (fun q => ?_) h1))
    rw [q, h.row] at h1
    have z : Rc.vs k ρ = ρ.ns.map V.int := by
      have := Option.some.inj h1
      injection this
    cases hn : ρ.ns with
    | nil => rw [hn] at z; cases z
    | cons x l =>
      rw [hn] at z
      have z' : V.ref ρ.s = V.int x := by
        have := List.head_eq_of_cons_eq z
        exact this
      cases z'
  · refine .inl (.inr ⟨o, e _ _ (fun q => ?_) h1⟩)
    rw [q, h.row] at h1
    cases h1
  · exact .inr h1
theorem keep_upd {o : HO} : Keep r H (upd H r o) := fun b _ n h => by rw [upd_ne n]; exact h
end
/-- the state after the row was written -/
theorem EnvS.row {K : PySem.W.Frag} {HB H H' : Hp} {σ : L2.St} {st : DSt} {ρ : Rw} {k k' : Rc} (E : EnvS K HB H σ st) (f : st.fz = true) (hr : RowC K HB ρ k) (kp : Keep ρ.r H H') (h' : H' ρ.r = some (.lst (k'.vs ρ))) :
    EnvS K (upd HB ρ.r (.lst (k'.vs ρ))) H' σ st ∧ RowC K (upd HB ρ.r (.lst (k'.vs ρ))) ρ k' := by
  have t : Tst H H' := kp.tst (E.ex _ _ hr.row)
  refine ⟨⟨fun b o hb => ?_, fun j d e => ?_, fun j zs e => ?_, E.len⟩, ⟨upd_same, hr.scr' keep_upd⟩⟩
  · by_cases q : b = ρ.r
    · subst q
      rw [upd_same] at hb
      rw [← hb]
      exact h'
    · rw [upd_ne q] at hb
      exact kp _ _ q (E.ex _ _ hb)
  · obtain ⟨v, h1, h2⟩ := E.im j d e
    refine ⟨v, h1, da_tst t _ _ ?_ h2⟩
    have f1 : st.im.all (fun o => match o with | some d => frozen d | none => true) = true := by
      unfold DSt.fz at f
      exact (Bool.and_eq_true_iff.mp f).1
    exact List.all_eq_true.mp f1 (some d) (List.mem_of_getElem? e)
  · obtain ⟨l, us, h1, h2, h3, h4⟩ := E.ow j zs e
    have n : l ≠ ρ.r := fun q => by
      subst q
      rw [hr.row] at h4
      cases h4
    exact ⟨l, us, h1, kp _ _ n h2, daAll_tst t _ _ (own_fz f e) h3, by rw [upd_ne n]; exact h4⟩
/-! ### expressions, statements that draw -/
def RE (X : Cx) (ρ : Rw) (e : Expr) (st : DSt) (k : Rc) (P : PyData → Rc → Prop) : Prop := ∀ (HB : Hp) (σ : L2.St) (H : Hp), EnvS X.K HB H σ st → RowC X.K HB ρ k → ∀ Q : VK, (∀ HB' v H2 d k', Keep ρ.r H H2 → Keep ρ.r HB HB' → EnvS X.K HB' H2 σ st → RowC X.K HB' ρ k' → Da X.K H2 v d → P d k' → Q v H2) → wpE X e σ H Q
def RT (X : Cx) (ρ : Rw) (e : Expr) (st : DSt) (k : Rc) (P : Bool → Rc → Prop) : Prop := ∀ (HB : Hp) (σ : L2.St) (H : Hp), EnvS X.K HB H σ st → RowC X.K HB ρ k → ∀ Q : Bool → Hp → Prop, (∀ HB' z H2 k', Tst H H2 → Keep ρ.r HB HB' → EnvS X.K HB' H2 σ st → RowC X.K HB' ρ k' → P z k' → Q z H2) → wpT X e σ H Q
structure RR where
  nx : DSt → Rc → Prop
  rt : PyData → Rc → Prop
theorem Tst.refl (H : Hp) : Tst H H := fun _ _ h _ => h
theorem Tst.trans {H H1 H2 : Hp} (a : Tst H H1) (b : Tst H1 H2) : Tst H H2 := fun c o h n => b c o (a c o h n) n
theorem Tst.same {H H1 : Hp} (e : Same H H1) : Tst H H1 := fun b o h _ => e b o h
structure PostR (K : PySem.W.Frag) (ρ : Rw) (HB H : Hp) (D : Ends) (R : RR) : Prop where
  nx : ∀ (HB' : Hp) (σ' : L2.St) (H' : Hp) (st' : DSt) (k' : Rc), Tst H H' → Keep ρ.r HB HB' → EnvS K HB' H' σ' st' → RowC K HB' ρ k' → R.nx st' k' → D.nx σ' H'
  rt : ∀ (HB' : Hp) (v : V) (H' : Hp) (d : PyData) (k' : Rc), Keep ρ.r HB HB' → Same HB' H' → RowC K HB' ρ k' → Da K H' v d → R.rt d k' → D.rt v H'
theorem PostR.mono {K : PySem.W.Frag} {ρ : Rw} {HB HB1 H H1 : Hp} {D : Ends} {R : RR} (P : PostR K ρ HB H D R) (t : Tst H H1) (e : Keep ρ.r HB HB1) : PostR K ρ HB1 H1 D R :=
  ⟨fun HB' σ' H' st' k' t' r => P.nx HB' σ' H' st' k' (t.trans t') (e.trans r), fun HB' v H' d k' r => P.rt HB' v H' d k' (e.trans r)⟩
def RS (X : Cx) (ρ : Rw) (s : Stmt) (st : DSt) (k : Rc) (R : RR) : Prop := ∀ (HB : Hp) (σ : L2.St) (H : Hp), EnvS X.K HB H σ st → RowC X.K HB ρ k → ∀ D : Ends, PostR X.K ρ HB H D R → wpS X s D σ H
def RSs (X : Cx) (ρ : Rw) (s : List Stmt) (st : DSt) (k : Rc) (R : RR) : Prop := ∀ (HB : Hp) (σ : L2.St) (H : Hp), EnvS X.K HB H σ st → RowC X.K HB ρ k → ∀ D : Ends, PostR X.K ρ HB H D R → wpSs X s D σ H
section
variable {X : Cx} {ρ : Rw} {st : DSt} {k : Rc} {R : RR} {M : Bool} {s : Stmt} {ss orelse : List Stmt} {a b c e : Expr} {es : List Expr} {pos px py pt p cpos : Pos} {d d1 d2 : PyData} {ds : List PyData} {x y : Str} {P : PyData → Rc → Prop} {T : Bool → Rc → Prop}
theorem re_of (h : DE X e st d) (hp : P d k) : RE X ρ e st k P := fun HB σ H E rc Q q => h HB σ H E _ fun v H2 e2 h2 => q HB v H2 d k (Keep.same e2) Keep.refl (E.ext e2) rc h2 hp
theorem rt_of {z : Bool} (h : DT X e st z) (hp : T z k) : RT X ρ e st k T := fun HB σ H E rc Q q => h HB σ H E _ fun H2 e2 => q HB z H2 k (Tst.same e2) Keep.refl (E.ext e2) rc hp
theorem RE.mono {P' : PyData → Rc → Prop} (h : RE X ρ e st k P) (hp : ∀ d k', P d k' → P' d k') : RE X ρ e st k P' := fun HB σ H E rc Q q => h HB σ H E rc Q fun HB' v H2 d k' a b c d0 d1 d2 => q HB' v H2 d k' a b c d0 d1 (hp d k' d2)
theorem row_tst {K : PySem.W.Frag} {HB H H2 : Hp} {σ : L2.St} (E : EnvS K HB H σ st) (rc : RowC K HB ρ k) (kp : Keep ρ.r H H2) : Tst H H2 := kp.tst (E.ex _ _ rc.row)
/-- an operator of which only the data count -/
def rD (X : Cx) (f : Value → Value → Sem Value) : R2 := fun x y H Q => ∃ d1 d2 d, OpD X f d1 d2 d ∧ Da X.K H x d1 ∧ Da X.K H y d2 ∧ ∀ v H2, Same H H2 → Da X.K H2 v d → Q v H2
theorem op_rD {f : Value → Value → Sem Value} : OpR X f (rD X f) := by
  intro pins s σ' H' x y v u Q' I rx ry h
  obtain ⟨d1, d2, d, ⟨r, hr, hq⟩, g1, g2, qq⟩ := h
  exact hr pins s σ' H' x y v u Q' I rx ry (hq x y H' g1 g2 Q' qq)
theorem re_bin {op : Operator} {P1 : PyData → Rc → Prop} (ha : RE X ρ a st k P1) (hb : ∀ d1 k1, P1 d1 k1 → frozen d1 = true ∧ RE X ρ b st k1 (fun d2 k2 => ∃ d, OpD X (binaryOp op) d1 d2 d ∧ P d k2)) : RE X ρ (.BinOp a op b pos) st k P := fun HB σ H E rc Q q => by
  refine wpE_of (pe_op (op_rD (f := binaryOp op)) pe_wp pe_wp) (ha HB σ H E rc _ fun HB1 v H1 d1 k1 kh1 kp1 E1 rc1 h1 p1 => ?_)
  obtain ⟨f1, h2⟩ := hb d1 k1 p1
  refine h2 HB1 σ H1 E1 rc1 _ fun HB2 u H2 d2 k2 kh2 kp2 E2 rc2 h3 p2 => ?_
  obtain ⟨d, hd, pd⟩ := p2
  exact ⟨d1, d2, d, hd, da_tst (row_tst E1 rc1 kh2) _ _ f1 h1, h3, fun w H3 e3 g => q HB2 w H3 d k2 ((kh1.trans kh2).trans (Keep.same e3)) (kp1.trans kp2) (E2.ext e3) rc2 g pd⟩
theorem rt_cmp {op : CmpOp} {P1 : PyData → Rc → Prop} (ha : RE X ρ a st k P1) (hb : ∀ d1 k1, P1 d1 k1 → frozen d1 = true ∧ RE X ρ b st k1 (fun d2 k2 => ∃ z, OpD X (compareOp op) d1 d2 (.bool z) ∧ T z k2)) (hm : behindInMarks op b = false := by first | exact nomark _ | with_unfolding_all rfl) : RT X ρ (.Compare a [op] [b] pos) st k T := fun HB σ H E rc Q q => by
  refine wpT_of (pt_cmpR (op_rD (f := compareOp op)) pe_wp pe_wp hm) (ha HB σ H E rc _ fun HB1 v H1 d1 k1 kh1 kp1 E1 rc1 h1 p1 => ?_)
  obtain ⟨f1, h2⟩ := hb d1 k1 p1
  refine h2 HB1 σ H1 E1 rc1 _ fun HB2 u H2 d2 k2 kh2 kp2 E2 rc2 h3 p2 => ?_
  obtain ⟨z, hd, pd⟩ := p2
  refine ⟨d1, d2, .bool z, hd, da_tst (row_tst E1 rc1 kh2) _ _ f1 h1, h3, fun w H3 e3 g => ?_⟩
  cases g
  exact ⟨z, rfl, q HB2 z H3 k2 (((row_tst E rc kh1).trans (row_tst E1 rc1 kh2)).trans (Tst.same e3)) (kp1.trans kp2) (E2.ext e3) rc2 pd⟩
/-! the row's own items, read -/
def Rc.get (k : Rc) (i : Nat) : Option Int := [k.a, k.b, k.c][i]?
theorem re_row {i : Nat} {kc : Nat} {pc : Pos} {z : Int} (j : Nat) (h : st.at j = some (ptrD ρ.r)) (hz : k.get i = some z) (hp : P (.int z) k) (hN : X.N[j]? = some x := by rfl) (hv : Vis X.env.scope x := by first | exact Or.inl rfl | exact Or.inr (Or.inl rfl) | exact Or.inr (Or.inr rfl))
    (hd : (x == ("__debug__" : Str)) = false := by decide) (hcd : (x == ("__classdict__" : Str)) = false := by decide) : RE X ρ (.Subscript (.Name x px) (.Constant (.int ((i + 1 : Nat) : Int)) kc pc) pos) st k P := fun HB σ H E rc Q q => by
  obtain ⟨v, g1, g2⟩ := E.get h
  rw [da_ptr g2] at g1
  have g3 := E.ex _ _ rc.row
  refine wpE_of (pe_ix ix_list (pv j hN hv hd hcd) pe_int (fun _ _ => rfl)) ⟨_, g1, _, _, _, .int z, rfl, rfl, SqL.of g3, ?_, q HB _ H (.int z) k Keep.refl Keep.refl E rc (.int z) hp⟩
  have e : k.vs ρ = .ref ρ.s :: [k.a, k.b, k.c].map V.int := rfl
  rw [e]
  have hi : i < 3 := by
    unfold Rc.get at hz
    exact (List.getElem?_eq_some_iff.mp hz).1
  have e2 : [k.a, k.b, k.c][i]? = some z := hz
  show atI (V.ref ρ.s :: [k.a, k.b, k.c].map V.int) ((i + 1 : Nat) : Int) = some (V.int z)
  match i, hi, e2 with
  | 0, _, e2 => cases e2; rfl
  | 1, _, e2 => cases e2; rfl
  | 2, _, e2 => cases e2; rfl
/-- len(row[0]) -/
theorem re_rowlen {kc : Nat} {pc pl px' : Pos} (j : Nat) (h : st.at j = some (ptrD ρ.r)) (hp : P (.int ρ.ns.length) k) (hm : X.mg "len" = none) (hN : X.N[j]? = some x := by rfl) (hv : Vis X.env.scope x := by first | exact Or.inl rfl | exact Or.inr (Or.inl rfl) | exact Or.inr (Or.inr rfl))
    (hd : (x == ("__debug__" : Str)) = false := by decide) (hcd : (x == ("__classdict__" : Str)) = false := by decide) (hg : Gl X "len" := by rfl) (he : starEach [.Subscript (.Name x px) (.Constant (.int 0) kc pc) px'] X.env = (false, eval (.Subscript (.Name x px) (.Constant (.int 0) kc pc) px') X.env) :: starEach [] X.env := by rfl)
    (hpl : (backTo pos (starEach [] X.env)).any (·.1) = false := by rfl) : RE X ρ (.Call (.Name "len" pl) [.Subscript (.Name x px) (.Constant (.int 0) kc pc) px'] [] pos) st k P := fun HB σ H E rc Q q => by
  obtain ⟨v, g1, g2⟩ := E.get h
  rw [da_ptr g2] at g1
  have g3 := E.ex _ _ rc.row
  refine wpE_of (pe_callB call_len_seq hg hm (by decide +kernel) (pa_cons (pe_ix ix_list (pv j hN hv hd hcd) pe_int (fun _ _ => rfl)) pa_nil he) (by decide) (by decide) he hpl) ⟨_, g1, _, _, _, .ref ρ.s, rfl, rfl, SqL.of g3, rfl, ?_⟩
  refine ⟨_, _, rfl, .inl (sqL_mono E.ex rc.scr), ?_⟩
  rw [List.length_map]
  exact q HB _ H _ k Keep.refl Keep.refl E rc (.int _) hp
/-- row[0][e] -/
theorem re_cell {kc : Nat} {pc px' : Pos} {i : Nat} {z : Int} (j : Nat) (h : st.at j = some (ptrD ρ.r)) (hb : RE X ρ b st k (fun d k' => d = .int (i : Int) ∧ k' = k)) (hz : ρ.ns[i]? = some z) (hp : P (.int z) k) (hs : PlainIx b := by exact fun _ _ => rfl) (hN : X.N[j]? = some x := by rfl) (hv : Vis X.env.scope x := by first | exact Or.inl rfl | exact Or.inr (Or.inl rfl) | exact Or.inr (Or.inr rfl))
    (hd : (x == ("__debug__" : Str)) = false := by decide) (hcd : (x == ("__classdict__" : Str)) = false := by decide) : RE X ρ (.Subscript (.Subscript (.Name x px) (.Constant (.int 0) kc pc) px') b pos) st k P := fun HB σ H E rc Q q => by
  obtain ⟨v, g1, g2⟩ := E.get h
  rw [da_ptr g2] at g1
  have g3 := E.ex _ _ rc.row
  refine wpE_of (pe_ix ix_list (pe_ix ix_list (pv j hN hv hd hcd) pe_int (fun _ _ => rfl)) pe_wp hs) ⟨_, g1, _, _, _, .ref ρ.s, rfl, rfl, SqL.of g3, rfl, ?_⟩
  refine hb HB σ H E rc _ fun HB1 u H1 d1 k1 kh1 kp1 E1 rc1 h1 p1 => ?_
  obtain ⟨rfl, rfl⟩ := p1
  cases h1
  refine ⟨ρ.s, ρ.ns.map V.int, (i : Int), .int z, rfl, rfl, sqL_mono E1.ex rc1.scr, ?_, q HB1 _ H1 _ k1 kh1 kp1 E1 rc1 (.int z) hp⟩
  have hl := (List.getElem?_eq_some_iff.mp hz).1
  unfold atI
  rw [ixN_nat (by simpa using hl)]
  show (ρ.ns.map V.int)[i]? = some (V.int z)
  rw [List.getElem?_map, hz]
  rfl
/-- int(e) -/
theorem re_int {pl : Pos} (h : RE X ρ e st k (fun d k' => ∃ z, d = .int z ∧ P (.int z) k')) (hm : X.mg "int" = none) (hg : Gl X "int" := by rfl)
    (he : starEach [e] X.env = (false, eval e X.env) :: starEach [] X.env := by rfl) (hpl : (backTo pos (starEach [] X.env)).any (·.1) = false := by rfl) : RE X ρ (.Call (.Name "int" pl) [e] [] pos) st k P := fun HB σ H E rc Q q => by
  refine wpE_of (pe_callTy call_int1 hg hm (by decide +kernel) (pa_cons pe_wp pa_nil he) (by decide) (by decide) he hpl) (h HB σ H E rc _ fun HB1 v H1 d1 k1 kh1 kp1 E1 rc1 h1 p1 => ?_)
  obtain ⟨z, rfl, pz⟩ := p1
  cases h1
  exact .inl ⟨z, rfl, q HB1 _ H1 _ k1 kh1 kp1 E1 rc1 (.int z) pz⟩
/-! statements -/
theorem rss_nil (h : R.nx st k) : RSs X ρ [] st k R := fun HB σ H E rc D P => wpSs_of pss_nil (P.nx HB σ H st k (Tst.refl H) Keep.refl E rc h)
theorem rss_cons (h : RS X ρ s st k { R with nx := fun st' k' => RSs X ρ ss st' k' R }) : RSs X ρ (s :: ss) st k R := fun HB σ H E rc D P =>
  wpSs_of (pss_cons ps_wp pss_wp) (h HB σ H E rc _ ⟨fun HB' σ' H' st' k' t r E' rc' q => q HB' σ' H' E' rc' D (P.mono t r), P.rt⟩)
theorem rss_one (h : RS X ρ s st k R) : RSs X ρ [s] st k R := fun HB σ H E rc D P => wpSs_of (pss_one ps_wp) (h HB σ H E rc D P)
theorem rs_of (h : DS M X s st { nx := fun st' => R.nx st' k, rt := fun d => R.rt d k }) : RS X ρ s st k R := fun HB σ H E rc D P =>
  h HB σ H E D ⟨fun σ' H' st' re E' q => P.nx HB σ' H' st' k re.tst Keep.refl E' rc q, fun _ _ _ _ _ z => z.elim, fun _ _ _ _ _ z => z.elim, fun v H' d _ sm g q => P.rt HB v H' d k Keep.refl sm rc g q⟩
theorem rss_of (h : DSs M X ss st { nx := fun st' => R.nx st' k, rt := fun d => R.rt d k }) : RSs X ρ ss st k R := fun HB σ H E rc D P =>
  h HB σ H E D ⟨fun σ' H' st' re E' q => P.nx HB σ' H' st' k re.tst Keep.refl E' rc q, fun _ _ _ _ _ z => z.elim, fun _ _ _ _ _ z => z.elim, fun v H' d _ sm g q => P.rt HB v H' d k Keep.refl sm rc g q⟩
theorem rs_ret (h : RE X ρ e st k R.rt) : RS X ρ (.Return (some e) pos) st k R := fun HB σ H E rc D P =>
  wpS_of (ps_ret pe_wp) (h HB σ H E rc _ fun HB1 v H1 d1 k1 _ kp1 E1 rc1 h1 p1 => P.rt HB1 v H1 d1 k1 kp1 E1.ex rc1 h1 p1)
theorem rs_if (h : RT X ρ c st k T) (h1 : ∀ k', T true k' → RSs X ρ ss st k' R) (h2 : ∀ k', T false k' → RSs X ρ orelse st k' R) : RS X ρ (.If c ss orelse pos) st k R := fun HB σ H E rc D P =>
  wpS_of (ps_if pt_wp pss_wp pss_wp) (h HB σ H E rc _ fun HB1 z H1 k1 t kp1 E1 rc1 p1 => by
    cases z with
    | true => exact h1 k1 p1 HB1 σ H1 E1 rc1 D (P.mono t kp1)
    | false => exact h2 k1 p1 HB1 σ H1 E1 rc1 D (P.mono t kp1))
theorem rs_set (i : Nat) (hN : X.N.Nodup) (h : RE X ρ e st k (fun d k' => R.nx (st.set i d) k')) (hi : X.N[i]? = some x := by rfl) (hx : Loc X.env.scope x := by first | exact .inl rfl | exact .inr rfl) (hs : swapsWith e (some (.Name x px)) pos.line X.env = pure false := by rfl) (hf : X.fn x = true ∨ X.env.scope.names.lookup x = some .local := by first | exact .inl rfl | exact .inr rfl) :
    RS X ρ (.Assign [.Name x px] e pos) st k R := fun HB σ H E rc D P =>
  wpS_of (ps_set hN hi hx pe_wp hs hf) (h HB σ H E rc _ fun HB1 v H1 d1 k1 kh1 kp1 E1 rc1 h1 p1 => P.nx HB1 _ H1 _ k1 (row_tst E rc kh1) kp1 (E1.set h1 i) rc1 p1)
/-- row[i] = e -/
def Rc.put (k : Rc) (i : Nat) (z : Int) : Rc := match i with
  | 0 => ⟨z, k.b, k.c⟩
  | 1 => ⟨k.a, z, k.c⟩
  | _ => ⟨k.a, k.b, z⟩
theorem rs_put {i : Nat} {kc : Nat} {pc : Pos} (j : Nat) (hi3 : i < 3) (hf : st.fz = true) (h0 : st.at j = some (ptrD ρ.r)) (h : RE X ρ e st k (fun d k' => ∃ z, d = .int z ∧ R.nx st (k'.put i z))) (hN : X.N[j]? = some x := by rfl) (hv : Vis X.env.scope x := by first | exact Or.inl rfl | exact Or.inr (Or.inl rfl) | exact Or.inr (Or.inr rfl))
    (hd : (x == ("__debug__" : Str)) = false := by decide) (hcd : (x == ("__classdict__" : Str)) = false := by decide)
    (hsub : ∀ v, assign (.Subscript (.Name x p) (.Constant (.int ((i + 1 : Nat) : Int)) kc pc) pt) X.env v = (do let ov ← holding [v] (eval (.Name x p) X.env); let iv ← holding [v, ov] (eval (.Constant (.int ((i + 1 : Nat) : Int)) kc pc) X.env); standAt pt; holding [v, ov, iv] (setItem ov iv v); release [v, ov, iv] []) := by intro _; rfl)
    (hs : swapsWithSole [.Subscript (.Name x p) (.Constant (.int ((i + 1 : Nat) : Int)) kc pc) pt] e pos.line X.env = pure false := by rfl) (hw : swappedStores [.Subscript (.Name x p) (.Constant (.int ((i + 1 : Nat) : Int)) kc pc) pt] e X.env = pure none := by rfl) (h1 : (assignEach [.Subscript (.Name x p) (.Constant (.int ((i + 1 : Nat) : Int)) kc pc) pt] X.env).map (·.2) = [assign (.Subscript (.Name x p) (.Constant (.int ((i + 1 : Nat) : Int)) kc pc) pt) X.env] := by rfl) :
    RS X ρ (.Assign [.Subscript (.Name x p) (.Constant (.int ((i + 1 : Nat) : Int)) kc pc) pt] e pos) st k R := fun HB σ H E rc D P => by
  refine wpS_of (ps_asg pe_wp (pg_sub (pv j hN hv hd hcd) pe_int set_list hsub) hs hw h1) (h HB σ H E rc _ fun HB1 v H1 d1 k1 kh1 kp1 E1 rc1 g1 p1 => ?_)
  obtain ⟨z, rfl, pz⟩ := p1
  cases g1
  obtain ⟨w, q1, q2⟩ := E1.get h0
  rw [da_ptr q2] at q1
  have q3 := E1.ex _ _ rc1.row
  refine ⟨_, q1, ρ.r, k1.vs ρ, _, i + 1, rfl, rfl, q3, ixN_nat (by show i + 1 < 4; omega), ?_⟩
  have ev : (k1.vs ρ).set (i + 1) (.int z) = (k1.put i z).vs ρ := by
    match i, hi3 with
    | 0, _ => rfl
    | 1, _ => rfl
    | 2, _ => rfl
  rw [ev]
  obtain ⟨E2, rc2⟩ := E1.row (k' := k1.put i z) hf rc1 keep_upd upd_same
  exact P.nx _ σ _ st _ ((row_tst E rc kh1).trans (row_tst E1 rc1 keep_upd)) (kp1.trans keep_upd) E2 rc2 pz
/-- for y in (what does not hang on lists) -/
theorem rs_for {xs : List PyData} {iter : Expr} {py : Pos} (j : Nat) (hN : X.N.Nodup) (hi : ID true X (.Name y py) iter st xs) (I : Nat → DSt → Rc → Prop) (h0 : I 0 st k)
    (turn : ∀ i d st' k', xs[i]? = some d → I i st' k' → RSs X ρ ss (st'.set j d) k' { R with nx := I (i + 1) }) (fin : ∀ st' k', I xs.length st' k' → R.nx st' k')
    (hj : X.N[j]? = some y := by rfl) (hy : Loc X.env.scope y := by first | exact .inl rfl | exact .inr rfl) (hf : X.fn y = true ∨ X.env.scope.names.lookup y = some .local := by first | exact .inl rfl | exact .inr rfl)
    (hc : X.calm = true := by rfl) (hp : PassesOwn (model X.prog X.w) X.A X.env X.xe := by exact PassesOwn.never) (hs : ∀ x, foldedSetIterable iter X.env x = pure x := by intro _; rfl) : RS X ρ (.For (.Name y py) iter ss [] pos) st k R := fun HB σ H E rc D P => by
  obtain ⟨wi, hpi, hwi⟩ := hi HB σ H E
  refine wpS_of (ps_for hp hc hpi (pg_name hN hj hy hf) pss_wp hs) (hwi _ fun J H1 e1 ok => ?_)
  refine ⟨fun i m σ' H' => m = xs.length - i ∧ i ≤ xs.length ∧ Tst H1 H' ∧ ∃ HB' st' k', Keep ρ.r HB HB' ∧ EnvS X.K HB' H' σ' st' ∧ RowC X.K HB' ρ k' ∧ I i st' k', ⟨xs.length, rfl, Nat.zero_le _, Tst.refl H1, HB, st, k, Keep.refl, E.ext e1, rc, h0⟩, ?_⟩
  rintro i m σ' H' ⟨rfl, hi, r, HB', st', k', kp, E', rc', hI⟩
  by_cases hlt : i < xs.length
  · refine .inr ⟨ok.go i H' r hlt, fun σ2 H2 => Tst H1 H2 ∧ ∃ HB2 st2 k2, Keep ρ.r HB HB2 ∧ EnvS X.K HB2 H2 σ2 st2 ∧ RowC X.K HB2 ρ k2 ∧ I (i + 1) st2 k2, fun σ2 H2 q => ⟨xs.length - (i + 1), by omega, rfl, hlt, q⟩, fun x H2 y => ?_⟩
    obtain ⟨s2, dx⟩ := ok.yld i H' x H2 r y _ (List.getElem?_eq_getElem hlt)
    have r2 : Tst H1 H2 := r.trans (Tst.same s2)
    exact turn i _ st' k' (List.getElem?_eq_getElem hlt) hI HB' _ H2 ((E'.ext s2).set dx j) rc' _ ⟨fun HB3 σ3 H3 st3 k3 r3 kp3 E3 rc3 q => ⟨r2.trans r3, HB3, st3, k3, kp.trans kp3, E3, rc3, q⟩, fun HB3 v H3 d k3 kp3 => P.rt HB3 v H3 d k3 (kp.trans kp3)⟩
  · have e : i = xs.length := by omega
    subst e
    exact .inl ⟨ok.stop _ H' r (Nat.le_refl _), P.nx HB' σ' H' st' k' ((Tst.same e1).trans r) kp E' rc' (fin st' k' hI)⟩
/-- a, b = x, [] and a, b = x, y (x, y drawn) -/
theorem rs_parO2 {b : Expr} {kt k2 : Nat} {pt2 : Pos} (i j : Nat) (hN : X.N.Nodup) (hb : ∀ st' : DSt, DL X b st' ds) (ha : RE X ρ a st k (fun d1 k' => R.nx ((st.set i d1).own j ds) k' ∧ frozen d1 = true)) (hl : j < st.im.length) (hij : i ≠ j := by decide) (hi : X.N[i]? = some x := by rfl) (hj : X.N[j]? = some y := by rfl) (hc : X.calm = true := by rfl)
    (hx : X.env.scope.names.lookup x = some .local := by rfl) (hy : X.env.scope.names.lookup y = some .local := by rfl)
    (hw : swappedStores [.Tuple [.Name x px, .Name y py] kt pt] (.Tuple [a, b] k2 pt2) X.env = pure (some [x, y]) := by rfl)
    (hs : swapsWithSole [.Tuple [.Name x px, .Name y py] kt pt] (.Tuple [a, b] k2 pt2) pos.line X.env = pure false := by rfl) (h1 : starEach [a, b] X.env = (false, eval a X.env) :: starEach [b] X.env := by rfl) (h2 : starEach [b] X.env = (false, eval b X.env) :: starEach [] X.env := by rfl) :
    RS X ρ (.Assign [.Tuple [.Name x px, .Name y py] kt pt] (.Tuple [a, b] k2 pt2) pos) st k R := fun HB σ H E rc D P =>
  wpS_of (ps_par hc hN hi hj hij hx hy (pa_cons pe_wp (pa_cons pe_wp pa_nil h2) h1) hw hs) (ha HB σ H E rc _ fun HB1 v H1 d1 k1 kh1 kp1 E1 rc1 g1 p1 => hb st HB1 σ H1 E1 _ fun l vs H2 e2 hn g2 g3 => ⟨v, .ref l, rfl, P.nx HB1 _ H2 _ k1 ((row_tst E rc kh1).trans (Tst.same e2)) kp1
    (((E1.ext e2).set (da_mono e2 _ _ g1) i).own g2 g3 (E1.ex.free hn) j (by show j < (st.im.set i (some d1)).length; rw [List.length_set]; exact hl)) rc1 p1.1⟩)
theorem rs_par {b : Expr} {P1 : PyData → Rc → Prop} {kt k2 : Nat} {pt2 : Pos} (i j : Nat) (hN : X.N.Nodup) (ha : RE X ρ a st k P1) (hb : ∀ d1 k1, P1 d1 k1 → frozen d1 = true ∧ RE X ρ b st k1 (fun d2 k2 => R.nx ((st.set i d1).set j d2) k2)) (hij : i ≠ j := by decide) (hi : X.N[i]? = some x := by rfl) (hj : X.N[j]? = some y := by rfl) (hc : X.calm = true := by rfl)
    (hx : X.env.scope.names.lookup x = some .local := by rfl) (hy : X.env.scope.names.lookup y = some .local := by rfl)
    (hw : swappedStores [.Tuple [.Name x px, .Name y py] kt pt] (.Tuple [a, b] k2 pt2) X.env = pure (some [x, y]) := by rfl)
    (hs : swapsWithSole [.Tuple [.Name x px, .Name y py] kt pt] (.Tuple [a, b] k2 pt2) pos.line X.env = pure false := by rfl) (h1 : starEach [a, b] X.env = (false, eval a X.env) :: starEach [b] X.env := by rfl) (h2 : starEach [b] X.env = (false, eval b X.env) :: starEach [] X.env := by rfl) :
    RS X ρ (.Assign [.Tuple [.Name x px, .Name y py] kt pt] (.Tuple [a, b] k2 pt2) pos) st k R := fun HB σ H E rc D P =>
  wpS_of (ps_par hc hN hi hj hij hx hy (pa_cons pe_wp (pa_cons pe_wp pa_nil h2) h1) hw hs) (ha HB σ H E rc _ fun HB1 v H1 d1 k1 kh1 kp1 E1 rc1 g1 p1 => by
    obtain ⟨f1, hb1⟩ := hb d1 k1 p1
    refine hb1 HB1 σ H1 E1 rc1 _ fun HB2 u H2 d2 k2 kh2 kp2 E2 rc2 g2 p2 => ?_
    exact ⟨v, u, rfl, P.nx HB2 _ H2 _ k2 ((row_tst E rc kh1).trans (row_tst E1 rc1 kh2)) (kp1.trans kp2) ((E2.set (da_tst (row_tst E1 rc1 kh2) _ _ f1 g1) i).set g2 j) rc2 p2⟩)
end
end Wb
/-! ## R2 -/
set_option maxHeartbeats 4000000
namespace Wb
open PySem PySem.Spec PyProof.Rows L2
def PuR (K : PySem.W.Frag) (A : List PyData → (PyData → Prop) → Prop) : Sp := fun vs H Q _ => ∃ (ρ : Rw) (us : List V) (ds : List PyData) (P : PyData → Prop), vs = .ref ρ.r :: us ∧ RowOk K H ρ ∧ DaAll K H us ds ∧ A ds P ∧ ∀ v H' d, Keep ρ.r H H' → RowOk K H' ρ → Da K H' v d → P d → Q v H'
def GoodR (P : Program) (w : World) (K : PySem.W.Frag) (mg : Str → Option Value) (base : Heap) (x : Str) (k : Nat) (A : List PyData → (PyData → Prop) → Prop) : Prop :=
  ∃ (f : Addr) (fd : FuncData) (ps : List Str), FnOk P w K mg base CX0 k f fd ps (PuR K A) ∧ mg x = some (.ref f) ∧ PySem.W.keepIn K (.ref f) = true ∧ Binds K fd ps []
theorem goodR_of {P : Program} {w : World} {K : PySem.W.Frag} {mg : Str → Option Value} {base : Heap} {x : Str} {st : Stmt} {N ps : List Str} {k : Nat} {A : List PyData → (PyData → Prop) → Prop} (F : DefAt K mg x st []) (S : FnScope N ps (defScope st)) (hlen : ∀ ds P, A ds P → ds.length + 1 = ps.length)
    (hb : ∀ (kV doc pm : Value) (an : Option Addr) (cdv ct : Value) (us : List Value), us.length = ps.length → bindArgs (PySem.W.fnOf x x (defArgs st) (defBody st) (defScope st) .none kV doc pm an cdv ct) ⟨us, []⟩ = pure (ps.zip us))
    (body : ∀ (f : Addr) (cdv : Value) (Ar : Around) (outer : List Env) (s : Shared) (H : Hp) (E : XK) (ρ : Rw) (κ : Rc) (ds : List PyData) (T : PyData → Prop), Room k (Ar.deeper (envOfC x (defScope st) s.heap.objs.size f cdv)) → 0 ≤ κ.a → A ds T → RSs (BX P w K mg base N x (defScope st) f cdv Ar outer s H E) ρ (defBody st) (startD N (ptrD ρ.r :: ds)) κ { nx := fun _ _ => False, rt := fun d κ' => T d ∧ 0 ≤ κ'.a }) :
    GoodR P w K mg base x (k + 1) A := by
  obtain ⟨f, fd, F, hm⟩ := F
  refine ⟨f, fd, ps, F.ok S (fun vs H Q E h => ?_) (fun cdv Ar outer s H vs Q E hr h => ?_), hm, F.kp, F.bindsN hb⟩
  · obtain ⟨ρ, us, ds, T, rfl, _, h1, h2, _⟩ := h
    have e1 := daAll_len h1
    have e2 := hlen ds T h2
    show us.length + 1 = _
    omega
  · obtain ⟨ρ, us, ds, T, rfl, ⟨κ, hk, hk0⟩, h1, h2, h3⟩ := h
    refine ⟨_, PSs.nox pss_wp, body f cdv Ar outer s H E ρ κ ds T hr hk0 h2 H _ H (env_start (.cons (.ptr _) h1)) hk _ ⟨fun _ _ _ _ _ _ _ _ _ q => q.elim, fun HB' v H' d k' kp sm rc g q => ?_⟩⟩
    exact h3 v H' d (kp.trans (Keep.same sm)) ⟨k', rc.mono sm, q.2⟩ g q.1
section
variable {X : Cx} {ρ : Rw} {st : DSt} {κ : Rc} {R : RR} {e a : Expr} {es : List Expr} {pos px pt p : Pos} {d : PyData} {ds : List PyData} {x : Str} {k m : Nat} {A : List PyData → (PyData → Prop) → Prop} {P : PyData → Rc → Prop} {T : PyData → Prop} {σ : L2.St} {H : Hp}
theorem wp_callR (G : GoodR X.prog X.w X.K X.mg X.base x k A) (hr : Room m X.A) {Q : VK} (h : wpA X (e :: es) σ H fun vs H1 => PuR X.K A vs H1 Q E0) (hk : k ≤ m := by decide) (hg : Gl X x := by rfl) (hdb : (x == ("__debug__" : Str)) = false := by decide)
    (he : starEach (e :: es) X.env = (false, eval e X.env) :: starEach es X.env := by rfl) (hpl : (backTo pos (starEach es X.env)).any (·.1) = false := by rfl) : wpE X (.Call (.Name x p) (e :: es) [] pos) σ H Q := by
  obtain ⟨f, fd, ps, F, hm, hkp, hb⟩ := G
  refine wpE_of (pe_call (E := E0) F (hr.mono hk) hg hm hkp hb .nil pass0 pa_wp hdb he hpl) (fun pos' pins s I => ?_)
  have q := h pos' pins s I
  refine thn q fun us s1 ⟨vs, H1, I1, r, q1⟩ => ⟨vs, H1, I1, r, ?_⟩
  have en : vs ++ [] = vs := List.append_nil vs
  show PuR X.K A (vs ++ []) H1 Q E0
  rw [en]
  exact q1
/-- after a call that draws -/
theorem after_draw {HB H1 H2 : Hp} (E : EnvS X.K HB H1 σ st) (hf : st.fz = true) (rc : RowC X.K HB ρ κ) (kp : Keep ρ.r H1 H2) (rk : RowOk X.K H2 ρ) : ∃ HB' k', Keep ρ.r HB HB' ∧ EnvS X.K HB' H2 σ st ∧ RowC X.K HB' ρ k' ∧ 0 ≤ k'.a := by
  obtain ⟨k', r2, h0⟩ := rk
  obtain ⟨E2, rc2⟩ := E.row (k' := k') hf rc kp r2.row
  exact ⟨_, k', keep_upd, E2, rc2, h0⟩
theorem re_call (G : GoodR X.prog X.w X.K X.mg X.base x k A) (hr : Room m X.A) (hf : st.fz = true) (ha : DA X (e :: es) st (ptrD ρ.r :: ds)) (h0 : 0 ≤ κ.a) (hA : A ds T) (hP : ∀ d κ', T d → 0 ≤ κ'.a → P d κ') (hk : k ≤ m := by decide) (hg : Gl X x := by rfl) (hdb : (x == ("__debug__" : Str)) = false := by decide)
    (he : starEach (e :: es) X.env = (false, eval e X.env) :: starEach es X.env := by rfl) (hpl : (backTo pos (starEach es X.env)).any (·.1) = false := by rfl) : RE X ρ (.Call (.Name x p) (e :: es) [] pos) st κ P := fun HB σ H E rc Q q =>
  wp_callR G hr (ha HB σ H E _ fun vs H1 e1 h1 => by
    cases h1 with
    | @cons v us _ _ g1 g2 =>
      rw [da_ptr g1]
      refine ⟨ρ, us, ds, T, rfl, ⟨κ, rc.mono (E.ex.trans e1), h0⟩, g2, hA, fun v H' d kp rk g t => ?_⟩
      obtain ⟨HB', k', kb, E', rc', h0'⟩ := after_draw (E.ext e1) hf rc kp rk
      exact q HB' v H' d k' ((Keep.same e1).trans kp) kb E' rc' g (hP d k' t h0')) hk hg hdb he hpl
end
/-! ### _law_taken -/
def A_taken : List PyData → (PyData → Prop) → Prop := fun ds T => ∃ n : Int, ds = [.int n] ∧ 0 < n ∧ n < 1000000 ∧ T = fun d => ∃ z, d = .int z ∧ 0 ≤ z ∧ z < n
theorem sc_taken : FnScope ["_law_row", "_law_many", "_law_found", "_law_cell"] ["_law_row", "_law_many"] (defScope s_l_taken) := ⟨rfl, rfl, rfl, by decide +kernel, rfl, by decide +kernel, by decide +kernel⟩
theorem od_fdivS {X : Cx} {i j : Int} (c : 0 < j ∧ j < 1073741824) : OpD X (binaryOp .FloorDiv) (.int i) (.int j) (.int (i / j)) := ⟨_, op_fdiv, fun x y H h1 h2 Q q => by cases h1; cases h2; exact ⟨i, j, rfl, rfl, c, q _ H (Same.refl H) (.int _)⟩⟩
theorem isInt {z : Int} {P : Int → Prop} (h : P z) : ∃ y, PyData.int z = .int y ∧ P y := ⟨z, rfl, h⟩
theorem g_taken {P : Program} {w : World} {K : PySem.W.Frag} {mg : Str → Option Value} {base : Heap} (B : Blt mg) (F : DefAt K mg "_law_taken" s_l_taken []) : GoodR P w K mg base "_law_taken" 1 A_taken := by
  refine goodR_of F sc_taken (by rintro ds T ⟨n, rfl, _⟩; rfl) (fun _ _ _ _ _ _ us hl => match us, hl with | [_, _], _ => rfl) (fun f cdv Ar outer s H E ρ κ ds T hr h0 h => ?_)
  obtain ⟨n, rfl, n0, n1, rfl⟩ := h
  show RSs _ _ (defBody s_l_taken) ⟨[some (ptrD ρ.r), some (.int n), none, none], none⟩ _ _
  have nd := sc_taken.nd
  have md : ∀ z : Int, 0 ≤ z % n ∧ z % n < n := fun z => ⟨Int.emod_nonneg _ (by omega), Int.emod_lt_of_pos _ n0⟩
  refine rss_cons (rs_if (T := fun z k' => k' = κ ∧ (z = true → 0 < κ.c)) (rt_cmp (P1 := fun d k' => d = .int κ.c ∧ k' = κ) (re_row (i := 2) 0 rfl rfl ⟨rfl, rfl⟩) ?_) ?_ ?_)
  · rintro _ _ ⟨rfl, rfl⟩
    exact ⟨rfl, re_of d_int ⟨_, od_gt, rfl, fun z => of_decide_eq_true z⟩⟩
  · rintro k' ⟨rfl, _⟩
    refine rss_cons (rs_set 2 nd (re_bin (P1 := fun d k2 => d = .int k'.c ∧ k2 = k') (re_int (re_row (i := 2) 0 rfl rfl ⟨_, rfl, rfl, rfl⟩) B.int) ?_))
    rintro _ _ ⟨rfl, rfl⟩
    refine ⟨rfl, re_of (d_name 1) ⟨_, od_mod n0, ?_⟩⟩
    refine rss_cons (rs_put (i := 2) 0 (by decide) rfl rfl (re_bin (P1 := fun d k2 => d = .int _ ∧ k2 = _) (re_row (i := 2) 0 rfl rfl ⟨rfl, rfl⟩) ?_))
    rintro _ _ ⟨rfl, rfl⟩
    refine ⟨rfl, re_of (d_name 1) ⟨_, od_fdivS ⟨n0, by omega⟩, _, rfl, ?_⟩⟩
    exact rss_one (rs_of (M := false) (ds_ret (d_name 2) ⟨⟨_, rfl, md _⟩, h0⟩))
  · rintro k' ⟨rfl, _⟩
    refine rss_nil ?_
    refine rss_cons (rs_put (i := 0) 0 (by decide) rfl rfl (re_bin (P1 := fun d k2 => d = .int k'.a ∧ k2 = k') (re_row (i := 0) 0 rfl rfl ⟨rfl, rfl⟩) ?_))
    rintro _ _ ⟨rfl, rfl⟩
    refine ⟨rfl, re_of d_int ⟨_, od_add, _, rfl, ?_⟩⟩
    rename_i κ _
    refine rss_cons (rs_if (T := fun z k' => k' = κ.put 0 (κ.a + 1) ∧ (z = false → κ.a + 1 ≤ (ρ.ns.length : Int))) (rt_cmp (P1 := fun d k' => d = .int (κ.a + 1) ∧ k' = κ.put 0 (κ.a + 1)) (re_row (i := 0) 0 rfl rfl ⟨rfl, rfl⟩) ?_) ?_ ?_)
    · rintro _ _ ⟨rfl, rfl⟩
      exact ⟨rfl, re_rowlen 0 rfl ⟨_, od_gt, rfl, fun z => by have := of_decide_eq_false z; omega⟩ B.len⟩
    · rintro k' ⟨rfl, _⟩
      refine rss_cons (rs_put (i := 1) 0 (by decide) rfl rfl (re_bin (P1 := fun d k2 => ∃ z, d = .int z ∧ k2 = κ.put 0 (κ.a + 1)) (re_int (re_bin (P1 := fun d k2 => ∃ z, d = .int z ∧ k2 = κ.put 0 (κ.a + 1)) (re_bin (P1 := fun d k2 => d = .int κ.b ∧ k2 = κ.put 0 (κ.a + 1)) (re_row (i := 1) 0 rfl rfl ⟨rfl, rfl⟩) ?_) ?_) B.int) ?_))
      · rintro _ _ ⟨rfl, rfl⟩
        exact ⟨rfl, re_of d_int ⟨_, od_mulS (.inr (by decide)), _, rfl, rfl⟩⟩
      · rintro _ _ ⟨z, rfl, rfl⟩
        exact ⟨rfl, re_of d_int ⟨_, od_add, _, rfl, _, rfl, rfl⟩⟩
      rintro _ _ ⟨z, rfl, rfl⟩
      refine ⟨rfl, re_of d_int ⟨_, od_mod (by decide), _, rfl, ?_⟩⟩
      refine rss_one (rs_ret (re_bin (P1 := fun d k2 => (∃ z, d = .int z) ∧ 0 ≤ k2.a) (re_int (re_bin (P1 := fun d k2 => (∃ z, d = .int z) ∧ 0 ≤ k2.a) (re_row (i := 1) 0 rfl rfl ⟨⟨_, rfl⟩, by show 0 ≤ κ.a + 1; omega⟩) ?_) B.int) ?_))
      · rintro _ k2 ⟨⟨z, rfl⟩, q⟩
        exact ⟨rfl, re_of d_int ⟨_, od_fdivS (by decide), _, rfl, ⟨_, rfl⟩, q⟩⟩
      · rintro _ k2 ⟨⟨z, rfl⟩, q⟩
        exact ⟨rfl, re_of (d_name 1) ⟨_, od_mod n0, ⟨_, rfl, md _⟩, q⟩⟩
    · rintro k' ⟨rfl, hlen⟩
      have hle := hlen rfl
      refine rss_nil ?_
      obtain ⟨ai, hai⟩ : ∃ ai : Nat, κ.a = (ai : Int) := ⟨κ.a.toNat, by omega⟩
      have hlt : ai < ρ.ns.length := by omega
      obtain ⟨cell, hcell⟩ : ∃ c, ρ.ns[ai]? = some c := ⟨_, List.getElem?_eq_getElem hlt⟩
      refine rss_cons (rs_set 3 nd (re_cell (i := ai) (z := cell) 0 rfl (re_bin (P1 := fun d k2 => d = .int (κ.a + 1) ∧ k2 = κ.put 0 (κ.a + 1)) (re_row (i := 0) 0 rfl rfl ⟨rfl, rfl⟩) ?_) hcell ?_))
      · rintro _ _ ⟨rfl, rfl⟩
        exact ⟨rfl, re_of d_int ⟨_, od_sub, by rw [hai]; exact congrArg PyData.int (by omega), rfl⟩⟩
      refine rss_cons (rs_put (i := 1) 0 (by decide) rfl rfl (re_bin (P1 := fun d k2 => ∃ z, d = .int z ∧ k2 = κ.put 0 (κ.a + 1)) (re_int (re_bin (P1 := fun d k2 => ∃ z, d = .int z ∧ k2 = κ.put 0 (κ.a + 1)) (re_bin (P1 := fun d k2 => ∃ z, d = .int z ∧ k2 = κ.put 0 (κ.a + 1)) (re_bin (P1 := fun d k2 => d = .int κ.b ∧ k2 = κ.put 0 (κ.a + 1)) (re_row (i := 1) 0 rfl rfl ⟨rfl, rfl⟩) ?_) ?_) ?_) B.int) ?_))
      · rintro _ _ ⟨rfl, rfl⟩
        exact ⟨rfl, re_of d_int ⟨_, od_mulS (.inr (by decide)), _, rfl, rfl⟩⟩
      · rintro _ _ ⟨z, rfl, rfl⟩
        exact ⟨rfl, re_of (d_name 3) ⟨_, od_add, _, rfl, rfl⟩⟩
      · rintro _ _ ⟨z, rfl, rfl⟩
        exact ⟨rfl, re_of d_int ⟨_, od_add, _, rfl, _, rfl, rfl⟩⟩
      rintro _ _ ⟨z, rfl, rfl⟩
      refine ⟨rfl, re_of d_int ⟨_, od_mod (by decide), _, rfl, ?_⟩⟩
      have h1 : 0 ≤ κ.a + 1 := by omega
      have last : ∀ k' : Rc, 0 ≤ k'.a → RS (BX P w K mg base ["_law_row", "_law_many", "_law_found", "_law_cell"] "_law_taken" (defScope s_l_taken) f cdv Ar outer s H E) ρ ((defBody s_l_taken).getD 6 (.Pass ⟨0, 0, 0, 0⟩)) ⟨[some (ptrD ρ.r), some (.int n), none, some (.int cell)], none⟩ k' { nx := fun _ _ => False, rt := fun d κ' => (∃ z, d = .int z ∧ 0 ≤ z ∧ z < n) ∧ 0 ≤ κ'.a } := fun k' hk' => by
        exact rs_of (M := false) (ds_ret (d_bin (d_callTy (da_cons (d_name 3) da_nil) cd_intI B.int) (d_name 1) (od_mod n0)) ⟨⟨_, rfl, md _⟩, hk'⟩)
      refine rss_cons (rs_if (T := fun z k' => 0 ≤ k'.a) (rt_of (dt_cmp (d_name 3) (d_bin d_int d_int (od_pow ⟨by decide, by decide, by decide⟩)) od_ge) h1) ?_ ?_)
      · intro k' hk'
        refine rss_one (rs_put (i := 2) 0 (by decide) rfl rfl (re_of (d_bin (d_name 3) (d_name 1) (od_fdivS ⟨n0, by omega⟩)) ⟨_, rfl, ?_⟩))
        exact rss_one (last _ hk')
      · intro k' hk'
        exact rss_nil (rss_one (last _ hk'))
end Wb
/-! ## R3 -/
set_option maxHeartbeats 4000000
namespace Wb
open PySem PySem.Spec PyProof.Rows L2
/-! ### _law_pick -/
def PuP (K : PySem.W.Frag) : Sp := fun vs H Q _ => ∃ (ρ : Rw) (t : Addr) (xs : List Int), vs = [.ref ρ.r, .ref t] ∧ RowOk K H ρ ∧ H t = some (.lst (xs.map V.int)) ∧ 0 < xs.length ∧ xs.length ≤ 100 ∧ ∀ i H', i ∈ xs → Keep ρ.r H H' → RowOk K H' ρ → Q (.int i) H'
def GoodP (P : Program) (w : World) (K : PySem.W.Frag) (mg : Str → Option Value) (base : Heap) (x : Str) (k : Nat) : Prop :=
  ∃ (f : Addr) (fd : FuncData) (ps : List Str), FnOk P w K mg base CX0 k f fd ps (PuP K) ∧ mg x = some (.ref f) ∧ PySem.W.keepIn K (.ref f) = true ∧ Binds K fd ps []
theorem row_ne {K : PySem.W.Frag} {H : Hp} {ρ : Rw} {κ : Rc} {t : Addr} {xs : List Int} (rc : RowC K H ρ κ) (h : H t = some (.lst (xs.map V.int))) : t ≠ ρ.r := fun e => by
  subst e
  rw [rc.row] at h
  cases xs with
  | nil => cases h
  | cons x l =>
    have z := Option.some.inj h
    have z2 : κ.vs ρ = V.int x :: l.map V.int := by injection z
    have z3 : V.ref ρ.s = V.int x := List.head_eq_of_cons_eq z2
    cases z3
theorem map_daAll {K : PySem.W.Frag} {H : Hp} : ∀ xs : List Int, DaAll K H (xs.map V.int) (xs.map PyData.int)
  | [] => .nil
  | x :: xs => .cons (.int x) (map_daAll xs)
theorem da_use {X : Cx} {es : List Expr} {st : DSt} {ds : List PyData} {HB H : Hp} {σ : L2.St} {Q : List V → Hp → Prop} (h : DA X es st ds) (E : EnvS X.K HB H σ st) (q : ∀ vs H2, Same H H2 → DaAll X.K H2 vs ds → Q vs H2) : wpA X es σ H Q := h HB σ H E Q q
theorem sc_pick : FnScope ["_law_row", "_law_things"] ["_law_row", "_law_things"] (defScope s_l_pick) := ⟨rfl, rfl, rfl, by decide +kernel, rfl, by decide +kernel, by decide +kernel⟩
theorem g_pick {P : Program} {w : World} {K : PySem.W.Frag} {mg : Str → Option Value} {base : Heap} (B : Blt mg) (G : GoodR P w K mg base "_law_taken" 1 A_taken) (F : DefAt K mg "_law_pick" s_l_pick []) : GoodP P w K mg base "_law_pick" 2 := by
  obtain ⟨f, fd, F, hm⟩ := F
  refine ⟨f, fd, ["_law_row", "_law_things"], F.ok sc_pick (fun vs H Q E h => ?_) (fun cdv Ar outer s H vs Q E hr h => ?_), hm, F.kp, F.bindsN (fun _ _ _ _ _ _ us hl => match us, hl with | [_, _], _ => rfl)⟩
  · obtain ⟨ρ, t, xs, rfl, _⟩ := h
    rfl
  · obtain ⟨ρ, t, xs, rfl, ⟨κ, rc, k0⟩, ht, hx0, hx1, hq⟩ := h
    have ne := row_ne rc ht
    have E1 : EnvS K H H (L2.start ["_law_row", "_law_things"] [.ref ρ.r, .ref t]) ⟨[some (ptrD ρ.r), some (.list (xs.map PyData.int))], none⟩ := env_start (N := ["_law_row", "_law_things"]) (.cons (.ptr _) (.cons (.lst ht (map_daAll xs)) .nil))
    refine ⟨_, PSs.nox pss_wp, wpSs_of (pss_one (ps_ret (pe_ix ix_list (pv 1 rfl (by first | exact Or.inl rfl | exact Or.inr (Or.inl rfl) | exact Or.inr (Or.inr rfl)) (by decide) (by decide)) pe_wp (fun _ _ => rfl)))) ?_⟩
    refine ⟨.ref t, rfl, ?_⟩
    refine wp_callR G hr (da_use (st := ⟨[some (ptrD ρ.r), some (.list (xs.map PyData.int))], none⟩) (da_cons (d_name 0 (d := ptrD ρ.r)) (da_cons (d_callB (da_cons (d_name 1 (d := .list (xs.map PyData.int))) da_nil) cd_lenL B.len) da_nil)) E1 fun vs H1 e1 h1 => ?_) (by decide)
    obtain ⟨v, u, rfl, g1, g2⟩ := da_two h1
    rw [da_ptr g1]
    have rc1 := rc.mono e1
    refine ⟨ρ, [u], [.int ((xs.map PyData.int).length : Nat)], _, rfl, ⟨κ, rc1, k0⟩, .cons g2 .nil, ⟨_, rfl, by simp; omega, by simp; omega, rfl⟩, fun v H' d kp rk g tt => ?_⟩
    obtain ⟨z, rfl, z0, z1⟩ := tt
    cases g
    have z1' : z < (xs.length : Int) := by simpa using z1
    obtain ⟨zi, rfl⟩ : ∃ zi : Nat, z = (zi : Int) := ⟨z.toNat, by omega⟩
    have hlt : zi < xs.length := by omega
    have ht' := kp _ _ ne (e1 _ _ ht)
    refine ⟨t, xs.map V.int, (zi : Int), .int xs[zi], rfl, rfl, SqL.of ht', ?_, hq _ H' (List.getElem_mem hlt) ((Keep.same e1).trans kp) rk⟩
    unfold atI
    rw [ixN_nat (by simpa using hlt)]
    show (xs.map V.int)[zi]? = _
    rw [List.getElem?_map, List.getElem?_eq_getElem hlt]
    rfl
/-! a list of ints, made with draws -/
def RL (X : Cx) (ρ : Rw) (e : Expr) (st : DSt) (k : Rc) (L : List Int → Prop) : Prop := ∀ (HB : Hp) (σ : L2.St) (H : Hp), EnvS X.K HB H σ st → RowC X.K HB ρ k → ∀ Q : VK, (∀ HB' t xs H2 k', Keep ρ.r H H2 → Keep ρ.r HB HB' → EnvS X.K HB' H2 σ st → RowC X.K HB' ρ k' → H2 t = some (.lst (xs.map V.int)) → L xs → 0 ≤ k'.a → Q (.ref t) H2) → wpE X e σ H Q
section
variable {X : Cx} {ρ : Rw} {st : DSt} {κ : Rc} {R : RR} {e a b : Expr} {es : List Expr} {pos px pt p : Pos} {d : PyData} {ds : List PyData} {x y : Str} {k m : Nat} {P : PyData → Rc → Prop} {L : List Int → Prop}
theorem rl_lst {xs : List Int} (h : DA X es st (xs.map .int)) (hl : xs.length ≤ 100) (hL : L xs) (h0 : 0 ≤ κ.a) : RL X ρ (.List es pos) st κ L := fun HB σ H E rc Q q =>
  dl_lst h (by rw [List.length_map]; omega) HB σ H E Q fun l vs H2 e2 hn h2 h3 => by
    have ev := daAll_int h3
    subst ev
    exact q HB l xs H2 κ (Keep.same e2) Keep.refl (E.ext e2) rc h2 hL h0
/-- [a, b], the second drawn -/
theorem rl_two {i : Int} {J : Int → Prop} (h : DE X a st (.int i)) (h2 : RE X ρ b st κ (fun d k' => (∃ j, d = .int j ∧ J j) ∧ 0 ≤ k'.a)) (hL : ∀ j, J j → L [i, j])
    (hs : starEach [a, b] X.env = (false, eval a X.env) :: starEach [b] X.env := by rfl) (hs2 : starEach [b] X.env = (false, eval b X.env) :: starEach [] X.env := by rfl) : RL X ρ (.List [a, b] pos) st κ L := fun HB σ H E rc Q q =>
  wpE_of (pe_lst (pa_cons pe_wp (pa_cons pe_wp pa_nil hs2) hs)) (h HB σ H E _ fun v H1 e1 g1 => by
    cases g1
    refine h2 HB σ H1 (E.ext e1) rc _ fun HB2 u H2 d2 k2 kh2 kp2 E2 rc2 g2 p2 => ?_
    obtain ⟨⟨j, rfl, hj⟩, k0⟩ := p2
    cases g2
    refine ⟨by show 2 ≤ sizeLine; decide, fun l hl => ?_⟩
    have sn := same_new (o := HO.lst [V.int i, V.int j]) hl
    exact q HB2 l [i, j] _ k2 (((Keep.same e1).trans kh2).trans (Keep.same sn)) kp2 (E2.ext sn) rc2 upd_same (hL j hj) k0)
theorem re_pick {px0 : Pos} (G : GoodP X.prog X.w X.K X.mg X.base x k) (hr : Room m X.A) (hf : st.fz = true) (j : Nat) (h : st.at j = some (ptrD ρ.r)) (hl : RL X ρ e st κ L) (hL : ∀ xs, L xs → 0 < xs.length ∧ xs.length ≤ 100) (hP : ∀ xs i κ', L xs → i ∈ xs → 0 ≤ κ'.a → P (.int i) κ') (hk : k ≤ m := by decide) (hg : Gl X x := by rfl) (hdb : (x == ("__debug__" : Str)) = false := by decide)
    (hN : X.N[j]? = some y := by rfl) (hv : Vis X.env.scope y := by first | exact Or.inl rfl | exact Or.inr (Or.inl rfl) | exact Or.inr (Or.inr rfl)) (hd : (y == ("__debug__" : Str)) = false := by decide) (hcd : (y == ("__classdict__" : Str)) = false := by decide)
    (he : starEach [.Name y px0, e] X.env = (false, eval (.Name y px0) X.env) :: starEach [e] X.env := by rfl) (he2 : starEach [e] X.env = (false, eval e X.env) :: starEach [] X.env := by rfl) (hpl : (backTo pos (starEach [e] X.env)).any (·.1) = false := by rfl) : RE X ρ (.Call (.Name x p) [.Name y px0, e] [] pos) st κ P := fun HB σ H E rc Q q => by
  obtain ⟨f, fd, ps, F, hm, hkp, hb⟩ := G
  obtain ⟨v, g1, g2⟩ := E.get h
  rw [da_ptr g2] at g1
  refine wpE_of (pe_call (E := E0) F (hr.mono hk) hg hm hkp hb .nil pass0 (pa_cons (pv j hN hv hd hcd) (pa_cons pe_wp pa_nil he2) he) hdb he hpl) ⟨_, g1, ?_⟩
  refine hl HB σ H E rc _ fun HB1 t xs H1 k1 kh1 kp1 E1 rc1 ht hx k0 => ?_
  refine ⟨ρ, t, xs, rfl, ⟨k1, rc1.mono E1.ex, k0⟩, ht, (hL xs hx).1, (hL xs hx).2, fun i H' hi kp rk => ?_⟩
  obtain ⟨HB', k', kb, E', rc', h0'⟩ := after_draw E1 hf rc1 kp rk
  exact q HB' _ H' (.int i) k' (kh1.trans kp) (kp1.trans kb) E' rc' (.int i) (hP xs i k' hx hi h0')
end
end Wb
/-! ## R4 -/
set_option maxHeartbeats 4000000
namespace Wb
open PySem PySem.Spec PyProof.Rows L2
theorem da_pt {X : Cx} {ρ : Rw} {st : DSt} {x : Str} {pos : Pos} (h : DE X (.Name x pos) st (ptrD ρ.r)) : DE X (.Name x pos) st (ptrD ρ.r) := h
section
variable {P : Program} {w : World} {K : PySem.W.Frag} {mg : Str → Option Value} {base : Heap}
/-! ### _law_prime, _law_number -/
def A_prime : List PyData → (PyData → Prop) → Prop := fun ds T => ds = [] ∧ T = fun d => ∃ p, d = .int p ∧ goodP p
theorem sc_prime : FnScope ["_law_row"] ["_law_row"] (defScope s_l_prime) := ⟨rfl, rfl, rfl, by decide +kernel, rfl, by decide +kernel, by decide +kernel⟩
def primesL : List Int := [5, 5, 7, 7, 11, 13, 101, 65537, 2147483647]
theorem primesL_good : ∀ i ∈ primesL, goodP i := by
  intro i h
  unfold primesL at h
  unfold goodP
  simp only [List.mem_cons, List.not_mem_nil, or_false] at h
  omega
theorem g_prime (G : GoodP P w K mg base "_law_pick" 2) (F : DefAt K mg "_law_prime" s_l_prime []) : GoodR P w K mg base "_law_prime" 3 A_prime := by
  refine goodR_of F sc_prime (by rintro ds T ⟨rfl, _⟩; rfl) (fun _ _ _ _ _ _ us hl => match us, hl with | [_], _ => rfl) (fun f cdv Ar outer s H E ρ κ ds T hr h0 h => ?_)
  obtain ⟨rfl, rfl⟩ := h
  show RSs _ _ (defBody s_l_prime) ⟨[some (ptrD ρ.r)], none⟩ _ _
  exact rss_one (rs_ret (re_pick (L := fun xs => xs = primesL) G hr rfl 0 rfl (rl_lst (xs := primesL) (da_cons d_int (da_cons d_int (da_cons d_int (da_cons d_int (da_cons d_int (da_cons d_int (da_cons d_int (da_cons d_int (da_cons d_int da_nil))))))))) (by decide) rfl h0) (fun xs e => by subst e; decide) (fun xs i κ' e hi hk => ⟨⟨i, rfl, primesL_good i (e ▸ hi)⟩, hk⟩)))
def A_number : List PyData → (PyData → Prop) → Prop := fun ds T => ∃ p : Int, ds = [.int p] ∧ goodP p ∧ T = fun d => ∃ v, d = .int v ∧ 0 ≤ v ∧ v < p
theorem sc_number : FnScope ["_law_row", "_law_p", "_law_way"] ["_law_row", "_law_p"] (defScope s_l_number) := ⟨rfl, rfl, rfl, by decide +kernel, rfl, by decide +kernel, by decide +kernel⟩
theorem g_number (G : GoodR P w K mg base "_law_taken" 1 A_taken) (F : DefAt K mg "_law_number" s_l_number []) : GoodR P w K mg base "_law_number" 2 A_number := by
  refine goodR_of F sc_number (by rintro ds T ⟨p, rfl, _⟩; rfl) (fun _ _ _ _ _ _ us hl => match us, hl with | [_, _], _ => rfl) (fun f cdv Ar outer s H E ρ κ ds T hr h0 h => ?_)
  obtain ⟨p, rfl, hp, rfl⟩ := h
  obtain ⟨p5, p9⟩ := goodP_rng hp
  have nd := sc_number.nd
  show RSs _ _ (defBody s_l_number) ⟨[some (ptrD ρ.r), some (.int p), none], none⟩ _ _
  refine rss_cons (rs_set 2 nd (re_call G hr rfl (da_cons (d_name 0 (d := ptrD ρ.r)) (da_cons (d_int (i := 5)) da_nil)) h0 ⟨5, rfl, by decide, by decide, rfl⟩ ?_))
  rintro _ κ1 ⟨z, rfl, z0, z1⟩ k0
  refine rss_cons (rs_if (T := fun t k' => k' = κ1 ∧ t = decide (z < 3)) (rt_of (dt_cmp (d_name 2) d_int od_lt) ⟨rfl, rfl⟩) ?_ ?_)
  · rintro k' ⟨rfl, hz⟩
    have hz := of_decide_eq_true hz.symm
    have hc : z = 0 ∨ z = 1 ∨ z = 2 := by omega
    have md : ∀ v : PyData, (v = .int 0 ∨ v = .int 1 ∨ v = .int (p - 1)) → (∃ v', v = PyData.int v' ∧ 0 ≤ v' ∧ v' < p) := by
      rintro v (rfl | rfl | rfl)
      · exact ⟨0, rfl, by omega, by omega⟩
      · exact ⟨1, rfl, by omega, by omega⟩
      · exact ⟨p - 1, rfl, by omega, by omega⟩
    obtain ⟨v, hv, hm⟩ : ∃ v, atI [PyData.int 0, .int 1, .int (p - 1)] z = some v ∧ (v = .int 0 ∨ v = .int 1 ∨ v = .int (p - 1)) := by
      rcases hc with rfl | rfl | rfl
      · exact ⟨_, rfl, .inl rfl⟩
      · exact ⟨_, rfl, .inr (.inl rfl)⟩
      · exact ⟨_, rfl, .inr (.inr rfl)⟩
    exact rss_of (M := false) (dss_one (ds_ret (d_ixL (ds := [.int 0, .int 1, .int (p - 1)]) (d_new (dl_lst (da_cons d_int (da_cons d_int (da_cons (d_bin (d_name 1) d_int od_sub) da_nil))))) (d_name 2) hv) ⟨md v hm, k0⟩))
  · rintro k' ⟨rfl, _⟩
    refine rss_nil ?_
    refine rss_one (rs_ret (re_bin (P1 := fun d k2 => (∃ z, d = .int z) ∧ 0 ≤ k2.a) (re_bin (P1 := fun d k2 => (∃ z, d = .int z) ∧ 0 ≤ k2.a) (re_bin (P1 := fun d k2 => (∃ z, d = .int z) ∧ 0 ≤ k2.a) (re_call G hr rfl (da_cons (d_name 0 (d := ptrD ρ.r)) (da_cons (d_int (i := 1000)) da_nil)) k0 ⟨1000, rfl, by decide, by decide, rfl⟩ ?_) ?_) ?_) ?_))
    · rintro _ κ2 ⟨y, rfl, _⟩ q0
      exact ⟨⟨_, rfl⟩, q0⟩
    · rintro _ κ2 ⟨⟨y, rfl⟩, q0⟩
      exact ⟨rfl, re_of d_int ⟨_, od_mulS (.inr (by decide)), ⟨_, rfl⟩, q0⟩⟩
    · rintro _ κ2 ⟨⟨y, rfl⟩, q0⟩
      refine ⟨rfl, re_call G hr rfl (da_cons (d_name 0 (d := ptrD ρ.r)) (da_cons (d_int (i := 1000)) da_nil)) q0 ⟨1000, rfl, by decide, by decide, rfl⟩ ?_⟩
      rintro _ κ3 ⟨u, rfl, _⟩ q1
      exact ⟨_, od_add, ⟨_, rfl⟩, q1⟩
    · rintro _ κ2 ⟨⟨y, rfl⟩, q0⟩
      exact ⟨rfl, re_of (d_name 1) ⟨_, od_mod (by omega), ⟨_, rfl, Int.emod_nonneg _ (by omega), Int.emod_lt_of_pos _ (by omega)⟩, q0⟩⟩
end
end Wb
/-! ## R5 -/
set_option maxHeartbeats 4000000
namespace Wb
open PySem PySem.Spec PyProof.Rows L2
/-! ### _law_web -/
def A_web : List PyData → (PyData → Prop) → Prop := fun ds T => ds = [] ∧ T = fun d => ∃ n b ts, d = webD n ts ∧ OkW n b ts
def remN (n i : Nat) : Nat := (n - i) * (n - i - 1) / 2
theorem remN_step : ∀ n ∈ ([1, 2, 4, 8] : List Nat), ∀ i, i < n → remN n i = (n - (i + 1)) + remN n (i + 1) := by
  intro n hn i hi
  have e : ∀ n ∈ ([1, 2, 4, 8] : List Nat), ∀ i ∈ List.range 8, i < n → remN n i = (n - (i + 1)) + remN n (i + 1) := by decide +kernel
  have h8 : n ≤ 8 := by
    simp only [List.mem_cons, List.not_mem_nil, or_false] at hn
    omega
  exact e n hn i (List.mem_range.mpr (by omega)) hi
theorem remN_zero : ∀ n ∈ ([1, 2, 4, 8] : List Nat), remN n 0 ≤ 28 := by decide +kernel
structure W0 (n i : Nat) (ts : List (Nat × Nat)) : Prop where
  rng : ∀ t ∈ ts, t.1 < i ∧ t.1 < t.2 ∧ t.2 < n
  asc : ts.Pairwise ltT
  few : ts.length + remN n i ≤ 28
structure W1 (n i j : Nat) (ts : List (Nat × Nat)) : Prop where
  rng : ∀ t ∈ ts, (t.1 < i ∨ (t.1 = i ∧ t.2 < i + 1 + j)) ∧ t.1 < t.2 ∧ t.2 < n
  asc : ts.Pairwise ltT
  few : ts.length + (n - (i + 1) - j) + remN n (i + 1) ≤ 28
theorem W0.one {n i : Nat} {ts : List (Nat × Nat)} (h : W0 n i ts) (hn : n ∈ ([1, 2, 4, 8] : List Nat)) (hi : i < n) : W1 n i 0 ts :=
  ⟨fun t m => ⟨.inl (h.rng t m).1, (h.rng t m).2⟩, h.asc, by have := h.few; rw [remN_step n hn i hi] at this; omega⟩
theorem W1.zero {n i : Nat} {ts : List (Nat × Nat)} (h : W1 n i (n - (i + 1)) ts) : W0 n (i + 1) ts :=
  ⟨fun t m => ⟨by have := (h.rng t m).1; omega, (h.rng t m).2⟩, h.asc, by have := h.few; omega⟩
theorem W1.no {n i j : Nat} {ts : List (Nat × Nat)} (h : W1 n i j ts) : W1 n i (j + 1) ts :=
  ⟨fun t m => ⟨by have := (h.rng t m).1; omega, (h.rng t m).2⟩, h.asc, by have := h.few; omega⟩
theorem W1.yes {n i j : Nat} {ts : List (Nat × Nat)} (h : W1 n i j ts) (hj : j < n - (i + 1)) : W1 n i (j + 1) (ts ++ [(i, i + 1 + j)]) := by
  refine ⟨fun t m => ?_, ?_, ?_⟩
  · rcases List.mem_append.mp m with m | m
    · exact ⟨by have := (h.rng t m).1; omega, (h.rng t m).2⟩
    · rw [List.mem_singleton.mp m]
      exact ⟨.inr ⟨rfl, by show i + 1 + j < i + 1 + (j + 1); omega⟩, by show i < i + 1 + j; omega, by show i + 1 + j < n; omega⟩
  · refine List.pairwise_append.mpr ⟨h.asc, List.pairwise_singleton _ _, fun a ha b hb => ?_⟩
    rw [List.mem_singleton.mp hb]
    exact (h.rng a ha).1
  · have := h.few
    rw [List.length_append]
    show ts.length + 1 + (n - (i + 1) - (j + 1)) + remN n (i + 1) ≤ 28
    omega
def stW (r : Addr) (n : Nat) (a b : Option Int) (ts : List (Nat × Nat)) : DSt := ⟨[some (ptrD r), some (.int n), none, a.map .int, b.map .int], some (2, ts.map tieD)⟩
theorem stW_fz (r : Addr) (n : Nat) (a b : Option Int) (ts : List (Nat × Nat)) : (stW r n a b ts).fz = true := by
  have h := frozen_ties ts
  cases a <;> cases b <;> (unfold stW DSt.fz; simp [frozen, h])
section
variable {P : Program} {w : World} {K : PySem.W.Frag} {mg : Str → Option Value} {base : Heap}
theorem sc_web : FnScope ["_law_row", "_law_knots", "_law_ties_here", "_law_one", "_law_other"] ["_law_row"] (defScope s_l_web) := ⟨rfl, rfl, rfl, by decide +kernel, rfl, by decide +kernel, by decide +kernel⟩
theorem g_web (B : Blt mg) (GP : GoodP P w K mg base "_law_pick" 2) (G : GoodR P w K mg base "_law_taken" 1 A_taken) (F : DefAt K mg "_law_web" s_l_web []) : GoodR P w K mg base "_law_web" 3 A_web := by
  refine goodR_of F sc_web (by rintro ds T ⟨rfl, _⟩; rfl) (fun _ _ _ _ _ _ us hl => match us, hl with | [_], _ => rfl) (fun f cdv Ar outer s H E ρ κ ds T hr h0 h => ?_)
  obtain ⟨rfl, rfl⟩ := h
  have nd := sc_web.nd
  show RSs _ _ (defBody s_l_web) ⟨[some (ptrD ρ.r), none, none, none, none], none⟩ _ _
  refine rss_cons (rs_parO2 (ds := []) 1 2 nd (fun st' => dl_lst da_nil) (re_pick (L := fun xs => xs = [1, 2, 4, 4, 8]) GP hr rfl 0 rfl (rl_lst (xs := [1, 2, 4, 4, 8]) (da_cons d_int (da_cons d_int (da_cons d_int (da_cons d_int (da_cons d_int da_nil))))) (by decide) rfl h0) (fun xs e => by subst e; decide) ?_) (by show 2 < 5; decide))
  intro xs i κ1 e hi hk
  subst e
  have hn : ∃ n : Nat, i = (n : Int) ∧ n ∈ ([1, 2, 4, 8] : List Nat) := by
    simp only [List.mem_cons, List.not_mem_nil, or_false] at hi
    rcases hi with rfl | rfl | rfl | rfl | rfl
    · exact ⟨1, rfl, by decide⟩
    · exact ⟨2, rfl, by decide⟩
    · exact ⟨4, rfl, by decide⟩
    · exact ⟨4, rfl, by decide⟩
    · exact ⟨8, rfl, by decide⟩
  obtain ⟨n, rfl, hn⟩ := hn
  have h8 : n ≤ 8 := by
    simp only [List.mem_cons, List.not_mem_nil, or_false] at hn
    omega
  refine ⟨?_, rfl⟩
  show RSs _ _ _ (stW ρ.r n none none []) _ _
  refine rss_cons (rs_for (xs := (List.range n).map fun (i : Nat) => PyData.int (0 + (i : Int))) 3 nd (id_rng1 (n := (n : Int)) (da_cons (d_name 1 (d := .int n)) da_nil) (by omega) B.range) (fun i st' k' => 0 ≤ k'.a ∧ ∃ a b ts, st' = stW ρ.r n a b ts ∧ W0 n i ts) ⟨hk, none, none, [], rfl, ⟨(fun t m => nomatch m), .nil, by have := remN_zero n hn; simpa using this⟩⟩ ?_ ?_)
  · rintro i d st' k' hd ⟨hk', a, b, ts, rfl, hw⟩
    obtain ⟨hi, rfl⟩ := range_get hd
    refine rss_one (rs_for (xs := (List.range (((n : Int) - ((0 + (i : Int)) + 1)).toNat)).map fun (j : Nat) => PyData.int (((0 + (i : Int)) + 1) + (j : Int))) 4 nd (id_rng2 (lo := (0 + (i : Int)) + 1) (n := (n : Int)) (da_cons (d_bin (d_name 3 (d := .int (0 + (i : Int)))) d_int od_add) (da_cons (d_name 1 (d := .int n)) da_nil)) (by omega) B.range) (fun j st' k' => 0 ≤ k'.a ∧ ∃ b ts, st' = stW ρ.r n (some (0 + (i : Int))) b ts ∧ W1 n i j ts) ⟨hk', b, ts, rfl, hw.one hn hi⟩ ?_ ?_)
    · rintro j d st' k' hd ⟨hk', b, ts, rfl, hw⟩
      obtain ⟨hj, rfl⟩ := range_get hd
      have hj' : j < n - (i + 1) := by omega
      show RSs _ _ _ (stW ρ.r n (some (0 + (i : Int))) (some ((0 + (i : Int)) + 1 + (j : Int))) ts) _ _
      refine rss_one (rs_if (T := fun _ k' => 0 ≤ k'.a) (rt_cmp (P1 := fun d k' => (∃ z, d = .int z) ∧ 0 ≤ k'.a) (re_call G hr (stW_fz _ _ _ _ _) (da_cons (d_name 0 (d := ptrD ρ.r)) (da_cons (d_int (i := 2)) da_nil)) hk' ⟨2, rfl, by decide, by decide, rfl⟩ ?_) ?_) ?_ ?_)
      · rintro _ κ2 ⟨y, rfl, _⟩ q0
        exact ⟨⟨_, rfl⟩, q0⟩
      · rintro _ κ2 ⟨⟨y, rfl⟩, q0⟩
        exact ⟨rfl, re_of d_int ⟨_, od_eqI, q0⟩⟩
      · intro k2 q2
        refine rss_one (rs_of (M := true) (ds_app 2 rfl (stW_fz _ _ _ _ _) (d_tup (ds := [.int (0 + (i : Int)), .int ((0 + (i : Int)) + 1 + (j : Int))]) (da_cons (d_name 3) (da_cons (d_name 4) da_nil))) rfl (by have := hw.few; rw [List.length_map]; omega) ?_))
        refine ⟨q2, some ((0 + (i : Int)) + 1 + (j : Int)), ts ++ [(i, i + 1 + j)], ?_, hw.yes hj'⟩
        unfold stW
        rw [List.map_append]
        have e1 : ((0 : Int) + (i : Int)) = ((i : Nat) : Int) := by omega
        have e2 : ((i : Nat) : Int) + 1 + (j : Int) = ((i + 1 + j : Nat) : Int) := by omega
        rw [e1, e2]
        rfl
      · intro k2 q2
        exact rss_nil ⟨q2, _, ts, rfl, hw.no⟩
    · rintro st' k' ⟨hk', b, ts, rfl, hw⟩
      refine ⟨hk', _, b, ts, rfl, ?_⟩
      have e : ((List.range (((n : Int) - ((0 + (i : Int)) + 1)).toNat)).map fun (j : Nat) => PyData.int (((0 + (i : Int)) + 1) + (j : Int))).length = n - (i + 1) := by
        rw [List.length_map, List.length_range]; omega
      rw [e] at hw
      exact hw.zero
  · rintro st' k' ⟨hk', a, b, ts, rfl, hw⟩
    have e : ((List.range n).map fun (i : Nat) => PyData.int (0 + (i : Int))).length = n := by rw [List.length_map, List.length_range]
    rw [e] at hw
    refine rss_of (M := false) (dss_one (ds_ret (d_tup (ds := [.int n, .tuple (ts.map tieD)]) (da_cons (d_name 1) (da_cons (d_callTy (da_cons (d_name 2 (d := .list (ts.map tieD))) da_nil) cd_tuple B.tuple) da_nil))) ⟨?_, hk'⟩))
    have hb : ∃ b, n = 2 ^ b ∧ b ≤ 3 := by
      simp only [List.mem_cons, List.not_mem_nil, or_false] at hn
      rcases hn with rfl | rfl | rfl | rfl
      · exact ⟨0, rfl, by decide⟩
      · exact ⟨1, rfl, by decide⟩
      · exact ⟨2, rfl, by decide⟩
      · exact ⟨3, rfl, by decide⟩
    obtain ⟨b, hb1, hb2⟩ := hb
    exact ⟨n, b, ts, rfl, ⟨hb1, hb2, fun t m => (hw.rng t m).2, hw.asc, by have := hw.few; omega⟩⟩
end
end Wb
/-! ## M1 -/
set_option maxHeartbeats 4000000
namespace Wb
open PySem PySem.Spec PyProof.Rows L2
/-! ### sums over ranges -/
def sg (n : Nat) (f : Nat → Int) : Int := ((List.range n).map f).sum
theorem sg_zero (f : Nat → Int) : sg 0 f = 0 := rfl
theorem sum_app1 (l : List Int) (x : Int) : (l ++ [x]).sum = l.sum + x := by
  induction l with
  | nil => simp
  | cons a l ih => rw [List.cons_append, List.sum_cons, ih, List.sum_cons]; omega
theorem sg_succ (n : Nat) (f : Nat → Int) : sg (n + 1) f = sg n f + f n := by
  unfold sg
  rw [List.range_succ, List.map_append]
  exact sum_app1 _ _
theorem sg_congr {n : Nat} {f g : Nat → Int} (h : ∀ i, i < n → f i = g i) : sg n f = sg n g := by
  induction n with
  | zero => rfl
  | succ n ih => rw [sg_succ, sg_succ, ih (fun i hi => h i (by omega)), h n (by omega)]
theorem sg_add (n : Nat) (f g : Nat → Int) : sg n (fun i => f i + g i) = sg n f + sg n g := by
  induction n with
  | zero => rfl
  | succ n ih => rw [sg_succ, sg_succ, sg_succ, ih]; omega
theorem sg_nil (n : Nat) : sg n (fun _ => 0) = 0 := by
  induction n with
  | zero => rfl
  | succ n ih => rw [sg_succ, ih]; rfl
theorem sg_mulr (n : Nat) (f : Nat → Int) (c : Int) : sg n (fun i => f i * c) = sg n f * c := by
  induction n with
  | zero => rw [sg_zero, sg_zero, Int.zero_mul]
  | succ n ih => rw [sg_succ, sg_succ, ih, Int.add_mul]
theorem sg_swap (n m : Nat) (f : Nat → Nat → Int) : sg n (fun i => sg m (f i)) = sg m (fun j => sg n (fun i => f i j)) := by
  induction n with
  | zero => rw [sg_zero]; exact (sg_nil m).symm
  | succ n ih =>
    rw [sg_succ, ih, ← sg_add]
    exact sg_congr fun j _ => (sg_succ n _).symm
/-- one place counts -/
theorem sg_one (n k : Nat) (f : Nat → Int) (h : k < n) : sg n (fun i => if k = i then f i else 0) = f k := by
  have z : ∀ m, m ≤ k → sg m (fun i => if k = i then f i else 0) = 0 := fun m hm => (sg_congr (g := fun _ => 0) fun i hi => if_neg (by omega)).trans (sg_nil m)
  induction n with
  | zero => omega
  | succ n ih =>
    rw [sg_succ]
    by_cases e : k = n
    · subst e
      rw [z k (Nat.le_refl _), if_pos rfl]; omega
    · rw [ih (by omega), if_neg e]; omega
theorem sg_above (i : Nat) (h : Nat → Int) : ∀ n, i < n → sg n (fun j => if i < j then h j else 0) = sg (n - (i + 1)) (fun a => h (i + 1 + a))
  | 0, hn => by omega
  | n + 1, hn => by
    rw [sg_succ]
    by_cases e : i < n
    · rw [sg_above i h n e, if_pos e]
      have e2 : n + 1 - (i + 1) = (n - (i + 1)) + 1 := by omega
      rw [e2, sg_succ]
      have e3 : i + 1 + (n - (i + 1)) = n := by omega
      rw [e3]
    · have e4 : n = i := by omega
      subst e4
      rw [if_neg (by omega)]
      have e5 : n + 1 - (n + 1) = 0 := by omega
      rw [e5, sg_zero]
      have z : sg n (fun j => if n < j then h j else 0) = 0 := (sg_congr (g := fun _ => 0) fun j hj => if_neg (by omega)).trans (sg_nil n)
      rw [z]; rfl
theorem sg_flat (b : Nat) (f : Nat → Int) : ∀ a, sg (a * b) f = sg a (fun i => sg b (fun j => f (i * b + j)))
  | 0 => by rw [Nat.zero_mul]; rfl
  | a + 1 => by
    rw [sg_succ, ← sg_flat b f a, Nat.add_mul, Nat.one_mul]
    have z : ∀ m, sg (a * b + m) f = sg (a * b) f + sg m (fun j => f (a * b + j)) := fun m => by
      induction m with
      | zero => rw [sg_zero, Nat.add_zero]; omega
      | succ m ih => rw [← Nat.add_assoc, sg_succ, ih, sg_succ]; omega
    exact z b
theorem sg_flatMap {α : Type} (g : α → Int) : ∀ (n : Nat) (f : Nat → List α), (((List.range n).flatMap f).map g).sum = sg n (fun i => ((f i).map g).sum)
  | 0, _ => rfl
  | n + 1, f => by
    rw [sg_succ, ← sg_flatMap g n f, List.range_succ, List.flatMap_append, List.map_append]
    have z : ∀ (l l' : List Int), (l ++ l').sum = l.sum + l'.sum := fun l l' => by
      induction l with
      | nil => simp
      | cons a l ih => rw [List.cons_append, List.sum_cons, ih, List.sum_cons]; omega
    rw [z]
    congr 1
    simp
/-- a symmetric sum over three -/
theorem sg_three (n : Nat) (g : Nat → Nat → Nat → Int) (s1 : ∀ i j k, g i j k = g j i k) (s2 : ∀ i j k, g i j k = g i k j) (z : ∀ i j, g i i j = 0) :
    sg n (fun i => sg n (fun j => sg n (fun k => g i j k))) = 6 * sg n (fun i => sg n (fun j => sg n (fun k => if i < j then (if j < k then g i j k else 0) else 0))) := by
  have h : ∀ i j k, g i j k = ((((((if i < j then (if j < k then g i j k else 0) else 0) + (if i < k then (if k < j then g i k j else 0) else 0)) + (if j < i then (if i < k then g j i k else 0) else 0)) + (if j < k then (if k < i then g j k i else 0) else 0)) + (if k < i then (if i < j then g k i j else 0) else 0)) + (if k < j then (if j < i then g k j i else 0) else 0)) := fun i j k => by
    have e1 : g i k j = g i j k := (s2 i j k).symm
    have e2 : g j i k = g i j k := (s1 i j k).symm
    have e3 : g j k i = g i j k := by rw [s2, e2]
    have e4 : g k i j = g i j k := by rw [s1, e1]
    have e5 : g k j i = g i j k := by rw [s1, e3]
    rw [e1, e2, e3, e4, e5]
    by_cases hij : i = j
    · subst hij; rw [z]; simp
    · by_cases hjk : j = k
      · subst hjk; rw [← e3, z]; simp
      · by_cases hik : i = k
        · subst hik
          have : g i j i = 0 := by rw [← e1, z]
          rw [this]; simp
        · rcases Nat.lt_or_ge i j with a | a <;> rcases Nat.lt_or_ge j k with b | b <;> rcases Nat.lt_or_ge i k with c | c <;>
            (repeat (first | rw [if_pos (by omega)] | rw [if_neg (by omega)])) <;> omega
  have e : sg n (fun i => sg n (fun j => sg n (fun k => g i j k))) = sg n (fun i => sg n (fun j => sg n (fun k => ((((((if i < j then (if j < k then g i j k else 0) else 0) + (if i < k then (if k < j then g i k j else 0) else 0)) + (if j < i then (if i < k then g j i k else 0) else 0)) + (if j < k then (if k < i then g j k i else 0) else 0)) + (if k < i then (if i < j then g k i j else 0) else 0)) + (if k < j then (if j < i then g k j i else 0) else 0))))) :=
    sg_congr fun i _ => sg_congr fun j _ => sg_congr fun k _ => h i j k
  rw [e]
  simp only [sg_add]
  have F : ∀ h : Nat → Nat → Nat → Int, sg n (fun i => sg n (fun j => sg n (fun k => h j i k))) = sg n (fun i => sg n (fun j => sg n (fun k => h i j k))) := fun h => sg_swap n n (fun i j => sg n (fun k => h j i k))
  have G : ∀ h : Nat → Nat → Nat → Int, sg n (fun i => sg n (fun j => sg n (fun k => h i k j))) = sg n (fun i => sg n (fun j => sg n (fun k => h i j k))) := fun h => sg_congr fun i _ => sg_swap n n (fun j k => h i k j)
  let h0 : Nat → Nat → Nat → Int := fun i j k => if i < j then (if j < k then g i j k else 0) else 0
  have t2 := G h0
  have t3 := F h0
  have t4 := (F (fun i j k => h0 i k j)).trans (G h0)
  have t5 := (G (fun i j k => h0 j i k)).trans (F h0)
  have t6 := (G (fun i j k => h0 j k i)).trans t4
  simp only [h0] at t2 t3 t4 t5 t6
  rw [t2, t3, t4, t5, t6]
  omega
end Wb
/-! ## M2 -/
set_option maxHeartbeats 4000000
namespace Wb
open PySem PySem.Spec PyProof.Rows L2
/-! ### the table of ties -/
def pI (ts : List (Nat × Nat)) (i j : Nat) : Int := if (i, j) ∈ ts then 1 else 0
def tI (ts : List (Nat × Nat)) (i j : Nat) : Int := if (i, j) ∈ ts ∨ (j, i) ∈ ts then 1 else 0
theorem ix_inj {n a b i j : Nat} (hb : b < n) (hj : j < n) (h : a * n + b = i * n + j) : a = i ∧ b = j := by
  have h0 : 0 < n := by omega
  have e1 : (a * n + b) / n = a := by rw [Nat.mul_comm, Nat.mul_add_div h0, Nat.div_eq_of_lt hb, Nat.add_zero]
  have e2 : (i * n + j) / n = i := by rw [Nat.mul_comm, Nat.mul_add_div h0, Nat.div_eq_of_lt hj, Nat.add_zero]
  have e : a = i := by rw [← e1, h, e2]
  subst e
  exact ⟨rfl, by omega⟩
theorem ix_lt {n i j : Nat} (hi : i < n) (hj : j < n) : i * n + j < n * n := by
  have h : (i + 1) * n ≤ n * n := Nat.mul_le_mul_right n hi
  rw [Nat.add_mul] at h
  omega
theorem getD_set (l : List Int) (a b : Nat) (v : Int) (hb : b < l.length) : (l.set a v).getD b 0 = if a = b then v else l.getD b 0 := by
  rw [List.getD_eq_getElem?_getD, List.getD_eq_getElem?_getD]
  by_cases e : a = b
  · subst e
    rw [List.getElem?_set_self hb, if_pos rfl]; rfl
  · rw [List.getElem?_set_ne e, if_neg e]
theorem setT_get {n i j : Nat} (l : List Int) (t : Nat × Nat) (ht : t.1 < n ∧ t.2 < n) (hl : l.length = n * n) (hi : i < n) (hj : j < n) : (setT n l t).getD (i * n + j) 0 = if t = (i, j) ∨ t = (j, i) then 1 else l.getD (i * n + j) 0 := by
  obtain ⟨a, b⟩ := t
  have hlt := ix_lt hi hj
  unfold setT
  rw [getD_set _ _ _ _ (by rw [List.length_set, hl]; exact hlt), getD_set _ _ _ _ (by rw [hl]; exact hlt)]
  by_cases h2 : b = i ∧ a = j
  · obtain ⟨rfl, rfl⟩ := h2
    rw [if_pos rfl, if_pos (.inr rfl)]
  · rw [if_neg (fun e => h2 (ix_inj ht.1 hj e))]
    by_cases h1 : a = i ∧ b = j
    · obtain ⟨rfl, rfl⟩ := h1
      rw [if_pos rfl, if_pos (.inl rfl)]
    · rw [if_neg (fun e => h1 (ix_inj ht.2 hj e)), if_neg]
      rintro (e | e)
      · cases e; exact h1 ⟨rfl, rfl⟩
      · cases e; exact h2 ⟨rfl, rfl⟩
theorem tieF_get {n i j : Nat} (hi : i < n) (hj : j < n) : ∀ (ts : List (Nat × Nat)) (l : List Int), (∀ t ∈ ts, t.1 < n ∧ t.2 < n) → l.length = n * n → (ts.foldl (setT n) l).getD (i * n + j) 0 = if (i, j) ∈ ts ∨ (j, i) ∈ ts then 1 else l.getD (i * n + j) 0
  | [], l, _, _ => by rw [if_neg (by simp)]; rfl
  | t :: ts, l, ht, hl => by
    rw [List.foldl_cons, tieF_get hi hj ts _ (fun u hu => ht u (List.mem_cons_of_mem _ hu)) (by rw [setT_len, hl]), setT_get l t (ht t (List.mem_cons_self ..)) hl hi hj]
    by_cases h : (i, j) ∈ ts ∨ (j, i) ∈ ts
    · rw [if_pos h, if_pos (h.imp (List.mem_cons_of_mem _) (List.mem_cons_of_mem _))]
    · rw [if_neg h]
      by_cases h2 : t = (i, j) ∨ t = (j, i)
      · rw [if_pos h2, if_pos (h2.imp (fun e => by rw [e]; exact List.mem_cons_self ..) (fun e => by rw [e]; exact List.mem_cons_self ..))]
      · rw [if_neg h2, if_neg]
        rintro (m | m)
        · rcases List.mem_cons.mp m with m | m
          · exact h2 (.inl m.symm)
          · exact h (.inl m)
        · rcases List.mem_cons.mp m with m | m
          · exact h2 (.inr m.symm)
          · exact h (.inr m)
theorem tie_get {n b : Nat} {ts : List (Nat × Nat)} (ok : OkW n b ts) {i j : Nat} (hi : i < n) (hj : j < n) : (tieL n ts).getD (i * n + j) 0 = tI ts i j := by
  unfold tieL tI
  rw [tieF_get hi hj ts _ (fun t m => by have := ok.rng t m; omega) (by simp)]
  congr 1
  rw [List.getD_eq_getElem?_getD, List.getElem?_replicate]
  split <;> rfl
theorem setT_bit {n : Nat} {l : List Int} (t : Nat × Nat) (h : ∀ x ∈ l, x = 0 ∨ x = 1) : ∀ x ∈ setT n l t, x = 0 ∨ x = 1 := fun x m => by
  unfold setT at m
  rcases List.mem_or_eq_of_mem_set m with m | m
  · rcases List.mem_or_eq_of_mem_set m with m | m
    · exact h x m
    · exact .inr m
  · exact .inr m
theorem tie_bit (n : Nat) (ts : List (Nat × Nat)) : ∀ x ∈ tieL n ts, x = 0 ∨ x = 1 := by
  have h : ∀ (ts : List (Nat × Nat)) (l : List Int), (∀ x ∈ l, x = 0 ∨ x = 1) → ∀ x ∈ ts.foldl (setT n) l, x = 0 ∨ x = 1 := fun ts => by
    induction ts with
    | nil => exact fun l h => h
    | cons t ts ih => exact fun l h => ih _ (setT_bit t h)
  exact h ts _ fun x m => .inl (List.eq_of_mem_replicate m)
theorem tI_comm (ts : List (Nat × Nat)) (i j : Nat) : tI ts i j = tI ts j i := by
  unfold tI
  by_cases h : (i, j) ∈ ts ∨ (j, i) ∈ ts
  · rw [if_pos h, if_pos h.symm]
  · rw [if_neg h, if_neg (fun q => h q.symm)]
theorem tI_up {n b : Nat} {ts : List (Nat × Nat)} (ok : OkW n b ts) {i j : Nat} (h : i < j) : tI ts i j = pI ts i j := by
  unfold tI pI
  by_cases m : (i, j) ∈ ts
  · rw [if_pos (.inl m), if_pos m]
  · rw [if_neg m, if_neg]
    rintro (q | q)
    · exact m q
    · have := (ok.rng _ q).1
      exact absurd this (by show ¬ j < i; omega)
theorem tI_self {n b : Nat} {ts : List (Nat × Nat)} (ok : OkW n b ts) (i : Nat) : tI ts i i = 0 := by
  unfold tI
  rw [if_neg]
  rintro (q | q) <;> exact absurd (ok.rng _ q).1 (Nat.lt_irrefl i)
theorem pI_le {n b : Nat} {ts : List (Nat × Nat)} (ok : OkW n b ts) {i j : Nat} (h : j ≤ i) : pI ts i j = 0 := by
  unfold pI
  rw [if_neg]
  intro q
  exact absurd (ok.rng _ q).1 (by show ¬ i < j; omega)
/-! ### powers of the matrix -/
def ent (m : List (List Int)) (i j : Nat) : Int := (m.getD i []).getD j 0
theorem getD_range {α : Type} (f : Nat → α) (d : α) {n i : Nat} (h : i < n) : ((List.range n).map f).getD i d = f i := by
  rw [List.getD_eq_getElem?_getD, List.getElem?_map, List.getElem?_range h]
  rfl
theorem ent_id {n i j : Nat} (hi : i < n) (hj : j < n) : ent (idM n) i j = if i = j then 1 else 0 := by
  unfold ent idM
  rw [getD_range _ _ hi, getD_range _ _ hj]
theorem ent_mul {n i j : Nat} (t : List Int) (m : List (List Int)) (hm : m.length = n) (hi : i < n) (hj : j < n) : ent (mulM n t m) i j = sg n (fun k => ent m i k * t.getD (k * n + j) 0) := by
  unfold ent mulM
  have e : (m.map fun r => (List.range n).map fun to => ((List.range n).map fun mid => r.getD mid 0 * t.getD (mid * n + to) 0).sum).getD i [] = (List.range n).map fun to => ((List.range n).map fun mid => (m.getD i []).getD mid 0 * t.getD (mid * n + to) 0).sum := by
    rw [List.getD_eq_getElem?_getD, List.getElem?_map, List.getD_eq_getElem?_getD, List.getElem?_eq_getElem (by omega)]
    rfl
  rw [e, getD_range _ _ hj]
  rfl
theorem pow_len (n : Nat) (t : List Int) : ∀ k, (powM n t k).length = n
  | 0 => by unfold powM idM; simp
  | k + 1 => by
    show (mulM n t (powM n t k)).length = n
    unfold mulM
    rw [List.length_map, pow_len n t k]
section
variable {n b : Nat} {ts : List (Nat × Nat)} (ok : OkW n b ts)
include ok
theorem ent_one {i j : Nat} (hi : i < n) (hj : j < n) : ent (powM n (tieL n ts) 1) i j = tI ts i j := by
  show ent (mulM n (tieL n ts) (idM n)) i j = _
  rw [ent_mul (tieL n ts) (idM n) (pow_len n (tieL n ts) 0) hi hj]
  rw [← sg_one n i (fun k => tI ts k j) hi]
  refine sg_congr fun k hk => ?_
  rw [ent_id hi hk, tie_get ok hk hj]
  by_cases e : i = k
  · rw [if_pos e, if_pos e, Int.one_mul]
  · rw [if_neg e, if_neg e, Int.zero_mul]
theorem ent_two {i j : Nat} (hi : i < n) (hj : j < n) : ent (powM n (tieL n ts) 2) i j = sg n (fun k => tI ts i k * tI ts k j) := by
  show ent (mulM n (tieL n ts) (powM n (tieL n ts) 1)) i j = _
  rw [ent_mul _ _ (pow_len n (tieL n ts) 1) hi hj]
  exact sg_congr fun k hk => by rw [ent_one ok hi hk, tie_get ok hk hj]
theorem ent_three {i j : Nat} (hi : i < n) (hj : j < n) : ent (powM n (tieL n ts) 3) i j = sg n (fun k => sg n (fun m => tI ts i m * tI ts m k) * tI ts k j) := by
  show ent (mulM n (tieL n ts) (powM n (tieL n ts) 2)) i j = _
  rw [ent_mul _ _ (pow_len n (tieL n ts) 2) hi hj]
  exact sg_congr fun k hk => by rw [ent_two ok hi hk, tie_get ok hk hj]
theorem cw_two : cwN n ts 2 = sg n (fun i => sg n (fun j => tI ts i j * tI ts j i)) := by
  show sg n (fun k => ent (powM n (tieL n ts) 2) k k) = _
  exact sg_congr fun k hk => ent_two ok hk hk
theorem cw_three : cwN n ts 3 = sg n (fun i => sg n (fun j => sg n (fun k => tI ts i k * tI ts k j * tI ts j i))) := by
  show sg n (fun k => ent (powM n (tieL n ts) 3) k k) = _
  exact sg_congr fun k hk => (ent_three ok hk hk).trans (sg_congr fun j _ => (sg_mulr n _ _).symm)
end
theorem pI_sum (n : Nat) : ∀ ts : List (Nat × Nat), ts.Nodup → (∀ t ∈ ts, t.1 < n ∧ t.2 < n) → sg n (fun i => sg n (fun j => pI ts i j)) = (ts.length : Int)
  | [], _, _ => by
    refine Eq.trans ?_ (sg_nil n)
    exact sg_congr fun i _ => (sg_congr (g := fun _ => 0) fun j _ => rfl).trans (sg_nil n)
  | t :: ts, nd, h => by
    have nd' := List.nodup_cons.mp nd
    have e : ∀ i j, pI (t :: ts) i j = (if t.1 = i then (if t.2 = j then 1 else 0) else 0) + pI ts i j := fun i j => by
      unfold pI
      by_cases q : t = (i, j)
      · subst q
        rw [if_pos (List.mem_cons_self ..), if_pos rfl, if_pos rfl, if_neg nd'.1]; rfl
      · have z : (if t.1 = i then (if t.2 = j then (1 : Int) else 0) else 0) = 0 := by
          by_cases q1 : t.1 = i
          · rw [if_pos q1, if_neg (fun q2 => q (by rw [← q1, ← q2]))]
          · rw [if_neg q1]
        rw [z, Int.zero_add]
        by_cases m : (i, j) ∈ ts
        · rw [if_pos m, if_pos (List.mem_cons_of_mem _ m)]
        · rw [if_neg m, if_neg]
          intro m2
          rcases List.mem_cons.mp m2 with m2 | m2
          · exact q m2.symm
          · exact m m2
    have ht := h t (List.mem_cons_self ..)
    have s1 : sg n (fun i => sg n (fun j => pI (t :: ts) i j)) = sg n (fun i => sg n (fun j => if t.1 = i then (if t.2 = j then 1 else 0) else 0)) + sg n (fun i => sg n (fun j => pI ts i j)) := by
      rw [← sg_add]
      refine sg_congr fun i _ => ?_
      rw [← sg_add]
      exact sg_congr fun j _ => e i j
    rw [s1, pI_sum n ts nd'.2 (fun u hu => h u (List.mem_cons_of_mem _ hu))]
    have s2 : sg n (fun i => sg n (fun j => if t.1 = i then (if t.2 = j then (1 : Int) else 0) else 0)) = 1 := by
      have : ∀ i, i < n → sg n (fun j => if t.1 = i then (if t.2 = j then (1 : Int) else 0) else 0) = if t.1 = i then 1 else 0 := fun i _ => by
        by_cases q : t.1 = i
        · rw [if_pos q]
          refine Eq.trans (sg_congr fun j _ => if_pos q) (sg_one n t.2 (fun _ => 1) ht.2)
        · rw [if_neg q]
          exact (sg_congr (g := fun _ => 0) fun j _ => if_neg q).trans (sg_nil n)
      rw [sg_congr this]
      exact sg_one n t.1 (fun _ => 1) ht.1
    rw [s2, List.length_cons]
    omega
theorem okW_nodup {n b : Nat} {ts : List (Nat × Nat)} (ok : OkW n b ts) : ts.Nodup := by
  refine ok.asc.imp fun {a c} h e => ?_
  subst e
  unfold ltT at h
  omega
theorem cw_ties {n b : Nat} {ts : List (Nat × Nat)} (ok : OkW n b ts) : cwN n ts 2 = 2 * (ts.length : Int) := by
  rw [cw_two ok, ← pI_sum n ts (okW_nodup ok) (fun t m => by have := ok.rng t m; omega)]
  have e : ∀ i j, tI ts i j * tI ts j i = pI ts i j + pI ts j i := fun i j => by
    rw [tI_comm ts j i]
    rcases Nat.lt_trichotomy i j with h | h | h
    · rw [tI_up ok h, pI_le ok (Nat.le_of_lt h)]
      unfold pI
      split <;> rfl
    · subst h
      rw [tI_self ok, pI_le ok (Nat.le_refl _)]; rfl
    · rw [tI_comm, tI_up ok h, pI_le ok (Nat.le_of_lt h)]
      unfold pI
      split <;> rfl
  have s : sg n (fun i => sg n (fun j => tI ts i j * tI ts j i)) = sg n (fun i => sg n (fun j => pI ts i j)) + sg n (fun i => sg n (fun j => pI ts j i)) := by
    rw [← sg_add]
    refine sg_congr fun i _ => ?_
    rw [← sg_add]
    exact sg_congr fun j _ => e i j
  rw [s, sg_swap n n (fun i j => pI ts j i)]
  omega
/-! ### triangles -/
def keepT (ts : List (Nat × Nat)) (t : Nat × Nat × Nat) : Bool := decide ((t.1, t.2.1) ∈ ts) && decide ((t.2.1, t.2.2) ∈ ts) && decide ((t.1, t.2.2) ∈ ts)
def manyN (n : Nat) (ts : List (Nat × Nat)) : Nat := ((threesN n).filter (keepT ts)).length
theorem filter_sum {α : Type} (p : α → Bool) : ∀ l : List α, ((l.filter p).length : Int) = (l.map fun x => if p x = true then (1 : Int) else 0).sum
  | [] => rfl
  | x :: l => by
    rw [List.map_cons, List.sum_cons, ← filter_sum p l]
    by_cases h : p x = true
    · rw [List.filter_cons_of_pos h, if_pos h, List.length_cons]; omega
    · rw [List.filter_cons_of_neg h, if_neg h]; omega
theorem sg_if (n : Nat) (c : Prop) [Decidable c] (f : Nat → Int) : sg n (fun k => if c then f k else 0) = if c then sg n f else 0 := by
  by_cases h : c
  · rw [if_pos h]; exact sg_congr fun _ _ => if_pos h
  · rw [if_neg h]; exact (sg_congr (g := fun _ => 0) fun _ _ => if_neg h).trans (sg_nil n)
theorem cw_tri {n b : Nat} {ts : List (Nat × Nat)} (ok : OkW n b ts) : cwN n ts 3 = 6 * (manyN n ts : Int) := by
  let g : Nat → Nat → Nat → Int := fun i j k => tI ts i j * tI ts j k * tI ts i k
  have s1 : ∀ i j k, g i j k = g j i k := fun i j k => by
    show tI ts i j * tI ts j k * tI ts i k = tI ts j i * tI ts i k * tI ts j k
    rw [tI_comm ts j i, Int.mul_assoc, Int.mul_assoc, Int.mul_comm (tI ts j k)]
  have s2 : ∀ i j k, g i j k = g i k j := fun i j k => by
    show tI ts i j * tI ts j k * tI ts i k = tI ts i k * tI ts k j * tI ts i j
    rw [tI_comm ts k j, Int.mul_comm (tI ts i j * tI ts j k), Int.mul_comm (tI ts i j), ← Int.mul_assoc]
  have z : ∀ i j, g i i j = 0 := fun i j => by
    show tI ts i i * tI ts i j * tI ts i j = 0
    rw [tI_self ok, Int.zero_mul, Int.zero_mul]
  have e1 : cwN n ts 3 = sg n (fun i => sg n (fun j => sg n (fun k => g i j k))) := by
    rw [cw_three ok]
    refine sg_congr fun i _ => sg_congr fun j _ => sg_congr fun k _ => ?_
    show tI ts i k * tI ts k j * tI ts j i = tI ts i j * tI ts j k * tI ts i k
    rw [tI_comm ts j i, tI_comm ts k j, Int.mul_comm (tI ts i k), Int.mul_comm _ (tI ts i j), ← Int.mul_assoc]
  rw [e1, sg_three n g s1 s2 z]
  congr 1
  unfold manyN
  rw [filter_sum]
  show _ = ((thrU n n).map fun x => if keepT ts x = true then (1 : Int) else 0).sum
  unfold thrU
  rw [sg_flatMap]
  refine sg_congr fun i hi => ?_
  have h1 : sg n (fun j => sg n (fun k => if i < j then (if j < k then g i j k else 0) else 0)) = sg n (fun j => if i < j then sg n (fun k => if j < k then g i j k else 0) else 0) := sg_congr fun j _ => sg_if n (i < j) _
  rw [h1, sg_above i _ n hi]
  unfold thr1
  rw [sg_flatMap]
  refine sg_congr fun a ha => ?_
  have hj : i + 1 + a < n := by omega
  rw [sg_above (i + 1 + a) _ n hj]
  unfold thr2
  rw [List.map_map]
  refine sg_congr fun c hc => ?_
  show tI ts i (i + 1 + a) * tI ts (i + 1 + a) (i + 1 + a + 1 + c) * tI ts i (i + 1 + a + 1 + c) = if keepT ts (i, i + 1 + a, i + 1 + a + 1 + c) = true then 1 else 0
  rw [tI_up ok (by omega), tI_up ok (by omega), tI_up ok (by omega)]
  unfold pI keepT
  by_cases q1 : (i, i + 1 + a) ∈ ts <;> by_cases q2 : (i + 1 + a, i + 1 + a + 1 + c) ∈ ts <;> by_cases q3 : (i, i + 1 + a + 1 + c) ∈ ts <;> simp [q1, q2, q3]
end Wb
/-! ## M3 -/
set_option maxHeartbeats 4000000
namespace Wb
open PySem PySem.Spec PyProof.Rows L2
/-! ### a table read at bits -/
def pickN : List Int → Nat
  | [] => 0
  | x :: xs => (if x = 1 then 2 ^ xs.length else 0) + pickN xs
theorem pickN_lt : ∀ xs : List Int, pickN xs < 2 ^ xs.length
  | [] => by decide
  | x :: xs => by
    have := pickN_lt xs
    show (if x = 1 then 2 ^ xs.length else 0) + pickN xs < 2 ^ (xs.length + 1)
    rw [Nat.pow_succ]
    split <;> omega
theorem getD_mem {l : List Int} {k : Nat} (h : k < l.length) : l.getD k 0 ∈ l := by
  rw [List.getD_eq_getElem?_getD, List.getElem?_eq_getElem h]
  exact List.getElem_mem h
theorem spread_pick {p : Int} : ∀ (xs ns : List Int), ns.length = 2 ^ xs.length → (∀ x ∈ xs, x = 0 ∨ x = 1) → (∀ y ∈ ns, 0 ≤ y ∧ y < p) → spreadL p ns xs = ns.getD (pickN xs) 0
  | [], _, _, _, _ => rfl
  | x :: xs, ns, hl, hx, hn => by
    have hp : 2 ^ (xs.length + 1) = 2 ^ xs.length * 2 := Nat.pow_succ ..
    have hl' : ns.length = 2 ^ xs.length * 2 := by rw [hl]; exact hp
    have hm : ns.length / 2 = 2 ^ xs.length := by omega
    show spreadL p (halfL p ns x (ns.length / 2)) xs = _
    rw [hm]
    have ge : ∀ k, k < 2 ^ xs.length → (halfL p ns x (2 ^ xs.length)).getD k 0 = ns.getD ((if x = 1 then 2 ^ xs.length else 0) + k) 0 := fun k hk => by
      unfold halfL
      rw [getD_range _ _ hk]
      rcases hx x (List.mem_cons_self ..) with e | e
      · subst e
        rw [if_neg (by decide), Int.zero_mul, Int.add_zero, Nat.zero_add]
        have := hn _ (getD_mem (l := ns) (k := k) (by omega))
        exact Int.emod_eq_of_lt this.1 this.2
      · subst e
        rw [if_pos rfl]
        have h2 := hn _ (getD_mem (l := ns) (k := 2 ^ xs.length + k) (by omega))
        have e3 : ns.getD k 0 + 1 * (ns.getD (2 ^ xs.length + k) 0 - ns.getD k 0) = ns.getD (2 ^ xs.length + k) 0 := by omega
        rw [e3]
        exact Int.emod_eq_of_lt h2.1 h2.2
    rw [spread_pick xs _ (halfL_len ..) (fun y m => hx y (List.mem_cons_of_mem _ m)) ?_, ge _ (pickN_lt xs)]
    · rfl
    · intro y m
      unfold halfL at m
      obtain ⟨i, _, rfl⟩ := List.mem_map.mp m
      have h0 := hn _ (getD_mem (l := ns) (k := 0) (by have := Nat.two_pow_pos xs.length; omega))
      exact ⟨Int.emod_nonneg _ (by omega), Int.emod_lt_of_pos _ (by omega)⟩
theorem bits_01 (m ix : Nat) (i : Nat) : (bitsI m ix).getD i 0 = 0 ∨ (bitsI m ix).getD i 0 = 1 := by
  by_cases h : i < m
  · unfold bitsI
    rw [getD_range _ _ h]
    have : ix / 2 ^ (m - 1 - i) % 2 < 2 := Nat.mod_lt _ (by decide)
    omega
  · left
    rw [List.getD_eq_getElem?_getD, List.getElem?_eq_none (by unfold bitsI; rw [List.length_map, List.length_range]; omega)]
    rfl
/-! ### the tables of a walk -/
theorem knot_len (b k : Nat) : (knotN b k).length = b := by unfold knotN; simp
/-- which knots a row of bits tells -/
theorem pick_two : ∀ b ∈ ([0, 1, 2, 3] : List Nat), ∀ ix ∈ List.range (2 ^ (2 * b)), ∀ a ∈ ([0, 1] : List Nat), pickN ((knotN b a ++ knotN b ((a + 1) % 2)).map fun i => (bitsI (2 * b) ix).getD i 0) = (if a = 0 then (ix / 2 ^ b % 2 ^ b) * 2 ^ b + ix % 2 ^ b else (ix % 2 ^ b) * 2 ^ b + (ix / 2 ^ b % 2 ^ b)) := by decide +kernel
theorem pick_three : ∀ b ∈ ([0, 1, 2] : List Nat), ∀ ix ∈ List.range (2 ^ (3 * b)), ∀ a ∈ ([0, 1, 2] : List Nat), pickN ((knotN b a ++ knotN b ((a + 1) % 3)).map fun i => (bitsI (3 * b) ix).getD i 0) = (if a = 0 then (ix / 2 ^ b / 2 ^ b % 2 ^ b) * 2 ^ b + ix / 2 ^ b % 2 ^ b else if a = 1 then (ix / 2 ^ b % 2 ^ b) * 2 ^ b + ix % 2 ^ b else (ix % 2 ^ b) * 2 ^ b + (ix / 2 ^ b / 2 ^ b % 2 ^ b)) := by decide +kernel
theorem mem4 {b : Nat} (h : b ≤ 3) : b ∈ ([0, 1, 2, 3] : List Nat) := by
  simp only [List.mem_cons, List.not_mem_nil, or_false]; omega
theorem mem3 {b : Nat} (h : b ≤ 2) : b ∈ ([0, 1, 2] : List Nat) := by
  simp only [List.mem_cons, List.not_mem_nil, or_false]; omega
section
variable {n b : Nat} {ts : List (Nat × Nat)} (ok : OkW n b ts)
include ok
theorem tie_size : (tieL n ts).length = 2 ^ (b + b) := by
  rw [tieL_len, ok.pw, ← Nat.pow_add]
theorem val_walkP {p : Int} (hp : 2 < p) (len a : Nat) (xs : List Int) (h01 : ∀ i, xs.getD i 0 = 0 ∨ xs.getD i 0 = 1) : valR p (walkP n b ts len a) xs = (tieL n ts).getD (pickN ((knotN b a ++ knotN b ((a + 1) % len)).map fun i => xs.getD i 0)) 0 := by
  show spreadL p (tieL n ts) ((knotN b a ++ knotN b ((a + 1) % len)).map fun i => xs.getD i 0) = _
  refine spread_pick _ _ ?_ (fun x m => ?_) (fun y m => ?_)
  · rw [tie_size ok, List.length_map, List.length_append, knot_len, knot_len]
  · obtain ⟨i, _, rfl⟩ := List.mem_map.mp m
    exact h01 i
  · rcases tie_bit n ts y m with e | e <;> omega
theorem tI_01 (i j : Nat) : tI ts i j = 0 ∨ tI ts i j = 1 := by
  unfold tI
  split
  · exact .inr rfl
  · exact .inl rfl
theorem npos : 0 < n := by rw [ok.pw]; exact Nat.two_pow_pos b
theorem sum_two {p : Int} (hp : 2 < p) : (valuesL p (2 * b) (walkR n b ts 2)).sum = cwN n ts 2 := by
  have n0 := npos ok
  show sg (2 ^ (2 * b)) (fun ix => valR p (walkR n b ts 2) (bitsI (2 * b) ix)) = _
  have e1 : ∀ ix, ix < 2 ^ (2 * b) → valR p (walkR n b ts 2) (bitsI (2 * b) ix) = tI ts (ix / n % n) (ix % n) * tI ts (ix % n) (ix / n % n) := fun ix hix => by
    show valR p (walkP n b ts 2 0) (bitsI (2 * b) ix) * valR p (walkP n b ts 2 1) (bitsI (2 * b) ix) % p = _
    rw [val_walkP ok hp _ _ _ (bits_01 _ _), val_walkP ok hp _ _ _ (bits_01 _ _), pick_two b (mem4 ok.bl) ix (List.mem_range.mpr hix) 0 (by decide), pick_two b (mem4 ok.bl) ix (List.mem_range.mpr hix) 1 (by decide), if_pos rfl, if_neg (by decide), ← ok.pw,
      tie_get ok (Nat.mod_lt _ n0) (Nat.mod_lt _ n0), tie_get ok (Nat.mod_lt _ n0) (Nat.mod_lt _ n0)]
    rcases tI_01 ok (ix / n % n) (ix % n) with h1 | h1 <;> rcases tI_01 ok (ix % n) (ix / n % n) with h2 | h2 <;> rw [h1, h2] <;> exact Int.emod_eq_of_lt (by decide) (by omega)
  rw [sg_congr e1]
  have e2 : 2 ^ (2 * b) = n * n := by rw [Nat.two_mul, Nat.pow_add, ← ok.pw]
  rw [e2, sg_flat n _ n, cw_two ok]
  refine sg_congr fun i hi => sg_congr fun j hj => ?_
  have d1 : (i * n + j) / n = i := by rw [Nat.mul_comm, Nat.mul_add_div n0, Nat.div_eq_of_lt hj, Nat.add_zero]
  have d2 : (i * n + j) % n = j := by rw [Nat.mul_comm, Nat.mul_add_mod, Nat.mod_eq_of_lt hj]
  rw [d1, d2, Nat.mod_eq_of_lt hi]
theorem sum_three {p : Int} (hp : 2 < p) (hb : b ≤ 2) : (valuesL p (3 * b) (walkR n b ts 3)).sum = cwN n ts 3 := by
  have n0 := npos ok
  show sg (2 ^ (3 * b)) (fun ix => valR p (walkR n b ts 3) (bitsI (3 * b) ix)) = _
  have e1 : ∀ ix, ix < 2 ^ (3 * b) → valR p (walkR n b ts 3) (bitsI (3 * b) ix) = tI ts (ix / n / n % n) (ix / n % n) * tI ts (ix / n % n) (ix % n) * tI ts (ix % n) (ix / n / n % n) := fun ix hix => by
    show (valR p (walkP n b ts 3 0) (bitsI (3 * b) ix) * valR p (walkP n b ts 3 1) (bitsI (3 * b) ix) % p) * valR p (walkP n b ts 3 2) (bitsI (3 * b) ix) % p = _
    rw [val_walkP ok hp _ _ _ (bits_01 _ _), val_walkP ok hp _ _ _ (bits_01 _ _), val_walkP ok hp _ _ _ (bits_01 _ _), pick_three b (mem3 hb) ix (List.mem_range.mpr hix) 0 (by decide), pick_three b (mem3 hb) ix (List.mem_range.mpr hix) 1 (by decide), pick_three b (mem3 hb) ix (List.mem_range.mpr hix) 2 (by decide)]
    rw [if_pos rfl, if_neg (by decide), if_pos rfl, if_neg (by decide), if_neg (by decide), ← ok.pw,
      tie_get ok (Nat.mod_lt _ n0) (Nat.mod_lt _ n0), tie_get ok (Nat.mod_lt _ n0) (Nat.mod_lt _ n0), tie_get ok (Nat.mod_lt _ n0) (Nat.mod_lt _ n0)]
    have m0 : (0 : Int) % p = 0 := Int.emod_eq_of_lt (by decide) (by omega)
    have m1 : (1 : Int) % p = 1 := Int.emod_eq_of_lt (by decide) (by omega)
    rcases tI_01 ok (ix / n / n % n) (ix / n % n) with h1 | h1 <;> rcases tI_01 ok (ix / n % n) (ix % n) with h2 | h2 <;> rcases tI_01 ok (ix % n) (ix / n / n % n) with h3 | h3 <;> rw [h1, h2, h3] <;> simp [m0, m1]
  rw [sg_congr e1]
  have e2 : 2 ^ (3 * b) = n * n * n := by
    have : 3 * b = b + b + b := by omega
    rw [this, Nat.pow_add, Nat.pow_add, ← ok.pw]
  rw [e2, sg_flat n _ (n * n), sg_flat n _ n, cw_three ok]
  refine sg_congr fun i hi => ?_
  refine Eq.trans (b := sg n fun j => sg n fun k => tI ts i j * tI ts j k * tI ts k i) (sg_congr fun j hj => sg_congr fun k hk => ?_) (sg_swap n n fun j k => tI ts i j * tI ts j k * tI ts k i)
  have d1 : ((i * n + j) * n + k) / n = i * n + j := by rw [Nat.mul_comm, Nat.mul_add_div n0, Nat.div_eq_of_lt hk, Nat.add_zero]
  have d2 : ((i * n + j) * n + k) % n = k := by rw [Nat.mul_comm, Nat.mul_add_mod, Nat.mod_eq_of_lt hk]
  have d3 : (i * n + j) / n = i := by rw [Nat.mul_comm, Nat.mul_add_div n0, Nat.div_eq_of_lt hj, Nat.add_zero]
  have d4 : (i * n + j) % n = j := by rw [Nat.mul_comm, Nat.mul_add_mod, Nat.mod_eq_of_lt hj]
  rw [d1, d2, d3, d4, Nat.mod_eq_of_lt hi]
theorem walk_sum {p : Int} {len : Nat} (hp : 2 < p) (h : len = 2 ∨ (len = 3 ∧ b ≤ 2)) : (valuesL p (len * b) (walkR n b ts len)).sum = cwN n ts len := by
  rcases h with rfl | ⟨rfl, hb⟩
  · exact sum_two ok hp
  · exact sum_three ok hp hb
/-! the sum's own demands -/
theorem okR_walkP {p : Int} (hp : 2 < p) {len a : Nat} (hl : len = 2 ∨ len = 3) (ha : a < len) : okR p (len * b) (walkP n b ts len a) := by
  refine ⟨fun y m => ?_, ?_, ?_, fun i m => ?_⟩
  · rcases tie_bit n ts y m with e | e <;> omega
  · rw [tie_size ok, List.length_append, knot_len, knot_len]
  · rw [List.length_append, knot_len, knot_len]
    have := ok.bl
    omega
  · have hk : ∀ k, k < len → i ∈ knotN b k → i < len * b := fun k hk m => by
      unfold knotN at m
      obtain ⟨j, hj, rfl⟩ := List.mem_map.mp m
      have hj' := List.mem_range.mp hj
      have : (k + 1) * b ≤ len * b := Nat.mul_le_mul_right b hk
      rw [Nat.add_mul] at this
      omega
    rcases List.mem_append.mp m with m | m
    · exact hk a ha m
    · exact hk _ (Nat.mod_lt _ (by omega)) m
theorem okR_walk {p : Int} (hp : 2 < p) {len : Nat} (hl : len = 2 ∨ len = 3) : okR p (len * b) (walkR n b ts len) := by
  rcases hl with rfl | rfl
  · exact ⟨okR_walkP ok hp (.inl rfl) (by decide), okR_walkP ok hp (.inl rfl) (by decide)⟩
  · exact ⟨⟨okR_walkP ok hp (.inr rfl) (by decide), okR_walkP ok hp (.inr rfl) (by decide)⟩, okR_walkP ok hp (.inr rfl) (by decide)⟩
end
def degP (many : Nat) (ix : List Nat) : List Int := (List.range many).map fun j => ((ix.countP fun i => i == j : Nat) : Int)
theorem deg_two : ∀ b ∈ ([0, 1, 2, 3] : List Nat), List.zipWith (· + ·) (degP (2 * b) (knotN b 0 ++ knotN b 1)) (degP (2 * b) (knotN b 1 ++ knotN b 0)) = List.replicate (2 * b) (2 : Int) := by decide +kernel
theorem deg_three : ∀ b ∈ ([0, 1, 2, 3] : List Nat), List.zipWith (· + ·) (List.zipWith (· + ·) (degP (3 * b) (knotN b 0 ++ knotN b 1)) (degP (3 * b) (knotN b 1 ++ knotN b 2))) (degP (3 * b) (knotN b 2 ++ knotN b 0)) = List.replicate (3 * b) (2 : Int) := by decide +kernel
theorem deg_walk {n b len : Nat} {ts : List (Nat × Nat)} (hb : b ≤ 3) (hl : len = 2 ∨ len = 3) : degR (len * b) (walkR n b ts len) = List.replicate (len * b) 2 := by
  rcases hl with rfl | rfl
  · exact deg_two b (mem4 hb)
  · exact deg_three b (mem4 hb)
theorem okS_walk {n b len : Nat} {ts : List (Nat × Nat)} (ok : OkW n b ts) (hl : len = 2 ∨ len = 3) {p c : Int} (hp : goodP p) (c0 : 0 ≤ c) (c1 : c < p) : OkS p (len * b) (walkR n b ts len) c := by
  obtain ⟨p5, _⟩ := goodP_rng hp
  have hb := ok.bl
  refine ⟨hp, ?_, okR_walk ok (by omega) hl, ?_, ?_, c0, c1, fun x m => ?_⟩
  · rcases hl with rfl | rfl <;> omega
  · rcases hl with rfl | rfl
    · show 1 + 1 + 1 ≤ 50; decide
    · show 1 + (1 + 1 + 1) + 1 ≤ 50; decide
  · rcases hl with rfl | rfl
    · show max 1 1 + 1 ≤ 5; decide
    · show max (max 1 1 + 1) 1 + 1 ≤ 5; decide
  · rw [deg_walk hb hl] at m
    rw [List.eq_of_mem_replicate m]; decide
end Wb
/-! ## T1 -/
set_option maxHeartbeats 4000000
namespace Wb
open PySem PySem.Spec PyProof.Rows L2
/-! ### a tuple times 1 is the tuple itself -/
theorem tuple_times1 (l : Addr) (items : Array Value) (n : Nat) (dd : Option Addr) (sl : Array (Option Value)) (u : Tok) :
    Meets (Builtin.«tuple.__mul__» ⟨[.ref l, .int 1 u], []⟩) (fun _ R s => s.heap.get? l = some { cls := .type "tuple", dict := dd, data := .seq items n, slots := sl } ∧ R (.ok (.ret (Value.ref l))) s) :=
  .of_wp fun _ _ _ _ z q => by
    obtain ⟨z1, z2, z3, z4, z5⟩ := z; obtain ⟨hl, q⟩ := q; have fi := AutoSeq1.idx_int; have o1 : (items.isEmpty || (1 : Int) == 1) = true := by simp
    wp_walk using wpAny_loadPart' hl; repeat (refine wpAny_ite_true (decide_eq_true o1) ?_; wp_walk using wpAny_loadPart' hl)
    exact ⟨_, rfl, q⟩
def rOnce (K : PySem.W.Frag) : R2 := fun x y H Q => ∃ l xs, x = .ref l ∧ y = .int 1 ∧ SqT K H l xs ∧ Q (.ref l) H
theorem op_once {X : Cx} : OpR X (binaryOp .Mult) (rOnce X.K) := by
  intro pins s σ H x y v u Q I rx ry h
  obtain ⟨l, xs, rfl, rfl, hT, q⟩ := h; cases rx; obtain ⟨t, rfl⟩ := ry
  obtain ⟨its, r, ⟨⟨c1, d1, a1, s1⟩, ho, hc, n, hd⟩, hs⟩ := I.tuple hT; simp only at hc hd; subst hc hd
  refine wpAny_binaryOp_repeat_ref (T := "tuple") (U := "int") (by decide) ⟨_, ho, rfl⟩ (fun s' => typeIs_int s' 1 t) noFill_tuple_mul F.fills_int_mul F.slot_int_rmul repeat_tuple F.slot_int_index.lookup ?_
  refine call_meets F.slot_int_rmul (typeIs_int s 1 t) F.entry_int_rmul (F.args_int_rmul_2 _ _) (int_rmul_tuple 1 t l its.toArray n d1 s1) ⟨ho, rfl, ⟨_, ho, rfl⟩, ?_⟩
  exact call_meets F.slot_tuple_mul ⟨_, ho, rfl⟩ F.entry_tuple_mul (F.args_tuple_mul_2 _ _) (tuple_times1 l its.toArray n d1 s1 t) ⟨ho, .ref l, H, I, rfl, q⟩
theorem od_once {X : Cx} {ds : List PyData} : OpD X (binaryOp .Mult) (.tuple ds) (.int 1) (.tuple ds) := ⟨_, op_once, fun x y H h1 h2 Q q => by
  cases h2
  cases h1 with
  | @tup a xs _ a1 b1 => exact ⟨a, xs, rfl, rfl, a1, q _ H (Same.refl H) (.tup a1 b1)⟩⟩
/-- a tuple times 1 to 1000 -/
theorem od_times {X : Cx} {ds : List PyData} {k : Nat} (h0 : 1 ≤ k ∧ k ≤ 1000) (hl : ds.length ≤ 90) (hn : ds ≠ []) : OpD X (binaryOp .Mult) (.tuple ds) (.int (k : Int)) (.tuple (List.replicate k ds).flatten) := by
  by_cases e : k = 1
  · subst e
    exact od_once.to (by simp)
  · exact (od_repT (k := (k : Int)) (by omega) hl hn).to (by rw [Int.toNat_natCast])
end Wb
/-! ## L1 -/
set_option maxHeartbeats 4000000
namespace Wb
open PySem PySem.Spec PyProof.Rows L2
/-! ### less known -/
def leL : List (Option PyData) → List (Option PyData) → Prop
  | [], [] => True
  | none :: a, _ :: b => leL a b
  | some d :: a, e :: b => e = some d ∧ leL a b
  | _, _ => False
theorem leL_len : ∀ {a b : List (Option PyData)}, leL a b → a.length = b.length
  | [], [], _ => rfl
  | none :: a, _ :: b, h => congrArg (· + 1) (leL_len (a := a) (b := b) h)
  | some d :: a, e :: b, h => congrArg (· + 1) (leL_len (a := a) (b := b) h.2)
  | [], _ :: _, h => h.elim
  | none :: _, [], h => h.elim
  | some _ :: _, [], h => h.elim
theorem leL_get : ∀ {a b : List (Option PyData)} {i : Nat} {d : PyData}, leL a b → a[i]? = some (some d) → b[i]? = some (some d)
  | [], [], _, _, _, h => by cases h
  | none :: a, _ :: b, 0, _, _, h => by cases h
  | none :: a, _ :: b, i + 1, d, hl, h => by
    rw [List.getElem?_cons_succ] at h ⊢
    exact leL_get (a := a) hl h
  | some e :: a, x :: b, 0, d, hl, h => by
    rw [List.getElem?_cons_zero] at h ⊢
    cases h
    rw [hl.1]
  | some e :: a, x :: b, i + 1, d, hl, h => by
    rw [List.getElem?_cons_succ] at h ⊢
    exact leL_get (a := a) hl.2 h
  | [], _ :: _, _, _, h, _ => h.elim
  | none :: _, [], _, _, h, _ => h.elim
  | some _ :: _, [], _, _, h, _ => h.elim
theorem leL_set : ∀ {a b : List (Option PyData)} (i : Nat) (d : PyData), leL a b → leL (a.set i (some d)) (b.set i (some d))
  | [], [], _, _, _ => trivial
  | none :: a, _ :: b, 0, _, h => ⟨rfl, h⟩
  | some _ :: a, _ :: b, 0, _, h => ⟨rfl, h.2⟩
  | none :: a, _ :: b, i + 1, d, h => leL_set (a := a) (b := b) i d h
  | some _ :: a, _ :: b, i + 1, d, h => ⟨h.1, leL_set (a := a) (b := b) i d h.2⟩
  | [], _ :: _, _, _, h => h.elim
  | none :: _, [], _, _, h => h.elim
  | some _ :: _, [], _, _, h => h.elim
theorem leL_refl : ∀ a : List (Option PyData), leL a a
  | [] => trivial
  | none :: a => leL_refl a
  | some _ :: a => ⟨rfl, leL_refl a⟩
theorem EnvS.weak {K : PySem.W.Frag} {HB H : Hp} {σ : L2.St} {st st0 : DSt} (E : EnvS K HB H σ st) (h : leL st0.im st.im) (ho : st0.ow = none ∨ st0.ow = st.ow) : EnvS K HB H σ st0 where
  ex := E.ex
  im := fun i d e => E.im i d (leL_get h e)
  ow := fun i xs e => by
    rcases ho with q | q
    · rw [q] at e; cases e
    · exact E.ow i xs (q.symm.trans e)
  len := (leL_len h).trans E.len
section
variable {M : Bool} {X : Cx} {ρ : Rw} {st st0 : DSt} {k : Rc} {R : RR} {R0 : RD} {ss : List Stmt} {a b c e : Expr} {pos px pt p apos cpos : Pos} {d : PyData} {ds xs : List PyData} {x : Str}
theorem rss_weak (st0 : DSt) (h : leL st0.im st.im) (ho : st0.ow = none ∨ st0.ow = st.ow) (q : RSs X ρ ss st0 k R) : RSs X ρ ss st k R := fun HB σ H E rc D P => q HB σ H (E.weak h ho) rc D P
theorem dss_weak (st0 : DSt) (h : leL st0.im st.im) (ho : st0.ow = none ∨ st0.ow = st.ow) (q : DSs M X ss st0 R0) : DSs M X ss st R0 := fun HB σ H E D P => q HB σ H (E.weak h ho) D P
theorem de_weak (st0 : DSt) (h : leL st0.im st.im) (ho : st0.ow = none ∨ st0.ow = st.ow) (q : DE X e st0 d) : DE X e st d := fun HB σ H E Q P => q HB σ H (E.weak h ho) Q P
/-- x.append(e), what is not frozen forgotten -/
theorem ds_appW (st0 : DSt) (i : Nat) (hle : leL st0.im st.im) (ho : st.ow = some (i, xs)) (ho0 : st0.ow = some (i, xs)) (hf : st0.fz = true) (h : DE X e st d) (fd : frozen d = true) (hz : xs.length < 50000) (hr : R0.nx ⟨st0.im, some (i, xs ++ [d])⟩) (hN : X.N[i]? = some x := by rfl) (hv : Vis X.env.scope x := by first | exact Or.inl rfl | exact Or.inr (Or.inl rfl) | exact Or.inr (Or.inr rfl))
    (hd : (x == ("__debug__" : Str)) = false := by decide) (hcd : (x == ("__classdict__" : Str)) = false := by decide) (hbase : attributeBase (.Name x p) "append" X.env (eval (.Name x p) X.env) = eval (.Name x p) X.env := by rfl)
    (hfew : ((backTo cpos (starEach [e] X.env)).all (fun x => !x.1) && (backToKw cpos (keywordEach [] X.env)).all (fun x => x.1.isSome) && decide ([e].length + ([] : List Keyword).length + (if ([] : List Keyword).isEmpty then 0 else 1) < 30)) = true := by rfl)
    (hline : (apos.endLine == cpos.line) = true := by rfl) (hse : starEach [e] X.env = (false, eval e X.env) :: starEach [] X.env := by rfl) (hplain : (backTo cpos (starEach [] X.env)).any (·.1) = false := by rfl)
    (hs : swapsWith (.Call (.Attribute (.Name x p) "append" apos) [e] [] cpos) none pos.line X.env = pure false := by rfl) :
    DS true X (.Expr (.Call (.Attribute (.Name x p) "append" apos) [e] [] cpos) pos) st R0 := fun HB σ H E D P => by
  obtain ⟨l, vs, h1, h2, h3, h4⟩ := E.ow i xs ho
  refine wpS_of (ps_expr (pe_bm PySem.F.plainAttrs_list PySem.F.slot_list_append PySem.F.type_list_append mt_append (pv i hN hv hd hcd) (pa_cons pe_wp pa_nil hse) hbase hfew hline hse hplain) hs) ?_
  refine ⟨.ref l, h1, .inl ⟨rfl, _, .inl (.inl h2)⟩, h HB σ H E _ fun v H2 e2 g => ?_⟩
  have E2 := (E.ext e2).weak hle (.inr (ho0.trans ho.symm))
  have l3 := daAll_len h3
  refine ⟨l, vs, v, rfl, rfl, e2 _ _ h2, by rw [l3]; exact szl (by omega), ?_⟩
  obtain ⟨E3, t⟩ := E2.mut hf ho0 h1 (e2 _ _ h2) h4 (daAll_snoc (daAll_mono e2 _ _ h3) g) (frozenAll_app (own_fz hf ho0) fd)
  exact P.nx σ _ _ (Rel.trans (Rel.same e2) t) E3 hr
/-- (a list) * k -/
theorem dl_rep2 {k : Int} (h : DL X a st ds) (hb : DE X b st (.int k)) (hl : ds.length ≤ 90) (h0 : 0 ≤ k ∧ k ≤ 1000) : DL X (.BinOp a .Mult b pos) st (List.replicate k.toNat ds).flatten := fun HB σ H E Q q =>
  wpE_of (pe_op op_rep pe_wp pe_wp) (h HB σ H E _ fun l vs H1 e1 hn h1 h2 => hb HB σ H1 (E.ext e1) _ fun u H2 e2 h3 => by
    cases h3
    have l1 := daAll_len h2
    have hz : vs.length * k.toNat ≤ sizeLine := by
      rw [l1]
      exact sz (Nat.le_trans (Nat.mul_le_mul hl (show k.toNat ≤ 1000 by omega)) (by decide))
    exact ⟨l, k, vs, rfl, rfl, e2 _ _ h1, by omega, by omega, hz, fun p hp => q p _ _ ((e1.trans e2).trans (same_new hp)) ((e1.trans e2).free hp) upd_same (daAll_mono (same_new hp) _ _ (daAll_rep (daAll_mono e2 _ _ h2) k.toNat))⟩)
end
/-! ### data of the law -/
theorem plainAll_ints (ns : List Int) : plainAll (ns.map .int) = true := by
  induction ns with
  | nil => rfl
  | cons n l ih => simp [plainAll, plainA, ih]
theorem shortAll_ints (ns : List Int) : shortAll (ns.map .int) = true := by
  induction ns with
  | nil => rfl
  | cons n l ih => simp [shortAll, shortA, ih]
theorem plainAll_names (ix : List Nat) : plainAll (ix.map nameD) = true := by
  induction ix with
  | nil => rfl
  | cons n l ih => simp [plainAll, plainA, nameD, ih]
theorem shortAll_names (ix : List Nat) : shortAll (ix.map nameD) = true := by
  induction ix with
  | nil => rfl
  | cons n l ih => simp [shortAll, shortA, nameD, ih]
theorem plain_ruD : ∀ r : Ru, plainA (ruD r) = true
  | .tab ns ix => by simp [ruD, plainA, plainAll, plainAll_ints, plainAll_names]
  | .tim a b => by simp [ruD, plainA, plainAll, plain_ruD a, plain_ruD b]
theorem short_ruD {p : Int} {many : Nat} : ∀ r : Ru, okR p many r → shortA (ruD r) = true
  | .tab ns ix, h => by
    have h1 : ns.length ≤ 4000 := by
      rw [h.2.1]
      exact Nat.le_trans (Nat.pow_le_pow_right (by decide) h.2.2.1) (by decide)
    have h2 : ix.length ≤ 4000 := by have := h.2.2.1; omega
    simp [ruD, shortA, shortAll, shortAll_ints, shortAll_names, h1, h2]
  | .tim a b, h => by simp [ruD, shortA, shortAll, short_ruD a h.1, short_ruD b h.2]
theorem depth_sumD (p c : Int) (many : Nat) (r : Ru) (h : nodes r ≤ 6) : PyData.depth (sumD p many r c) + 1 ≤ 12 := by
  have := depth_ruD r
  show (max (PyData.depth (.int p)) (max (PyData.depth (.int (many : Int))) (max (PyData.depth (ruD r)) (max (PyData.depth (.int c)) 0)))) + 1 + 1 ≤ 12
  have e1 : PyData.depth (.int p) = 0 := rfl
  have e2 : PyData.depth (.int (many : Int)) = 0 := rfl
  have e3 : PyData.depth (.int c) = 0 := rfl
  rw [e1, e2, e3]
  omega
theorem depthAll_ints (ns : List Int) : PyData.depthAll (ns.map .int) = 0 := by
  induction ns with
  | nil => rfl
  | cons n l ih =>
    show max (PyData.depth (.int n)) (PyData.depthAll (l.map .int)) = 0
    rw [ih]; rfl
theorem alike_int (i : Int) : A_alike 12 [.int i, .int i] (.bool true) := ⟨.int i, rfl, rfl, rfl, by show 0 + 1 ≤ 12; decide, rfl⟩
theorem alike_table {ns : List Int} (h : ns.length ≤ 4000) : A_alike 12 [.tuple (ns.map .int), .tuple (ns.map .int)] (.bool true) := by
  refine ⟨_, rfl, ?_, ?_, ?_, rfl⟩
  · simp [plainA, plainAll_ints]
  · simp [shortA, shortAll_ints, h]
  · show PyData.depthAll (ns.map .int) + 1 + 1 ≤ 12
    rw [depthAll_ints]; decide
theorem nodes_walk (n b : Nat) (ts : List (Nat × Nat)) {len : Nat} (hl : len = 2 ∨ len = 3) : nodes (walkR n b ts len) ≤ 6 := by
  rcases hl with rfl | rfl
  · show 1 + 1 + 1 ≤ 6; decide
  · show 1 + (1 + 1 + 1) + 1 ≤ 6; decide
theorem alike_sum {n b len : Nat} {ts : List (Nat × Nat)} (ok : OkW n b ts) (hl : len = 2 ∨ len = 3) (p c : Int) : A_alike 12 [wsD p n b ts len c, wsD p n b ts len c] (.bool true) := by
  refine ⟨_, rfl, ?_, ?_, depth_sumD _ _ _ _ (nodes_walk n b ts hl), rfl⟩
  · show plainA (.tuple [.int p, .int _, ruD _, .int c]) = true
    simp [plainA, plainAll, plain_ruD]
  · have := short_ruD (p := 5) _ (okR_walk ok (p := 5) (by decide) hl)
    show shortA (.tuple [.int p, .int _, ruD _, .int c]) = true
    simp [shortA, shortAll, this]
theorem depth_tie (t : Nat × Nat) : PyData.depth (tieD t) = 1 := rfl
theorem shaped_ties (ts : List (Nat × Nat)) : SeqAt.shaped (.tuple (ts.map tieD)) = true := by
  have h1 : PyData.canLayAll0 (ts.map tieD) = true := by
    induction ts with
    | nil => rfl
    | cons t l ih => simp [PyData.canLayAll0, PyData.canLay0, tieD, ih]
  have h2 : PyData.depthAll (ts.map tieD) ≤ 1 := by
    clear h1
    induction ts with
    | nil => exact Nat.zero_le _
    | cons t l ih =>
      show max (PyData.depth (tieD t)) (PyData.depthAll (l.map tieD)) ≤ 1
      rw [depth_tie]; omega
  unfold SeqAt.shaped
  refine Bool.and_eq_true_iff.mpr ⟨by simpa [PyData.canLay0] using h1, decide_eq_true ?_⟩
  show PyData.depthAll (ts.map tieD) + 1 ≤ 64
  omega
theorem eqv_tie (t u : Nat × Nat) : PyData.eqv (tieD t) (tieD u) = decide (t = u) := by
  obtain ⟨a, b⟩ := t
  obtain ⟨c, d⟩ := u
  simp [PyData.eqv, PyData.eqvAll, tieD]
  by_cases h : a = c <;> by_cases h2 : b = d <;> simp [h, h2] <;> omega
theorem any_tie (ts : List (Nat × Nat)) (u : Nat × Nat) : ((ts.map tieD).any fun z => PyData.eqv z (tieD u)) = decide (u ∈ ts) := by
  induction ts with
  | nil => rfl
  | cons t l ih =>
    rw [List.map_cons, List.any_cons, ih, eqv_tie]
    by_cases h : u = t
    · subst h; simp
    · by_cases h2 : u ∈ l <;> simp [h, h2, Ne.symm h]
theorem shaped_lossD (p n : Nat) : SeqAt.shaped (lossD p n) = true := rfl
theorem eqv_lossD (p n : Nat) : PyData.eqv (lossD p n) (lossD p n) = true := by
  simp [lossD, PyData.eqv, PyData.eqvAll]
theorem list_getD (l : List (Nat × Nat × Nat)) (e : Nat × Nat × Nat) : (List.range l.length).map (fun i => l.getD i e) = l := by
  refine List.ext_getElem (by simp) fun i h1 h2 => ?_
  rw [List.getElem_map, List.getElem_range, List.getD_eq_getElem?_getD, List.getElem?_eq_getElem h2]
  rfl
theorem kept_many (n : Nat) (ts : List (Nat × Nat)) : (kept (fun i => keepT ts ((threesN n).getD i (0, 0, 0))) (fun i => triD ((threesN n).getD i (0, 0, 0))) (threesN n).length).length = manyN n ts := by
  unfold kept manyN
  rw [List.length_map]
  have e := congrArg (fun l => (l.filter (keepT ts)).length) (list_getD (threesN n) (0, 0, 0))
  rw [← e]
  show _ = (((List.range (threesN n).length).map fun i => (threesN n).getD i (0, 0, 0)).filter (keepT ts)).length
  rw [List.filter_map, List.length_map]
  rfl
end Wb
/-! ## L2 -/
set_option maxHeartbeats 4000000
namespace Wb
open PySem PySem.Spec PyProof.Rows L2
structure Gs (P : Program) (w : World) (K : PySem.W.Frag) (mg : Str → Option Value) (base : Heap) : Prop where
  B : Blt mg
  prime : GoodR P w K mg base "_law_prime" 3 A_prime
  web : GoodR P w K mg base "_law_web" 3 A_web
  number : GoodR P w K mg base "_law_number" 2 A_number
  pick : GoodP P w K mg base "_law_pick" 2
  names : Good P w K mg base "_law_names" [] 1 A_names_in
  ties : Good P w K mg base "_law_ties" [] 1 A_ties_of
  table : Good P w K mg base "ties_table" [] 5 A_ties_of
  alike : Good P w K mg base "_law_alike" [] 13 (A_alike 12)
  threes : Good P w K mg base "_law_threes" [] 1 A_threes
  tri : Good P w K mg base "triangles" [] 5 A_triangles
  walks : Good P w K mg base "walks" [] 5 A_count
  wsum : Good P w K mg base "walks_sum" [] 5 A_walks_sum
  tsum : Good P w K mg base "triangles_sum" [] 5 A_triangles_sum
  isso : Good P w K mg base "is_so" [] 10 A_is_so
  loss : Good P w K mg base "loss" [] 10 A_loss
  miss : Good P w K mg base "_law_missing" [] 2 A_missing
def lawN : List Str := ["_law_script", "_law_row", "_law_p", "_law_web_here", "_law_knots", "_law_ties_here", "_law_bits", "_law_table", "_law_threes_here", "_law_many", "_law_length", "_law_claim", "_law_parts", "_law_at", "_law_names_here", "_law_rule", "_law_told", "_law_one", "_law_bit"]
theorem sc_law : FnScope ["_law_script", "_law_row", "_law_p", "_law_web_here", "_law_knots", "_law_ties_here", "_law_bits", "_law_table", "_law_threes_here", "_law_many", "_law_length", "_law_claim", "_law_parts", "_law_at", "_law_names_here", "_law_rule", "_law_told", "_law_one", "_law_bit"] ["_law_script"] (defScope s_law) := ⟨rfl, rfl, rfl, by decide +kernel, rfl, by decide +kernel, by decide +kernel⟩
abbrev LX (P : Program) (w : World) (K : PySem.W.Frag) (mg : Str → Option Value) (base : Heap) (f : Addr) (cdv : Value) (A : Around) (outer : List Env) (s : Shared) (H : Hp) (E : XK) : Cx :=
  BX P w K mg base ["_law_script", "_law_row", "_law_p", "_law_web_here", "_law_knots", "_law_ties_here", "_law_bits", "_law_table", "_law_threes_here", "_law_many", "_law_length", "_law_claim", "_law_parts", "_law_at", "_law_names_here", "_law_rule", "_law_told", "_law_one", "_law_bit"] "law" (defScope s_law) f cdv A outer s H E
def im7 (r : Addr) (p : Int) (n b : Nat) (ts : List (Nat × Nat)) (m : Option PyData) (tl : List (Option PyData)) : List (Option PyData) :=
  [none, some (ptrD r), some (.int p), some (webD n ts), some (.int n), some (.tuple (ts.map tieD)), some (.int b), some (.tuple ((tieL n ts).map .int)), none, m] ++ tl
theorem pow_small {n b : Nat} {ts : List (Nat × Nat)} (ok : OkW n b ts) : n ≤ 8 := by
  have := ok.cases
  omega
theorem od_inTies {X : Cx} (hu : X.A.units + 65 < cLine) (ts : List (Nat × Nat)) (c d : Nat) : OpD X (compareOp .In) (.tuple [.int (c : Int), .int (d : Int)]) (.tuple (ts.map tieD)) (.bool (decide ((c, d) ∈ ts))) :=
  (od_inT (d := tieD (c, d)) hu (shaped_ints [(c : Int), (d : Int)]) (shaped_ties ts)).to (congrArg PyData.bool (any_tie ts (c, d)))
section
variable {P : Program} {w : World} {K : PySem.W.Frag} {mg : Str → Option Value} {base : Heap} {f : Addr} {cdv : Value} {Ar : Around} {outer : List Env} {s : Shared} {H : Hp} {E : XK} {ρ : Rw} {κ : Rc}
theorem partA (g : Gs P w K mg base) (hr : Room 13 (LX P w K mg base f cdv Ar outer s H E).A) (h0 : 0 ≤ κ.a) {R : RR}
    (rest : ∀ (p : Int) (n b : Nat) (ts : List (Nat × Nat)) (κ' : Rc), goodP p → OkW n b ts → 0 ≤ κ'.a → RSs (LX P w K mg base f cdv Ar outer s H E) ρ ((defBody s_law).drop 9) ⟨im7 ρ.r p n b ts (some (.int (manyN n ts))) [none, none, none, none, none, none, none, none, none], none⟩ κ' R) :
    RSs (LX P w K mg base f cdv Ar outer s H E) ρ ((defBody s_law).drop 1) ⟨[none, some (ptrD ρ.r), none, none, none, none, none, none, none, none, none, none, none, none, none, none, none, none, none], none⟩ κ R := by
  have nd := sc_law.nd
  have B := g.B
  refine rss_cons (rs_par (P1 := fun d k' => (∃ p, d = .int p ∧ goodP p) ∧ 0 ≤ k'.a) 2 3 nd (re_call g.prime hr rfl (da_cons (d_name 1 (d := ptrD ρ.r)) da_nil) h0 ⟨rfl, rfl⟩ (fun d k' h h2 => ⟨h, h2⟩)) ?_)
  rintro _ κ1 ⟨⟨p, rfl, hp⟩, h1⟩
  refine ⟨rfl, re_call g.web hr rfl (da_cons (d_name 1 (d := ptrD ρ.r)) da_nil) h1 ⟨rfl, rfl⟩ ?_⟩
  rintro _ κ2 ⟨n, b, ts, rfl, ok⟩ h2
  have h8 := pow_small ok
  have hb := ok.bl
  have hn0 := npos ok
  refine rss_cons (rs_of (M := true) (ds_tup2 4 5 nd (d_name 3 (d := webD n ts)) ?_))
  refine rss_cons (rs_of (M := true) (ds_set 6 nd (d_call g.names hr (da_cons (d_bin (d_tup (ds := [.int 0]) (da_cons d_int da_nil)) (d_name 4 (d := .int n)) (od_times (by omega) (by decide) (by decide))) da_nil) ⟨_, b, rfl, ?_, by omega, rfl⟩) ?_))
  · rw [rep_one, List.length_replicate]
    exact ok.pw
  refine rss_cons (rs_of (M := true) (ds_set 7 nd (d_call g.ties hr (da_cons (d_name 3 (d := webD n ts)) da_nil) ⟨n, b, ts, rfl, ok, rfl⟩) ?_))
  have tl : (tieL n ts).length ≤ 4000 := by
    rw [tieL_len]
    exact Nat.le_trans (Nat.mul_le_mul h8 h8) (by decide)
  refine rss_cons (rs_of (M := true) (ds_if (z := false) (dt_not (z := true) (dt_val (d_call g.alike hr (da_cons (d_call g.table hr (da_cons (d_name 3 (d := webD n ts)) da_nil) ⟨n, b, ts, rfl, ok, rfl⟩) (da_cons (d_name 7 (d := .tuple ((tieL n ts).map .int))) da_nil)) (alike_table tl)))) (fun h => nomatch h) (fun _ => dss_nil ?_)))
  refine rss_cons (rs_of (M := true) (ds_set 8 nd (d_call g.threes hr (da_cons (d_name 4 (d := .int n)) da_nil) ⟨n, rfl, h8, rfl⟩) ?_))
  have hL : (threesN n).length ≤ 600 := by
    have h1 := thrU_len n n
    have h2 : n * (n * n) ≤ 8 * (8 * 8) := Nat.mul_le_mul h8 (Nat.mul_le_mul h8 h8)
    show (thrU n n).length ≤ 600
    omega
  refine rss_cons (rs_of (M := true) (ds_set 9 nd ((d_callB (da_cons (d_new ((lcf1 17 (fun i => keepT ts ((threesN n).getD i (0, 0, 0))) (fun i => triD ((threesN n).getD i (0, 0, 0))) nd (id_list (d_name 8 (d := .list ((threesN n).map triD)))) (by rw [List.length_map]; omega) ?_ ?_).to (by rw [List.length_map]))) da_nil) cd_lenL B.len).to (d' := .int (manyN n ts)) (congrArg (fun x : Nat => PyData.int x) (kept_many n ts))) ?_))
  · intro i d hd s' H' C cl fp
    obtain ⟨t, ht, rfl, _⟩ := map_get hd
    have et : (threesN n).getD i (0, 0, 0) = t := by rw [List.getD_eq_getElem?_getD, ht]; rfl
    obtain ⟨x, y, z⟩ := t
    have ek : keepT ts ((threesN n).getD i (0, 0, 0)) = (decide ((x, y) ∈ ts) && (decide ((y, z) ∈ ts) && decide ((x, z) ∈ ts))) := by rw [et]; exact Bool.and_assoc _ _ _
    show DT _ _ _ (keepT ts ((threesN n).getD i (0, 0, 0)))
    rw [ek]
    exact dt_w (dw_and (z := decide ((x, y) ∈ ts)) (dt_cmp (DE.to (d' := .tuple [.int x, .int y]) (d_slT (ds := [.int x, .int y, .int z]) (i := none) (j := some 2) (d_name 17 (d := triD (x, y, z))) CPart.no CPart.int) rfl) (d_name 5 (d := .tuple (ts.map tieD))) (od_inTies (by exact room65 hr) ts x y))
      (fun _ => dw_and (z := decide ((y, z) ∈ ts)) (dt_cmp (DE.to (d' := .tuple [.int y, .int z]) (d_slT (ds := [.int x, .int y, .int z]) (i := some 1) (j := none) (d_name 17 (d := triD (x, y, z))) CPart.int CPart.no) rfl) (d_name 5 (d := .tuple (ts.map tieD))) (od_inTies (by exact room65 hr) ts y z))
      (fun _ => dw_and1 (dt_cmp (d_tup (ds := [.int x, .int z]) (da_cons (d_ixT (ds := [.int x, .int y, .int z]) (d_name 17 (d := triD (x, y, z))) d_int rfl) (da_cons (d_ixT (ds := [.int x, .int y, .int z]) (d_name 17 (d := triD (x, y, z))) d_int rfl) da_nil))) (d_name 5 (d := .tuple (ts.map tieD))) (od_inTies (by exact room65 hr) ts x z)))))
  · intro i d hd hk
    obtain ⟨t, ht, rfl, _⟩ := map_get hd
    have et : (threesN n).getD i (0, 0, 0) = t := by rw [List.getD_eq_getElem?_getD, ht]; rfl
    rw [et]
    exact ⟨rfl, fun s' H' C cl fp => d_name 17 (d := triD t)⟩
  refine rss_weak ⟨im7 ρ.r p n b ts (some (.int (manyN n ts))) [none, none, none, none, none, none, none, none, none], none⟩ ⟨rfl, rfl, rfl, rfl, rfl, rfl, rfl, rfl, trivial⟩ (.inl rfl) ?_
  have c2 := cw_ties ok
  have c3 := cw_tri ok
  refine rss_cons (rs_of (M := true) (ds_if (z := false) (dt_w (dw_or (z := false) (y := false) (dt_not (z := true) ?_) (fun _ => dw_or (z := false) (y := false) (dt_not (z := true) ?_) (fun _ => dw_or1 (dt_not (z := true) ?_))))) (fun h => nomatch h) (fun _ => dss_nil ?_)))
  · exact dt_val (d_call g.alike hr (da_cons (d_call g.tri hr (da_cons (d_name 3 (d := webD n ts)) da_nil) ⟨n, b, ts, rfl, ok, rfl⟩) (da_cons (d_name 9 (d := .int (manyN n ts))) da_nil)) (by rw [c3, Int.mul_ediv_cancel_left _ (by decide)]; exact alike_int _))
  · exact dt_val (d_call g.alike hr (da_cons (d_call g.walks hr (da_cons (d_name 3 (d := webD n ts)) (da_cons (d_int (i := 3)) da_nil)) ⟨n, b, 3, ts, rfl, ok, .inr rfl, rfl⟩) (da_cons (d_bin d_int (d_name 9 (d := .int (manyN n ts))) (od_mulS (.inl (by decide)))) da_nil)) (by rw [c3]; exact alike_int _))
  · exact dt_val (d_call g.alike hr (da_cons (d_call g.walks hr (da_cons (d_name 3 (d := webD n ts)) (da_cons (d_int (i := 2)) da_nil)) ⟨n, b, 2, ts, rfl, ok, .inl rfl, rfl⟩) (da_cons (d_bin d_int (d_callB (da_cons (d_name 5 (d := .tuple (ts.map tieD))) da_nil) cd_lenT B.len) (od_mulS (.inl (by decide)))) da_nil)) (by rw [c2, List.length_map]; exact alike_int _))
  exact rest p n b ts κ2 hp ok h2
end
end Wb
/-! ## L3 -/
set_option maxHeartbeats 4000000
namespace Wb
open PySem PySem.Spec PyProof.Rows L2
def forB : List Stmt := match (defBody s_law).getD 9 (.Pass ⟨0, 0, 0, 0⟩) with
  | .For _ _ ss _ _ => ss
  | _ => []
def partsL (n b : Nat) (ts : List (Nat × Nat)) (len m : Nat) : List PyData := (List.range m).map fun k => ruD (walkP n b ts len k)
theorem frozen_walkP (n b : Nat) (ts : List (Nat × Nat)) (len k : Nat) : frozen (ruD (walkP n b ts len k)) = true := by
  have h1 := frozen_ints (tieL n ts)
  have h2 := frozen_names (knotN b k ++ knotN b ((k + 1) % len))
  rw [List.map_append] at h2
  simp [walkP, ruD, frozen, frozenAll, h1, h2]
theorem frozen_parts (n b : Nat) (ts : List (Nat × Nat)) (len m : Nat) : frozenAll (partsL n b ts len m) = true := by
  have : ∀ l : List Nat, frozenAll (l.map fun k => ruD (walkP n b ts len k)) = true := fun l => by
    induction l with
    | nil => rfl
    | cons i l ih => simp [frozenAll, frozen_walkP, ih]
  exact this _
theorem frozen_webD (n : Nat) (ts : List (Nat × Nat)) : frozen (webD n ts) = true := by
  have := frozen_ties ts
  simp [webD, frozen, frozenAll, this]
theorem fz_parts (r : Addr) (p c : Int) (n b : Nat) (ts : List (Nat × Nat)) (len m : Nat) (a : Option Int) (j : Nat) (mm : Nat) :
    (⟨im7 r p n b ts (some (.int mm)) [some (.int (len : Int)), some (.int c), none, a.map .int, none, none, none, none, none], some (j, partsL n b ts len m)⟩ : DSt).fz = true := by
  have h1 := frozen_parts n b ts len m
  have h2 := frozen_ties ts
  have h3 := frozen_ints (tieL n ts)
  have h4 := frozen_webD n ts
  cases a <;> simp [DSt.fz, im7, frozen, h1, h2, h3, h4]
section
variable {P : Program} {w : World} {K : PySem.W.Frag} {mg : Str → Option Value} {base : Heap} {f : Addr} {cdv : Value} {Ar : Around} {outer : List Env} {s : Shared} {H : Hp} {E : XK} {ρ : Rw} {κ : Rc}
theorem partC (g : Gs P w K mg base) (hr : Room 13 (LX P w K mg base f cdv Ar outer s H E).A) {R : RD} (r : Addr) (p c : Int) (n b len mm : Nat) (ts : List (Nat × Nat)) (hp : goodP p) (ok : OkW n b ts) (hl : len = 2 ∨ len = 3) (c0 : 0 ≤ c) (c1 : c < p) (a : Option Int)
    (hR : ∀ st' : DSt, leL (im7 r p n b ts (some (.int mm)) [none, none, none, none, none, none, none, none, none]) st'.im → R.nx st') :
    DSs true (LX P w K mg base f cdv Ar outer s H E) (forB.drop 3) ⟨im7 r p n b ts (some (.int mm)) [some (.int (len : Int)), some (.int c), none, a.map .int, none, none, none, none, none], some (12, partsL n b ts len len)⟩ R := by
  have nd := sc_law.nd
  have B := g.B
  have hb := ok.bl
  have h8 := pow_small ok
  obtain ⟨p5, p9⟩ := goodP_rng hp
  obtain ⟨q, rfl, hq⟩ := goodP_nat hp
  have hlb : len * b ≤ 9 := by rcases hl with rfl | rfl <;> omega
  have okS := okS_walk ok hl hp c0 c1
  have last : DSs true (LX P w K mg base f cdv Ar outer s H E) (forB.drop 7) ⟨im7 r q n b ts (some (.int mm)) [some (.int (len : Int)), some (.int c), none, a.map .int, none, some (ruD (walkR n b ts len)), some (wsD q n b ts len c), none, none], some (12, partsL n b ts len len)⟩ R := by
    refine dss_one (ds_if (z := false) (dt_cmp (d_call g.loss hr (da_cons (d_name 16 (d := wsD q n b ts len c)) da_nil) ⟨q, c, len * b, walkR n b ts len, rfl, okS, deg_walk hb hl, hlb, rfl⟩) (d_call g.miss hr (da_cons (d_name 2 (d := .int (q : Int))) (da_cons (d_new (DL.to (ds' := List.replicate (len * b) (.int 2)) (dl_rep2 (ds := List.replicate len (.int 2)) (k := (b : Int)) (DL.to (dl_rep (ds := [.int 2]) (k := (len : Int)) (da_cons d_int da_nil) (d_name 10) (by decide) (by omega)) (by rw [Int.toNat_natCast, rep_one])) (d_name 6) (by rw [List.length_replicate]; omega) (by omega)) (by rw [Int.toNat_natCast, List.flatten_replicate_replicate, Nat.mul_comm]))) da_nil)) ⟨q, len * b, rfl, hq, hlb, rfl⟩) ((od_neD (room64 hr) (shaped_lossD q (len * b)) (shaped_lossD q (len * b))).to (by rw [eqv_lossD]; rfl))) (fun h => nomatch h) (fun _ => dss_nil (hR _ ?_)))
    exact ⟨rfl, rfl, rfl, rfl, rfl, rfl, rfl, rfl, trivial⟩
  refine dss_cons (ds_set (d := ruD (walkR n b ts len)) 15 nd ?_ ?_)
  · rcases hl with rfl | rfl
    · exact d_if (z := true) (dt_cmp (d_name 10 (d := .int 2)) d_int od_eqI) (fun _ => d_tup (ds := [.str "times", ruD (walkP n b ts 2 0), ruD (walkP n b ts 2 1)]) (da_cons d_str (da_cons (d_ixL (ds := partsL n b ts 2 2) (d_name 12) d_int rfl) (da_cons (d_ixL (ds := partsL n b ts 2 2) (d_name 12) d_int rfl) da_nil)))) (fun h => nomatch h)
    · exact d_if (z := false) (dt_cmp (d_name 10 (d := .int 3)) d_int od_eqI) (fun h => nomatch h) (fun _ => d_tup (ds := [.str "times", .tuple [.str "times", ruD (walkP n b ts 3 0), ruD (walkP n b ts 3 1)], ruD (walkP n b ts 3 2)]) (da_cons d_str (da_cons (d_tup (ds := [.str "times", ruD (walkP n b ts 3 0), ruD (walkP n b ts 3 1)]) (da_cons d_str (da_cons (d_ixL (ds := partsL n b ts 3 3) (d_name 12) d_int rfl) (da_cons (d_ixL (ds := partsL n b ts 3 3) (d_name 12) d_int rfl) da_nil)))) (da_cons (d_ixL (ds := partsL n b ts 3 3) (d_name 12) d_int rfl) da_nil))))
  refine dss_cons (ds_set 16 nd (d_call g.wsum hr (da_cons (d_name 2 (d := .int (q : Int))) (da_cons (d_name 3 (d := webD n ts)) (da_cons (d_name 10 (d := .int (len : Int))) (da_cons (d_name 11 (d := .int c)) da_nil)))) ⟨q, c, n, b, len, ts, rfl, hp, c0, c1, ok, hl, rfl⟩) ?_)
  have hmul : ((len : Int) * (b : Int)) = ((len * b : Nat) : Int) := (Int.natCast_mul len b).symm
  refine dss_cons (ds_if (z := false) (dt_not (z := true) (dt_val (d_call g.alike hr (da_cons (d_name 16 (d := wsD q n b ts len c)) (da_cons (DE.to (d' := wsD q n b ts len c) (d_tup (ds := [.int q, .int ((len : Int) * (b : Int)), ruD (walkR n b ts len), .int c]) (da_cons (d_name 2) (da_cons (d_bin (d_name 10 (d := .int (len : Int))) (d_name 6 (d := .int (b : Int))) (od_mulS (cmul_small (by omega) (by omega)))) (da_cons (d_name 15) (da_cons (d_name 11) da_nil))))) (by rw [hmul]; rfl)) da_nil)) (alike_sum ok hl q c)))) (fun h => nomatch h) (fun _ => dss_nil ?_))
  refine dss_cons (ds_if (z := decide ((n : Int) < 8) || decide ((len : Int) = 2)) (dt_w (dw_or (dt_cmp (d_name 4 (d := .int (n : Int))) d_int od_lt) (fun _ => dw_or1 (dt_cmp (d_name 10 (d := .int (len : Int))) d_int od_eqI)))) (fun hz => ?_) (fun _ => dss_nil ?_))
  · have hlen : len = 2 ∨ (len = 3 ∧ b ≤ 2) := by
      rcases hl with rfl | rfl
      · exact .inl rfl
      · right
        refine ⟨rfl, ?_⟩
        have hz' : (n : Int) < 8 := by simpa using hz
        have := ok.cases
        omega
    have es := walk_sum ok (p := (q : Int)) (by omega) hlen
    refine dss_one (ds_if (z := false) (dt_cmp (d_call g.isso hr (da_cons (d_name 16 (d := wsD q n b ts len c)) da_nil) ⟨q, c, len * b, walkR n b ts len, rfl, okS, rfl⟩) (d_cmp (d_name 11 (d := .int c)) (d_bin (d_call g.walks hr (da_cons (d_name 3 (d := webD n ts)) (da_cons (d_name 10 (d := .int (len : Int))) da_nil)) ⟨n, b, len, ts, rfl, ok, hl, rfl⟩) (d_name 2 (d := .int (q : Int))) (od_mod (by omega))) od_eqI) (od_neB.to (congrArg PyData.bool ?_))) (fun h => nomatch h) (fun _ => dss_nil last))
    rw [es]
    have e : decide (cwN n ts len % (q : Int) = c) = decide (c = cwN n ts len % (q : Int)) := decide_eq_decide.mpr ⟨Eq.symm, Eq.symm⟩
    rw [e, beq_self_eq_true]; rfl
  · exact last
end
end Wb
/-! ## L4 -/
set_option maxHeartbeats 4000000
namespace Wb
open PySem PySem.Spec PyProof.Rows L2
section
variable {P : Program} {w : World} {K : PySem.W.Frag} {mg : Str → Option Value} {base : Heap} {f : Addr} {cdv : Value} {Ar : Around} {outer : List Env} {s : Shared} {H : Hp} {E : XK} {ρ : Rw} {κ : Rc}
theorem partB (g : Gs P w K mg base) (hr : Room 13 (LX P w K mg base f cdv Ar outer s H E).A) {R : RD} (r : Addr) (p c : Int) (n b len mm : Nat) (ts : List (Nat × Nat)) (hp : goodP p) (ok : OkW n b ts) (hl : len = 2 ∨ len = 3) (c0 : 0 ≤ c) (c1 : c < p)
    (hR : ∀ st' : DSt, leL (im7 r p n b ts (some (.int mm)) [none, none, none, none, none, none, none, none, none]) st'.im → R.nx st') :
    DSs true (LX P w K mg base f cdv Ar outer s H E) (forB.drop 1) ⟨im7 r p n b ts (some (.int mm)) [some (.int (len : Int)), some (.int c), none, none, none, none, none, none, none], none⟩ R := by
  have nd := sc_law.nd
  have B := g.B
  have hb := ok.bl
  refine dss_cons (ds_own (ds := []) 12 nd (dl_lst da_nil) ?_ (by show 12 < 19; decide))
  refine dss_cons (ds_for (xs := (List.range ((len : Int).toNat)).map fun (i : Nat) => PyData.int (0 + (i : Int))) 13 nd (id_rng1 (n := (len : Int)) (da_cons (d_name 10 (d := .int (len : Int))) da_nil) (by omega) B.range)
    (fun i st' => ∃ a : Option Int, st' = ⟨im7 r p n b ts (some (.int mm)) [some (.int (len : Int)), some (.int c), none, a.map .int, none, none, none, none, none], some (12, partsL n b ts len i)⟩) ⟨none, rfl⟩ ?_ ?_)
  · rintro i d st' hd ⟨a, rfl⟩
    obtain ⟨hi, rfl⟩ := range_get hd
    have hi' : i < len := by omega
    show DSs _ _ _ ⟨im7 r p n b ts (some (.int mm)) [some (.int (len : Int)), some (.int c), none, some (.int (0 + (i : Int))), none, none, none, none, none], some (12, partsL n b ts len i)⟩ _
    refine dss_cons (ds_set (d := .list ((knotN b i ++ knotN b ((i + 1) % len)).map nameD)) 14 nd (DE.to (d_new (dl_cat (d_new (lc1 (out := (knotN b i).map nameD) 18 nd (id_rng1 (n := (b : Int)) (da_cons (d_name 6 (d := .int (b : Int))) da_nil) (by omega) B.range) (by unfold knotN; simp) (by simp; omega) ?_)) (d_new (lc1 (out := (knotN b ((i + 1) % len)).map nameD) 18 nd (id_rng1 (n := (b : Int)) (da_cons (d_name 6 (d := .int (b : Int))) da_nil) (by omega) B.range) (by unfold knotN; simp) (by simp; omega) ?_)) (by rw [List.length_map, List.length_map, knot_len, knot_len]; omega))) (by rw [List.map_append])) ?_)
    · intro j d o hd ho
      obtain ⟨hj, rfl⟩ := range_get hd
      unfold knotN at ho
      rw [List.map_map] at ho
      obtain ⟨_, rfl⟩ := range_get ho
      refine ⟨rfl, fun s' H' C cl fp => ?_⟩
      have e : (0 + (i : Int)) * (b : Int) + (0 + (j : Int)) = ((i * b + j : Nat) : Int) := by rw [Int.natCast_add, Int.natCast_mul, Int.zero_add, Int.zero_add]
      exact DE.to (d_tup (ds := [.str "name", .int ((0 + (i : Int)) * (b : Int) + (0 + (j : Int)))]) (da_cons d_str (da_cons (d_bin (d_bin (d_name 13 (d := .int (0 + (i : Int)))) (d_name 6 (d := .int (b : Int))) (od_mulS (cmul_small (by omega) (by omega)))) (d_name 18) od_add) da_nil))) (by rw [e]; rfl)
    · intro j d o hd ho
      obtain ⟨hj, rfl⟩ := range_get hd
      unfold knotN at ho
      rw [List.map_map] at ho
      obtain ⟨_, rfl⟩ := range_get ho
      refine ⟨rfl, fun s' H' C cl fp => ?_⟩
      have m0 : 0 ≤ (0 + (i : Int) + 1) % (len : Int) := Int.emod_nonneg _ (by omega)
      have m1 : (0 + (i : Int) + 1) % (len : Int) < (len : Int) := Int.emod_lt_of_pos _ (by omega)
      have e0 : (0 + (i : Int) + 1) % (len : Int) = (((i + 1) % len : Nat) : Int) := by rw [Int.natCast_emod, Int.natCast_add, Int.zero_add]; rfl
      have e : (0 + (i : Int) + 1) % (len : Int) * (b : Int) + (0 + (j : Int)) = (((i + 1) % len * b + j : Nat) : Int) := by rw [e0, Int.natCast_add, Int.natCast_mul, Int.zero_add]
      exact DE.to (d_tup (ds := [.str "name", .int ((0 + (i : Int) + 1) % (len : Int) * (b : Int) + (0 + (j : Int)))]) (da_cons d_str (da_cons (d_bin (d_bin (d_bin (d_bin (d_name 13 (d := .int (0 + (i : Int)))) d_int od_add) (d_name 10 (d := .int (len : Int))) (od_mod (by omega))) (d_name 6 (d := .int (b : Int))) (od_mulS (cmul_small m0 (by omega)))) (d_name 18) od_add) da_nil))) (by rw [e]; rfl)
    refine dss_one (ds_appW (d := ruD (walkP n b ts len i)) ⟨im7 r p n b ts (some (.int mm)) [some (.int (len : Int)), some (.int c), none, some (.int (0 + (i : Int))), none, none, none, none, none], some (12, partsL n b ts len i)⟩ 12 ⟨rfl, rfl, rfl, rfl, rfl, rfl, rfl, rfl, rfl, rfl, rfl, trivial⟩ rfl rfl (fz_parts r p c n b ts len i (some (0 + (i : Int))) 12 mm)
      (d_tup (ds := [.str "table", .tuple ((tieL n ts).map .int), .tuple ((knotN b i ++ knotN b ((i + 1) % len)).map nameD)]) (da_cons d_str (da_cons (d_name 7) (da_cons (d_callTy (da_cons (d_name 14 (d := .list ((knotN b i ++ knotN b ((i + 1) % len)).map nameD))) da_nil) cd_tuple B.tuple) da_nil)))) (frozen_walkP n b ts len i) (by unfold partsL; rw [List.length_map, List.length_range]; omega) ?_)
    refine ⟨some (0 + (i : Int)), ?_⟩
    unfold partsL
    rw [List.range_succ, List.map_append]
    rfl
  · rintro st' ⟨a, rfl⟩
    have e : ((List.range ((len : Int).toNat)).map fun (i : Nat) => PyData.int (0 + (i : Int))).length = len := by rw [List.length_map, List.length_range, Int.toNat_natCast]
    rw [e]
    exact partC g hr r p c n b len mm ts hp ok hl c0 c1 a hR
/-- one length -/
theorem partF (g : Gs P w K mg base) (hr : Room 13 (LX P w K mg base f cdv Ar outer s H E).A) (h0 : 0 ≤ κ.a) {R : RR} (p : Int) (n b len mm : Nat) (ts : List (Nat × Nat)) (hp : goodP p) (ok : OkW n b ts) (hl : len = 2 ∨ len = 3)
    (hR : ∀ (st' : DSt) (κ' : Rc), 0 ≤ κ'.a → leL (im7 ρ.r p n b ts (some (.int mm)) [none, none, none, none, none, none, none, none, none]) st'.im → R.nx st' κ') :
    RSs (LX P w K mg base f cdv Ar outer s H E) ρ forB ⟨im7 ρ.r p n b ts (some (.int mm)) [some (.int (len : Int)), none, none, none, none, none, none, none, none], none⟩ κ R := by
  have nd := sc_law.nd
  obtain ⟨p5, p9⟩ := goodP_rng hp
  have fz : (⟨im7 ρ.r p n b ts (some (.int mm)) [some (.int (len : Int)), none, none, none, none, none, none, none, none], none⟩ : DSt).fz = true := by
    have h2 := frozen_ties ts
    have h3 := frozen_ints (tieL n ts)
    have h4 := frozen_webD n ts
    simp [DSt.fz, im7, frozen, h2, h3, h4]
  refine rss_cons (rs_set 11 nd (re_pick (L := fun xs => ∃ j, xs = [cwN n ts len % p, j] ∧ 0 ≤ j ∧ j < p) g.pick hr fz 1 rfl (rl_two (i := cwN n ts len % p) (J := fun j => 0 ≤ j ∧ j < p) (d_bin (d_call g.walks hr (da_cons (d_name 3 (d := webD n ts)) (da_cons (d_name 10 (d := .int (len : Int))) da_nil)) ⟨n, b, len, ts, rfl, ok, hl, rfl⟩) (d_name 2 (d := .int p)) (od_mod (by omega)))
    (re_call g.number hr fz (da_cons (d_name 1 (d := ptrD ρ.r)) (da_cons (d_name 2 (d := .int p)) da_nil)) h0 ⟨p, rfl, hp, rfl⟩ (fun d k' h h2 => ⟨h, h2⟩)) (fun j hj => ⟨j, rfl, hj⟩)) (fun xs h => by obtain ⟨j, rfl, _⟩ := h; exact ⟨Nat.zero_lt_succ _, by show 2 ≤ 100; decide⟩) ?_))
  rintro xs c κ1 ⟨j, rfl, j0, j1⟩ hc h1
  have hcr : 0 ≤ c ∧ c < p := by
    simp only [List.mem_cons, List.not_mem_nil, or_false] at hc
    rcases hc with rfl | rfl
    · exact ⟨Int.emod_nonneg _ (by omega), Int.emod_lt_of_pos _ (by omega)⟩
    · exact ⟨j0, j1⟩
  exact rss_of (M := true) (partB g hr ρ.r p c n b len mm ts hp ok hl hcr.1 hcr.2 (fun st' h => hR st' κ1 h1 h))
end
end Wb
/-! ## L5 -/
set_option maxHeartbeats 4000000
namespace Wb
open PySem PySem.Spec PyProof.Rows L2
section
variable {P : Program} {w : World} {K : PySem.W.Frag} {mg : Str → Option Value} {base : Heap} {f : Addr} {cdv : Value} {Ar : Around} {outer : List Env} {s : Shared} {H : Hp} {E : XK} {ρ : Rw} {κ : Rc}
/-- the law after its loop -/
theorem partD (g : Gs P w K mg base) (hr : Room 13 (LX P w K mg base f cdv Ar outer s H E).A) (h0 : 0 ≤ κ.a) (p : Int) (n b : Nat) (ts : List (Nat × Nat)) (hp : goodP p) (ok : OkW n b ts) :
    RSs (LX P w K mg base f cdv Ar outer s H E) ρ ((defBody s_law).drop 10) ⟨im7 ρ.r p n b ts (some (.int (manyN n ts))) [none, none, none, none, none, none, none, none, none], none⟩ κ { nx := fun _ _ => False, rt := fun d _ => d = .bool true } := by
  have nd := sc_law.nd
  obtain ⟨p5, p9⟩ := goodP_rng hp
  have fz : (⟨im7 ρ.r p n b ts (some (.int (manyN n ts))) [none, none, none, none, none, none, none, none, none], none⟩ : DSt).fz = true := by
    have h2 := frozen_ties ts
    have h3 := frozen_ints (tieL n ts)
    have h4 := frozen_webD n ts
    simp [DSt.fz, im7, frozen, h2, h3, h4]
  have m6 : ∀ x : Int, 0 ≤ 6 * x % p ∧ 6 * x % p < p := fun x => ⟨Int.emod_nonneg _ (by omega), Int.emod_lt_of_pos _ (by omega)⟩
  refine rss_cons (rs_set 11 nd (re_call g.number hr fz (da_cons (d_name 1 (d := ptrD ρ.r)) (da_cons (d_name 2 (d := .int p)) da_nil)) h0 ⟨p, rfl, hp, rfl⟩ ?_))
  rintro _ κ1 ⟨c, rfl, c0, c1⟩ h1
  refine rss_of (M := false) ?_
  refine dss_cons (ds_if (z := false) (dt_not (z := true) (dt_val (d_call g.alike hr (da_cons (d_call g.tsum hr (da_cons (d_name 2 (d := .int p)) (da_cons (d_name 3 (d := webD n ts)) (da_cons (d_name 11 (d := .int c)) da_nil))) ⟨p, c, n, b, ts, rfl, hp, c0, c1, ok, rfl⟩) (da_cons (d_call g.wsum hr (da_cons (d_name 2 (d := .int p)) (da_cons (d_name 3 (d := webD n ts)) (da_cons (d_int (i := 3)) (da_cons (d_bin (d_bin d_int (d_name 11 (d := .int c)) (od_mulS (.inl (by decide)))) (d_name 2 (d := .int p)) (od_mod (by omega))) da_nil)))) ⟨p, 6 * c % p, n, b, 3, ts, rfl, hp, (m6 c).1, (m6 c).2, ok, .inr rfl, rfl⟩) da_nil)) (alike_sum ok (.inr rfl) p _)))) (fun h => nomatch h) (fun _ => dss_nil ?_))
  have hm0 : 0 ≤ (manyN n ts : Int) % p := Int.emod_nonneg _ (by omega)
  have hm1 : (manyN n ts : Int) % p < p := Int.emod_lt_of_pos _ (by omega)
  refine dss_one (ds_ret (d := .bool (decide ((n : Int) = 8) || true)) (d_or (y := true) (d_cmp (d_name 4 (d := .int (n : Int))) d_int od_eqI) (fun hz => d_one ?_)) (by rw [Bool.or_true]))
  have hb : b ≤ 2 := by
    have h := of_decide_eq_false hz
    have := ok.cases
    omega
  have okS := okS_walk ok (.inr rfl) hp (m6 ((manyN n ts : Int) % p)).1 (m6 ((manyN n ts : Int) % p)).2
  refine d_cmp (d_call g.isso hr (da_cons (d_call g.tsum hr (da_cons (d_name 2 (d := .int p)) (da_cons (d_name 3 (d := webD n ts)) (da_cons (d_bin (d_name 9 (d := .int (manyN n ts))) (d_name 2 (d := .int p)) (od_mod (by omega))) da_nil))) ⟨p, (manyN n ts : Int) % p, n, b, ts, rfl, hp, hm0, hm1, ok, rfl⟩) da_nil) ⟨p, 6 * ((manyN n ts : Int) % p) % p, 3 * b, walkR n b ts 3, rfl, okS, rfl⟩) d_bl (od_isB.to (congrArg PyData.bool ?_))
  rw [walk_sum ok (len := 3) (by omega) (.inr ⟨rfl, hb⟩), cw_tri ok]
  have e : 6 * (manyN n ts : Int) % p = 6 * ((manyN n ts : Int) % p) % p := by rw [Int.mul_emod 6 (manyN n ts : Int), Int.mul_emod 6 ((manyN n ts : Int) % p), Int.emod_emod_of_dvd _ (Int.dvd_refl p)]
  rw [decide_eq_true e]; rfl
/-- the law after its first statement -/
theorem partL (g : Gs P w K mg base) (hr : Room 13 (LX P w K mg base f cdv Ar outer s H E).A) (h0 : 0 ≤ κ.a) :
    RSs (LX P w K mg base f cdv Ar outer s H E) ρ ((defBody s_law).drop 1) ⟨[none, some (ptrD ρ.r), none, none, none, none, none, none, none, none, none, none, none, none, none, none, none, none, none], none⟩ κ { nx := fun _ _ => False, rt := fun d _ => d = .bool true } := by
  refine partA g hr h0 (fun p n b ts κ' hp ok hk => ?_)
  have nd := sc_law.nd
  refine rss_cons (rs_for (xs := [.int 2, .int 3]) 10 nd (id_tup (d_tup (da_cons d_int (da_cons d_int da_nil))) (fun _ => rfl)) (fun i st' k' => 0 ≤ k'.a ∧ leL (im7 ρ.r p n b ts (some (.int (manyN n ts))) [none, none, none, none, none, none, none, none, none]) st'.im) ⟨hk, leL_refl _⟩ ?_ ?_)
  · rintro i d st' k' hd ⟨hk', hle⟩
    have hlen : ∃ len : Nat, d = .int (len : Int) ∧ (len = 2 ∨ len = 3) := by
      match i, hd with
      | 0, hd => cases hd; exact ⟨2, rfl, .inl rfl⟩
      | 1, hd => cases hd; exact ⟨3, rfl, .inr rfl⟩
    obtain ⟨len, rfl, hl⟩ := hlen
    refine rss_weak ⟨im7 ρ.r p n b ts (some (.int (manyN n ts))) [some (.int (len : Int)), none, none, none, none, none, none, none, none], none⟩ (leL_set 10 _ hle) (.inl rfl) ?_
    exact partF g hr hk' p n b len (manyN n ts) ts hp ok hl (fun st' κ' a h => ⟨a, h⟩)
  · rintro st' k' ⟨hk', hle⟩
    refine rss_weak ⟨im7 ρ.r p n b ts (some (.int (manyN n ts))) [none, none, none, none, none, none, none, none, none], none⟩ hle (.inl rfl) ?_
    exact partD g hr hk' p n b ts hp ok
end
/-! ### the law keeps its promise -/
def spLaw (K : PySem.W.Frag) : Sp := fun vs H Q _ => ∃ (a : Addr) (ns : List Int), vs = [.ref a] ∧ SqL K H a (ns.map V.int) ∧ ∀ H', Q (.bl true) H'
theorem env_blank {K : PySem.W.Frag} {H : Hp} (σ : L2.St) : EnvS K H H σ ⟨List.replicate σ.length none, none⟩ where
  ex := Same.refl H
  im := fun i d e => by
    have e' : (List.replicate σ.length (none : Option PyData))[i]? = some (some d) := e
    cases rep_get e'
  ow := fun i xs e => by cases e
  len := by show (List.replicate σ.length (none : Option PyData)).length = _; rw [List.length_replicate]
theorem ok_law {P : Program} {w : World} {K : PySem.W.Frag} {mg : Str → Option Value} {base : Heap} {f : Addr} {fd : FuncData} (g : Gs P w K mg base) (F : FunD K "law" "law" (defArgs s_law) (defBody s_law) (defScope s_law) [] [] f fd) : FnOk P w K mg base CX0 14 f fd ["_law_script"] (spLaw K) := by
  refine F.ok sc_law (fun vs H Q E h => ?_) (fun cdv Ar outer s H vs Q E hr h => ?_)
  · obtain ⟨a, ns, rfl, _⟩ := h
    rfl
  · obtain ⟨a, ns, rfl, hs, hq⟩ := h
    have nd := sc_law.nd
    refine ⟨_, PSs.nox pss_wp, wpSs_of (pss_cons (ps_set (i := 1) nd rfl (Or.inl rfl) (pe_lst (pa_cons (pv 0) (pa_cons pe_int (pa_cons pe_int (pa_cons pe_int pa_nil)))))) pss_wp) ?_⟩
    refine ⟨.ref a, rfl, by show 4 ≤ sizeLine; decide, fun l hl => ?_⟩
    have sn := same_new (o := HO.lst [V.ref a, V.int 0, V.int 5618, V.int 0]) hl
    have E1 := (env_blank (K := K) (H := upd H l (.lst [V.ref a, V.int 0, V.int 5618, V.int 0])) (L2.start ["_law_script", "_law_row", "_law_p", "_law_web_here", "_law_knots", "_law_ties_here", "_law_bits", "_law_table", "_law_threes_here", "_law_many", "_law_length", "_law_claim", "_law_parts", "_law_at", "_law_names_here", "_law_rule", "_law_told", "_law_one", "_law_bit"] [.ref a])).set (Da.ptr l) 1
    refine partL g hr (ρ := ⟨l, a, ns⟩) (κ := ⟨0, 5618, 0⟩) (Int.le_refl 0) _ _ _ E1 ⟨upd_same, sqL_mono sn hs⟩ _ ⟨fun _ _ _ _ _ _ _ _ _ z => z.elim, fun HB' v H' d k' _ _ _ g e => ?_⟩
    subst e
    cases g
    exact hq H'
end Wb
/-! ## Hd -/
set_option maxHeartbeats 0
namespace Wb
open PySem PySem.Spec PyProof.Rows L2
def d_is_integer : He.DefD := ⟨("is_integer", none), "is_integer", "is_integer", defArgs s_is_integer, defBody s_is_integer, defScope s_is_integer, [], []⟩
def d_is_from : He.DefD := ⟨("is_from", none), "is_from", "is_from", defArgs s_is_from, defBody s_is_from, defScope s_is_from, [], []⟩
def d_raised : He.DefD := ⟨("raised", none), "raised", "raised", defArgs s_raised, defBody s_raised, defScope s_raised, [], []⟩
def d_passes : He.DefD := ⟨("passes", none), "passes", "passes", defArgs s_passes, defBody s_passes, defScope s_passes, [], []⟩
def d_is_prime : He.DefD := ⟨("is_prime", none), "is_prime", "is_prime", defArgs s_is_prime, defBody s_is_prime, defScope s_is_prime, [], []⟩
def d_need_prime : He.DefD := ⟨("need_prime", none), "need_prime", "need_prime", defArgs s_need_prime, defBody s_need_prime, defScope s_need_prime, [.int 5], []⟩
def d_is_number : He.DefD := ⟨("is_number", none), "is_number", "is_number", defArgs s_is_number, defBody s_is_number, defScope s_is_number, [], []⟩
def d_need_number : He.DefD := ⟨("need_number", none), "need_number", "need_number", defArgs s_need_number, defBody s_need_number, defScope s_need_number, [], []⟩
def d_are_numbers : He.DefD := ⟨("are_numbers", none), "are_numbers", "are_numbers", defArgs s_are_numbers, defBody s_are_numbers, defScope s_are_numbers, [], []⟩
def d_common : He.DefD := ⟨("common", none), "common", "common", defArgs s_common, defBody s_common, defScope s_common, [], []⟩
def d_share : He.DefD := ⟨("share", none), "share", "share", defArgs s_share, defBody s_share, defScope s_share, [], []⟩
def d_multiplied : He.DefD := ⟨("multiplied", none), "multiplied", "multiplied", defArgs s_multiplied, defBody s_multiplied, defScope s_multiplied, [], []⟩
def d_lacking : He.DefD := ⟨("lacking", none), "lacking", "lacking", defArgs s_lacking, defBody s_lacking, defScope s_lacking, [], []⟩
def d_missing : He.DefD := ⟨("missing", none), "missing", "missing", defArgs s_missing, defBody s_missing, defScope s_missing, [], []⟩
def d_names_in : He.DefD := ⟨("names_in", none), "names_in", "names_in", defArgs s_names_in, defBody s_names_in, defScope s_names_in, [], []⟩
def d_is_plain_table : He.DefD := ⟨("is_plain_table", none), "is_plain_table", "is_plain_table", defArgs s_is_plain_table, defBody s_is_plain_table, defScope s_is_plain_table, [], []⟩
def d_bits_of : He.DefD := ⟨("bits_of", none), "bits_of", "bits_of", defArgs s_bits_of, defBody s_bits_of, defScope s_bits_of, [], []⟩
def d_half : He.DefD := ⟨("half", none), "half", "half", defArgs s_half, defBody s_half, defScope s_half, [], []⟩
def d_spread_at : He.DefD := ⟨("spread_at", none), "spread_at", "spread_at", defArgs s_spread_at, defBody s_spread_at, defScope s_spread_at, [], []⟩
def d_is_place : He.DefD := ⟨("is_place", none), "is_place", "is_place", defArgs s_is_place, defBody s_is_place, defScope s_is_place, [], []⟩
def d_is_leaf : He.DefD := ⟨("is_leaf", none), "is_leaf", "is_leaf", defArgs s_is_leaf, defBody s_is_leaf, defScope s_is_leaf, [], []⟩
def d_is_plain_rule : He.DefD := ⟨("is_plain_rule", none), "is_plain_rule", "is_plain_rule", defArgs s_is_plain_rule, defBody s_is_plain_rule, defScope s_is_plain_rule, [], []⟩
def d_place_at : He.DefD := ⟨("place_at", none), "place_at", "place_at", defArgs s_place_at, defBody s_place_at, defScope s_place_at, [], []⟩
def d_value_at : He.DefD := ⟨("value_at", none), "value_at", "value_at", defArgs s_value_at, defBody s_value_at, defScope s_value_at, [], []⟩
def d_told_degrees : He.DefD := ⟨("told_degrees", none), "told_degrees", "told_degrees", defArgs s_told_degrees, defBody s_told_degrees, defScope s_told_degrees, [], []⟩
def d_values_of : He.DefD := ⟨("values_of", none), "values_of", "values_of", defArgs s_values_of, defBody s_values_of, defScope s_values_of, [], []⟩
def d_joined_by : He.DefD := ⟨("joined_by", none), "joined_by", "joined_by", defArgs s_joined_by, defBody s_joined_by, defScope s_joined_by, [], []⟩
def d_is_web : He.DefD := ⟨("is_web", none), "is_web", "is_web", defArgs s_is_web, defBody s_is_web, defScope s_is_web, [], []⟩
def d_need_web : He.DefD := ⟨("need_web", none), "need_web", "need_web", defArgs s_need_web, defBody s_need_web, defScope s_need_web, [], []⟩
def d_bits_in : He.DefD := ⟨("bits_in", none), "bits_in", "bits_in", defArgs s_bits_in, defBody s_bits_in, defScope s_bits_in, [], []⟩
def d_ties_of : He.DefD := ⟨("ties_of", none), "ties_of", "ties_of", defArgs s_ties_of, defBody s_ties_of, defScope s_ties_of, [], []⟩
def d_ties_table : He.DefD := ⟨("ties_table", none), "ties_table", "ties_table", defArgs s_ties_table, defBody s_ties_table, defScope s_ties_table, [], []⟩
def d_need_length : He.DefD := ⟨("need_length", none), "need_length", "need_length", defArgs s_need_length, defBody s_need_length, defScope s_need_length, [], []⟩
def d_places_of_knot : He.DefD := ⟨("places_of_knot", none), "places_of_knot", "places_of_knot", defArgs s_places_of_knot, defBody s_places_of_knot, defScope s_places_of_knot, [], []⟩
def d_walks_rule : He.DefD := ⟨("walks_rule", none), "walks_rule", "walks_rule", defArgs s_walks_rule, defBody s_walks_rule, defScope s_walks_rule, [], []⟩
def d_sum_of_walks : He.DefD := ⟨("sum_of_walks", none), "sum_of_walks", "sum_of_walks", defArgs s_sum_of_walks, defBody s_sum_of_walks, defScope s_sum_of_walks, [], []⟩
def d_walks_sum : He.DefD := ⟨("walks_sum", none), "walks_sum", "walks_sum", defArgs s_walks_sum, defBody s_walks_sum, defScope s_walks_sum, [], []⟩
def d_triangles_sum : He.DefD := ⟨("triangles_sum", none), "triangles_sum", "triangles_sum", defArgs s_triangles_sum, defBody s_triangles_sum, defScope s_triangles_sum, [], []⟩
def d_count_walks : He.DefD := ⟨("count_walks", none), "count_walks", "count_walks", defArgs s_count_walks, defBody s_count_walks, defScope s_count_walks, [], []⟩
def d_walks : He.DefD := ⟨("walks", none), "walks", "walks", defArgs s_walks, defBody s_walks, defScope s_walks, [], []⟩
def d_triangles : He.DefD := ⟨("triangles", none), "triangles", "triangles", defArgs s_triangles, defBody s_triangles, defScope s_triangles, [], []⟩
def d_is_sum : He.DefD := ⟨("is_sum", none), "is_sum", "is_sum", defArgs s_is_sum, defBody s_is_sum, defScope s_is_sum, [], []⟩
def d_need_sum : He.DefD := ⟨("need_sum", none), "need_sum", "need_sum", defArgs s_need_sum, defBody s_need_sum, defScope s_need_sum, [], []⟩
def d_is_so : He.DefD := ⟨("is_so", none), "is_so", "is_so", defArgs s_is_so, defBody s_is_so, defScope s_is_so, [], []⟩
def d_places_of : He.DefD := ⟨("places_of", none), "places_of", "places_of", defArgs s_places_of, defBody s_places_of, defScope s_places_of, [], []⟩
def d_loss : He.DefD := ⟨("loss", none), "loss", "loss", defArgs s_loss, defBody s_loss, defScope s_loss, [], []⟩
def d_l_threes : He.DefD := ⟨("_law_threes", none), "_law_threes", "_law_threes", defArgs s_l_threes, defBody s_l_threes, defScope s_l_threes, [], []⟩
def d_l_ties : He.DefD := ⟨("_law_ties", none), "_law_ties", "_law_ties", defArgs s_l_ties, defBody s_l_ties, defScope s_l_ties, [], []⟩
def d_l_taken : He.DefD := ⟨("_law_taken", none), "_law_taken", "_law_taken", defArgs s_l_taken, defBody s_l_taken, defScope s_l_taken, [], []⟩
def d_l_pick : He.DefD := ⟨("_law_pick", none), "_law_pick", "_law_pick", defArgs s_l_pick, defBody s_l_pick, defScope s_l_pick, [], []⟩
def d_l_alike : He.DefD := ⟨("_law_alike", none), "_law_alike", "_law_alike", defArgs s_l_alike, defBody s_l_alike, defScope s_l_alike, [], []⟩
def d_l_prime : He.DefD := ⟨("_law_prime", none), "_law_prime", "_law_prime", defArgs s_l_prime, defBody s_l_prime, defScope s_l_prime, [], []⟩
def d_l_number : He.DefD := ⟨("_law_number", none), "_law_number", "_law_number", defArgs s_l_number, defBody s_l_number, defScope s_l_number, [], []⟩
def d_l_lowered : He.DefD := ⟨("_law_lowered", none), "_law_lowered", "_law_lowered", defArgs s_l_lowered, defBody s_l_lowered, defScope s_l_lowered, [], []⟩
def d_l_missing : He.DefD := ⟨("_law_missing", none), "_law_missing", "_law_missing", defArgs s_l_missing, defBody s_l_missing, defScope s_l_missing, [], []⟩
def d_l_names : He.DefD := ⟨("_law_names", none), "_law_names", "_law_names", defArgs s_l_names, defBody s_l_names, defScope s_l_names, [], []⟩
def d_l_web : He.DefD := ⟨("_law_web", none), "_law_web", "_law_web", defArgs s_l_web, defBody s_l_web, defScope s_l_web, [], []⟩
def d_law : He.DefD := ⟨("law", none), "law", "law", defArgs s_law, defBody s_law, defScope s_law, [], []⟩
def fn : List He.DefD := [d_is_integer, d_is_from, d_raised, d_passes, d_is_prime, d_need_prime, d_is_number, d_need_number, d_are_numbers, d_common, d_share, d_multiplied, d_lacking, d_missing, d_names_in, d_is_plain_table, d_bits_of, d_half, d_spread_at, d_is_place, d_is_leaf, d_is_plain_rule, d_place_at, d_value_at, d_told_degrees, d_values_of, d_joined_by, d_is_web, d_need_web, d_bits_in, d_ties_of, d_ties_table, d_need_length, d_places_of_knot, d_walks_rule, d_sum_of_walks, d_walks_sum, d_triangles_sum, d_count_walks, d_walks, d_triangles, d_is_sum, d_need_sum, d_is_so, d_places_of, d_loss, d_l_threes, d_l_ties, d_l_taken, d_l_pick, d_l_alike, d_l_prime, d_l_number, d_l_lowered, d_l_missing, d_l_names, d_l_web, d_law]
def fa : List He.Fa := [.glo "is_integer", .glo "is_from", .glo "raised", .glo "passes", .glo "is_prime", .glo "need_prime", .glo "is_number", .glo "need_number", .glo "are_numbers", .glo "common", .glo "share", .glo "multiplied", .glo "lacking", .glo "missing", .glo "names_in", .glo "is_plain_table", .glo "bits_of", .glo "half", .glo "spread_at", .glo "is_place", .glo "is_leaf", .glo "is_plain_rule", .glo "place_at", .glo "value_at", .glo "told_degrees", .glo "values_of", .glo "joined_by", .glo "is_web", .glo "need_web", .glo "bits_in", .glo "ties_of", .glo "ties_table", .glo "need_length", .glo "places_of_knot", .glo "walks_rule", .glo "sum_of_walks", .glo "walks_sum", .glo "triangles_sum", .glo "count_walks", .glo "walks", .glo "triangles", .glo "is_sum", .glo "need_sum", .glo "is_so", .glo "places_of", .glo "loss", .glo "_law_threes", .glo "_law_ties", .glo "_law_taken", .glo "_law_pick", .glo "_law_alike", .glo "_law_prime", .glo "_law_number", .glo "_law_lowered", .glo "_law_missing", .glo "_law_names", .glo "_law_web", .glo "law", .glo "BASES", .glo "JOINS", .free "isinstance", .free "int", .free "bool", .free "tuple", .free "str", .free "list", .free "dict", .free "len", .free "range", .free "all", .free "any", .free "sum", .free "abs", .free "zip", .free "min", .free "max", .free "sorted", .int "MOST_PRIME" 2147483647, .int "MOST_ENTRIES" 1024, .int "MOST_NAMES" 10, .int "MOST_WORDS" 2000, .int "MOST_DEPTH" 400, .int "MOST_DEGREE" 30]
def loose : List Str := (["PointError", "BadPrime", "BadNumber", "BadSum", "BadWeb", "BadLength", "MOST_PRIME", "BASES", "is_integer", "is_from", "raised", "passes", "is_prime", "need_prime", "is_number", "need_number", "are_numbers", "common", "share", "multiplied", "lacking", "missing", "MOST_ENTRIES", "MOST_NAMES", "names_in", "is_plain_table", "bits_of", "half", "spread_at", "MOST_WORDS"] : List Str) ++ (["MOST_DEPTH", "JOINS", "is_place", "is_leaf", "is_plain_rule", "place_at", "value_at", "told_degrees", "values_of", "joined_by", "is_web", "need_web", "bits_in", "ties_of", "ties_table", "need_length", "places_of_knot", "walks_rule", "sum_of_walks", "walks_sum", "triangles_sum", "count_walks", "walks", "triangles", "MOST_DEGREE", "is_sum", "need_sum", "is_so", "places_of", "loss"] : List Str) ++ (["_law_threes", "_law_ties", "_law_taken", "_law_pick", "_law_alike", "_law_prime", "_law_number", "_law_lowered", "_law_missing", "_law_names", "_law_web"] : List Str)
def lawIx : Nat := 79
/-! the Hook: the facts, and one more Bool (the two tables) -/
def exB (K : PySem.W.Frag) : Bool := He.tupB K "BASES" [.int 2, .int 3, .int 5, .int 7] && He.tupB K "JOINS" [.str "plus", .str "minus", .str "times"]
def obsH (n : Nat) (g : Addr → Option Obj) : He.AlD × Bool := (He.obsDG n fa fn g, exB (He.frG g (He.asD g n)))
def hookH (n : Nat) : PySem.W.Hook where
  α := He.AlD × Bool
  obs := fun s => obsH n s.heap.get?
  val := fun _ => (He.valD fn, true)
  says := fun _ h => ∃ K : PySem.W.Frag, K.In h ∧ He.SaysD fa fn K ∧ exB K = true
  of := fun _ _ e => ⟨_, He.frG_in, congrArg Prod.fst e, congrArg Prod.snd e⟩
  keeps := fun _ _ _ ⟨K, hK, c⟩ k => ⟨K, PySem.W.Frag.In.keeps hK k, c⟩
abbrev R : PySem.W.OpenRow := PySem.W.OpenLaw.row PySem.Challenge.rw_pointsenough_k18_whole_webs
abbrev hk : PySem.W.Hook := hookH 4
def ob (s : PySem.W.SharedT) : He.AlD × Bool := obsH 4 (HandSHeadRun.getT s)
theorem ob_eq (s : PySem.W.SharedT) : ob s = hk.obs s.abs := by
  have e : HandSHeadRun.getT s = s.abs.heap.get? := funext (HandSHeadRun.getT_eq s)
  show obsH 4 (HandSHeadRun.getT s) = obsH 4 s.abs.heap.get?
  rw [e]
theorem run (w : World) : HandSHeadRun.RunEq R (PySem.W.view R.prog [lawIx]) hk ob 6000 loose w := by
  intro os
  kernel_rfl
end Wb
/-! ## Fin -/
set_option maxHeartbeats 4000000
namespace Wb
open PySem PySem.Spec PyProof.Rows L2
section
variable {K : PySem.W.Frag} {h : Heap} {mg : Str → Option Value}
theorem defAt (X : K.In h) (G : h.Ns mainGlobals mg) (c : He.SaysD fa fn K) (i : Nat) {x : Str} {st : Stmt} {dv : List He.Dv} (hi : fn[i]? = some ⟨(x, none), x, x, defArgs st, defBody st, defScope st, dv, []⟩) (hj : fa[i]? = some (.glo x)) : DefAt K mg x st (dv.map (He.Dv.v K)) := by
  obtain ⟨fd, F⟩ := c.def_ i hi
  exact ⟨_, fd, F, He.glo_ok X G (c.fact i hj)⟩
theorem blt_of (X : K.In h) (G : h.Ns mainGlobals mg) (c : He.SaysD fa fn K) : Blt mg where
  isi := He.free_ok X G (c.fact 60 (f := .free "isinstance") rfl)
  int := He.free_ok X G (c.fact 61 (f := .free "int") rfl)
  bool := He.free_ok X G (c.fact 62 (f := .free "bool") rfl)
  tuple := He.free_ok X G (c.fact 63 (f := .free "tuple") rfl)
  str := He.free_ok X G (c.fact 64 (f := .free "str") rfl)
  list := He.free_ok X G (c.fact 65 (f := .free "list") rfl)
  dict := He.free_ok X G (c.fact 66 (f := .free "dict") rfl)
  len := He.free_ok X G (c.fact 67 (f := .free "len") rfl)
  range := He.free_ok X G (c.fact 68 (f := .free "range") rfl)
  all := He.free_ok X G (c.fact 69 (f := .free "all") rfl)
  any := He.free_ok X G (c.fact 70 (f := .free "any") rfl)
  sum := He.free_ok X G (c.fact 71 (f := .free "sum") rfl)
  abs := He.free_ok X G (c.fact 72 (f := .free "abs") rfl)
  zip := He.free_ok X G (c.fact 73 (f := .free "zip") rfl)
  min := He.free_ok X G (c.fact 74 (f := .free "min") rfl)
theorem cst_of (X : K.In h) (G : h.Ns mainGlobals mg) (c : He.SaysD fa fn K) (e : exB K = true) : Cst K mg := by
  have e2 := Bool.and_eq_true_iff.mp e
  refine ⟨He.int_ok X G (c.fact 77 (f := .int "MOST_PRIME" 2147483647) rfl), He.int_ok X G (c.fact 78 (f := .int "MOST_ENTRIES" 1024) rfl), He.int_ok X G (c.fact 79 (f := .int "MOST_NAMES" 10) rfl), He.int_ok X G (c.fact 80 (f := .int "MOST_WORDS" 2000) rfl), He.int_ok X G (c.fact 81 (f := .int "MOST_DEPTH" 400) rfl), He.int_ok X G (c.fact 82 (f := .int "MOST_DEGREE" 30) rfl), ⟨_, He.glo_ok X G (c.fact 58 (f := .glo "BASES") rfl), fun H => .tup (He.tupB_ok e2.1 H) (.cons (.int 2) (.cons (.int 3) (.cons (.int 5) (.cons (.int 7) .nil))))⟩, ⟨_, He.glo_ok X G (c.fact 59 (f := .glo "JOINS") rfl), fun H => .tup (He.tupB_ok e2.2 H) (.cons (.str _) (.cons (.str _) (.cons (.str _) .nil)))⟩⟩
theorem gs_of {P : Program} {w : World} {base : Heap} (X : K.In h) (G : h.Ns mainGlobals mg) (c : He.SaysD fa fn K) (e : exB K = true) : Gs P w K mg base := by
  have B := blt_of X G c
  have C := cst_of X G c e
  have v_is_integer := g_is_integer (P := P) (w := w) (base := base) (defAt X G c 0 rfl rfl) B
  have v_is_from := g_is_from (P := P) (w := w) (base := base) (defAt X G c 1 rfl rfl) v_is_integer
  have v_is_number := g_is_number (P := P) (w := w) (base := base) (defAt X G c 6 rfl rfl) v_is_from
  have v_need_number := g_need_number (P := P) (w := w) (base := base) (defAt X G c 7 rfl rfl) v_is_number
  have v_are_numbers := g_are_numbers (P := P) (w := w) (base := base) (defAt X G c 8 rfl rfl) B v_is_number
  have v_raised := g_raised (P := P) (w := w) (base := base) (defAt X G c 2 rfl rfl)
  have v_passes := g_passes (P := P) (w := w) (base := base) (defAt X G c 3 rfl rfl) B v_raised
  have v_is_prime := g_is_prime (P := P) (w := w) (base := base) (defAt X G c 4 rfl rfl) B C v_is_from v_passes
  have v_need_prime := g_need_prime (P := P) (w := w) (base := base) (defAt X G c 5 rfl rfl) v_is_prime
  have v_common := g_common (P := P) (w := w) (base := base) (defAt X G c 9 rfl rfl)
  have v_share := g_share (P := P) (w := w) (base := base) (defAt X G c 10 rfl rfl) B v_common
  have v_multiplied := g_multiplied (P := P) (w := w) (base := base) (defAt X G c 11 rfl rfl) v_share
  have v_lacking := g_lacking (P := P) (w := w) (base := base) (defAt X G c 12 rfl rfl) v_share
  have v_missing := g_missing (P := P) (w := w) (base := base) (defAt X G c 13 rfl rfl) v_multiplied v_lacking
  have v__law_lowered := g_l_lowered (P := P) (w := w) (base := base) (defAt X G c 53 rfl rfl) B
  have v__law_missing := g_l_missing (P := P) (w := w) (base := base) (defAt X G c 54 rfl rfl) v__law_lowered
  have v_names_in := g_names_in (P := P) (w := w) (base := base) (defAt X G c 14 rfl rfl) B
  have v_is_plain_table := g_is_plain_table (P := P) (w := w) (base := base) (defAt X G c 15 rfl rfl) B C v_are_numbers
  have v_bits_of := g_bits_of (P := P) (w := w) (base := base) (defAt X G c 16 rfl rfl) B
  have v_half := g_half (P := P) (w := w) (base := base) (defAt X G c 17 rfl rfl) B
  have v_spread_at := g_spread_at (P := P) (w := w) (base := base) (defAt X G c 18 rfl rfl) v_half
  have v_is_place := g_is_place (P := P) (w := w) (base := base) (defAt X G c 19 rfl rfl) B v_is_from
  have v_is_leaf := g_is_leaf (P := P) (w := w) (base := base) (defAt X G c 20 rfl rfl) B v_is_place v_is_plain_table v_names_in
  have v_is_plain_rule := g_is_plain_rule (P := P) (w := w) (base := base) (defAt X G c 21 rfl rfl) B C v_is_leaf
  have v_place_at := g_place_at (P := P) (w := w) (base := base) (defAt X G c 22 rfl rfl)
  have v_value_at := g_value_at (P := P) (w := w) (base := base) (defAt X G c 23 rfl rfl) v_place_at v_spread_at 5
  have v_values_of := g_values_of (P := P) (w := w) (base := base) (defAt X G c 25 rfl rfl) B v_value_at v_bits_of
  have v_joined_by := g_joined_by (P := P) (w := w) (base := base) (defAt X G c 26 rfl rfl)
  have v_told_degrees := g_told (P := P) (w := w) (base := base) (defAt X G c 24 rfl rfl) B C 5
  have v_is_web := g_is_web (P := P) (w := w) (base := base) (defAt X G c 27 rfl rfl) B v_is_integer v_is_from
  have v_need_web := g_need_web (P := P) (w := w) (base := base) (defAt X G c 28 rfl rfl) v_is_web
  have v_bits_in := g_bits_in (P := P) (w := w) (base := base) (defAt X G c 29 rfl rfl)
  have v_ties_of := g_ties_of (P := P) (w := w) (base := base) (defAt X G c 30 rfl rfl) B
  have v_ties_table := g_ties_table (P := P) (w := w) (base := base) (defAt X G c 31 rfl rfl) v_need_web v_ties_of
  have v_need_length := g_need_length (P := P) (w := w) (base := base) (defAt X G c 32 rfl rfl) v_is_from
  have v_places_of_knot := g_places (P := P) (w := w) (base := base) (defAt X G c 33 rfl rfl) B v_bits_in
  have v_walks_rule := g_walks_rule (P := P) (w := w) (base := base) (defAt X G c 34 rfl rfl) B v_ties_of v_places_of_knot v_joined_by
  have v_sum_of_walks := g_sum_of_walks (P := P) (w := w) (base := base) (defAt X G c 35 rfl rfl) v_bits_in v_walks_rule
  have v_walks_sum := g_walks_sum (P := P) (w := w) (base := base) (defAt X G c 36 rfl rfl) v_need_prime v_need_web v_need_length v_need_number v_sum_of_walks
  have v_triangles_sum := g_triangles_sum (P := P) (w := w) (base := base) (defAt X G c 37 rfl rfl) v_need_prime v_need_web v_need_number v_sum_of_walks
  have v_count_walks := g_count (P := P) (w := w) (base := base) (defAt X G c 38 rfl rfl) B v_ties_of
  have v_walks := g_walks (P := P) (w := w) (base := base) (defAt X G c 39 rfl rfl) v_need_web v_need_length v_count_walks
  have v_triangles := g_triangles (P := P) (w := w) (base := base) (defAt X G c 40 rfl rfl) v_need_web v_count_walks
  have v_is_sum := g_is_sum (P := P) (w := w) (base := base) (defAt X G c 41 rfl rfl) B C v_is_prime v_is_from v_is_plain_rule v_is_number v_told_degrees
  have v_need_sum := g_need_sum (P := P) (w := w) (base := base) (defAt X G c 42 rfl rfl) v_is_sum
  have v_is_so := g_is_so (P := P) (w := w) (base := base) (defAt X G c 43 rfl rfl) B v_need_sum v_values_of
  have v_places_of := g_places_of (P := P) (w := w) (base := base) (defAt X G c 44 rfl rfl) B v_told_degrees
  have v_loss := g_loss (P := P) (w := w) (base := base) (defAt X G c 45 rfl rfl) v_need_sum v_missing v_places_of
  have v__law_ties := g_l_ties (P := P) (w := w) (base := base) (defAt X G c 47 rfl rfl) B
  have v__law_names := g_l_names (P := P) (w := w) (base := base) (defAt X G c 55 rfl rfl) B
  have v__law_alike := g_alike (P := P) (w := w) (base := base) (defAt X G c 50 rfl rfl) B 12
  have v__law_threes := g_threes (P := P) (w := w) (base := base) (defAt X G c 46 rfl rfl) B
  have v__law_taken := g_taken (P := P) (w := w) (base := base) B (defAt X G c 48 rfl rfl)
  have v__law_pick := g_pick (P := P) (w := w) (base := base) B v__law_taken (defAt X G c 49 rfl rfl)
  have v__law_prime := g_prime (P := P) (w := w) (base := base) v__law_pick (defAt X G c 51 rfl rfl)
  have v__law_number := g_number (P := P) (w := w) (base := base) v__law_taken (defAt X G c 52 rfl rfl)
  have v__law_web := g_web (P := P) (w := w) (base := base) B v__law_pick v__law_taken (defAt X G c 56 rfl rfl)
  exact ⟨B, v__law_prime, v__law_web, v__law_number, v__law_pick, v__law_names, v__law_ties, v_ties_table, v__law_alike, v__law_threes, v_triangles, v_walks, v_walks_sum, v_triangles_sum, v_is_so, v_loss, v__law_missing⟩
theorem law_facts {P : Program} {w : World} {f : Addr} (X : K.In h) (G : h.Ns mainGlobals mg) (hfa : mg ("law" : Str) = some (.ref f)) (c : He.SaysD fa fn K) (e : exB K = true) :
    ∃ fd : FuncData, (∀ (s : Shared) (v : Value), BindsTo s fd ⟨[v], []⟩ [("_law_script", v)]) ∧ ∀ base : Heap, K.In base → base.Ns mainGlobals mg → FnOk P w K mg base CX0 14 f fd ["_law_script"] (spLaw K) := by
  obtain ⟨fd, F⟩ := c.def_ 57 (d := d_law) rfl
  have q := hfa.symm.trans (He.glo_ok X G (c.fact 57 (f := .glo "law") rfl))
  cases q
  have b := FunD.bindsA (ps := ["_law_script"]) F fun _ _ _ _ _ _ us hl => match us, hl with | [_], _ => rfl
  exact ⟨fd, fun s v => b s [v] rfl, fun base _ _ => ok_law (gs_of X G c e) F⟩
end
end Wb
open PySem PySem.W PySem.Calls PyProof.Rows
theorem PySem.Challenge.cw_pointsenough_k18_whole_webs_holds : PySem.Challenge.rw_pointsenough_k18_whole_webs.Holds := by
  w_on; o_law
  refine HandSHeadRun.head_any (r := OpenLaw.row PySem.Challenge.rw_pointsenough_k18_whole_webs) (q := view (OpenLaw.row PySem.Challenge.rw_pointsenough_k18_whole_webs).prog [79]) (H := Wb.hk) (ob := Wb.ob) (M := 6000) (loose := Wb.loose) (d := HandSHeadRun.topDef (OpenLaw.row PySem.Challenge.rw_pointsenough_k18_whole_webs).prog 79) (kwd := []) Wb.ob_eq
    (by kernel_rfl) (fun s => by kernel_rfl) Wb.run (by kernel_rfl) (by kernel_rfl) (by kernel_rfl) (by rfl) (by first | assumption | decide +kernel) (by decide +kernel) ⟨rfl, rfl, rfl, rfl, rfl, by decide +kernel⟩ ?hw ?hc
  case hw => w_witness2
  case hc =>
    refine L2.walk_ofE (l := PySem.Challenge.rw_pointsenough_k18_whole_webs) (n := 63) (k := 14) (x := "_law_script") (CX := L2.CX0) rfl (by decide) (by kernel_rfl) ⟨rfl, by decide, by decide⟩ ?F (fun _ _ _ _ z => z)
    intro w mg fa h Y G hmg0
    obtain ⟨K, KX, c, ex⟩ := Y
    have hmg : mg ("law" : PySem.Str) = some (.ref fa) := by
      have e : (HandSHeadRun.topDef (OpenLaw.row PySem.Challenge.rw_pointsenough_k18_whole_webs).prog 79).name = ("law" : PySem.Str) := by kernel_rfl
      rw [← e]
      exact hmg0
    obtain ⟨fd, hb, hF⟩ := Wb.law_facts (P := (PySem.Challenge.rw_pointsenough_k18_whole_webs).prog) (w := w) KX G hmg c ex
    exact ⟨K, fd, Wb.spLaw K, KX, hb, fun H a ns hl _ hS => ⟨a, ns, rfl, hS, fun _ => rfl⟩, hF⟩
