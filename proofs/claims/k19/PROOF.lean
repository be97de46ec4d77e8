import PyProof.Rows.All
import Wide.All
import OpenK.AllK
import Wide.FinOn
import HandS.ForMost
import HandS.HotCalls
import HandS.ExcIs
import HandS.SetFor
import HandS.TupAny
import KE.SortData
import HandS.IsInst
import HandS.Style
import HandS.Flow
import HandS.Deep
import KE.DataMinMax
import HandS.Walk
import HandS.Zip
import HandS.TupSets
import HandS.Iter
import KE.GoesMore
import KE.GoesEnum
import HandS.Dict
import KE.OsSetLaws
import HandS.More
import PyProof.Rows.StrCase
import HandS.ExcCtx
import PySem.Challenge.RW_panecuts_k19_sizes
set_option Elab.async false
set_option linter.all false
set_option autoImplicit false
set_option maxRecDepth 100000
set_option maxHeartbeats 1000000
/-! An exception in an except suite, told by the law's own def of words. -/
namespace PP
open PySem L2
/-! ### isinstance of the exception that is handled -/
theorem call_isP {X : Cx} {a D : Addr} {oe : Obj} (C : ExcC X.K D) (hp : (a, oe) ∈ X.pn) (hz : Zc (.ref D) none oe) (hf : ∃ vs, oe.data = .fields vs) : CallR X (.builtin "isinstance") (rIsE X.K D a) := by
  intro pins s σ H xs us Q I r h
  obtain ⟨cc, cv, bb, rfl, hcv, he, hq⟩ := h
  cases r with
  | cons rx r2 =>
    cases r2 with
    | cons rt r3 =>
      cases r3
      cases rx
      have e0 := hcv _ rt
      subst e0
      have hget := (I.pin (a, oe) (List.mem_append_left _ hp)).1
      obtain ⟨fs, hv⟩ := hf
      have J : PySem.W.InstAt s.heap a oe D none := by
        cases oe with
        | mk oc od oda osl =>
          obtain ⟨g1, g2⟩ := hz
          simp only at g1 g2 hv
          subst g1; subst g2; subst hv
          exact ⟨hget, rfl, rfl, trivial⟩
      have Kt := PySem.W.handS_kitx_exc (x := a) (ox := oe) C.hg C.hk C.hs C.hd C.ha C.hn C.ht C.hm
      refine PySem.W.kia_one Kt I.kIn J he (fun z => nomatch z) fun tk => ?_
      exact ⟨.bl bb, H, I.kept (t' := tk) fun _ _ z => z, rfl, hq⟩
/-! ### the row of words -/
def xnm : List Str := ["NoCuts", "NoMove", "NoPane", "NoPart", "NoJoin", "NoRoom", "NoNeeds", "NoText", "NoStep"]
def xwd : List Str := ["no cuts", "no move", "no pane", "no part", "no join", "no room", "no needs", "no text", "no step"]
def wordSc : Scope := { kind := .function, names := [("kept", .local), ("kinds", .local), ("words", .local), ("isinstance", .globalImplicit), ("NoCuts", .globalImplicit), ("NoMove", .globalImplicit), ("NoPane", .globalImplicit), ("NoPart", .globalImplicit), ("NoJoin", .globalImplicit), ("NoRoom", .globalImplicit), ("NoNeeds", .globalImplicit), ("NoText", .globalImplicit), ("NoStep", .globalImplicit), ("ValueError", .globalImplicit)], isGenerator := false, isCoroutine := false, more := [] }
def wordB (q : Nat → Pos) : List Stmt := [
  .Assign [.Name "kinds" (q 0)] (.List [.Call (.Name "isinstance" (q 1)) [.Name "kept" (q 2), .Name "NoCuts" (q 3)] [] (q 4), .Call (.Name "isinstance" (q 5)) [.Name "kept" (q 6), .Name "NoMove" (q 7)] [] (q 8)] (q 9)) (q 10),
  .Assign [.Name "kinds" (q 11)] (.BinOp (.Name "kinds" (q 12)) .Add (.List [.Call (.Name "isinstance" (q 13)) [.Name "kept" (q 14), .Name "NoPane" (q 15)] [] (q 16), .Call (.Name "isinstance" (q 17)) [.Name "kept" (q 18), .Name "NoPart" (q 19)] [] (q 20)] (q 21)) (q 22)) (q 23),
  .Assign [.Name "kinds" (q 24)] (.BinOp (.Name "kinds" (q 25)) .Add (.List [.Call (.Name "isinstance" (q 26)) [.Name "kept" (q 27), .Name "NoJoin" (q 28)] [] (q 29), .Call (.Name "isinstance" (q 30)) [.Name "kept" (q 31), .Name "NoRoom" (q 32)] [] (q 33)] (q 34)) (q 35)) (q 36),
  .Assign [.Name "kinds" (q 37)] (.BinOp (.Name "kinds" (q 38)) .Add (.List [.Call (.Name "isinstance" (q 39)) [.Name "kept" (q 40), .Name "NoNeeds" (q 41)] [] (q 42), .Call (.Name "isinstance" (q 43)) [.Name "kept" (q 44), .Name "NoText" (q 45)] [] (q 46)] (q 47)) (q 48)) (q 49),
  .Assign [.Name "words" (q 50)] (.Tuple [.Constant (.str "no cuts") 0 (q 51), .Constant (.str "no move") 0 (q 52), .Constant (.str "no pane") 0 (q 53), .Constant (.str "no part") 0 (q 54), .Constant (.str "no join") 0 (q 55), .Constant (.str "no room") 0 (q 56)] 0 (q 57)) (q 58),
  .Assign [.Name "words" (q 59)] (.BinOp (.Name "words" (q 60)) .Add (.Tuple [.Constant (.str "no needs") 0 (q 61), .Constant (.str "no text") 0 (q 62), .Constant (.str "no step") 0 (q 63)] 0 (q 64)) (q 65)) (q 66),
  .Expr (.Call (.Attribute (.Name "kinds" (q 67)) "append" (q 68)) [.Call (.Name "isinstance" (q 69)) [.Name "kept" (q 70), .Name "NoStep" (q 71)] [] (q 72)] [] (q 73)) (q 74),
  .If (.BoolOp .Or [.Compare (.Call (.Attribute (.Name "kinds" (q 75)) "count" (q 76)) [.Constant (.bool true) 0 (q 77)] [] (q 78)) [.NotEq] [.Constant (.int 1) 0 (q 79)] (q 80), .UnaryOp .Not (.Call (.Name "isinstance" (q 81)) [.Name "kept" (q 82), .Name "ValueError" (q 83)] [] (q 84)) (q 85)] (q 86)) [.Return (some (.Constant (.str "wrong") 0 (q 87))) (q 88)] [] (q 89),
  .Return (some (.Subscript (.Name "words" (q 90)) (.Call (.Attribute (.Name "kinds" (q 91)) "index" (q 92)) [.Constant (.bool true) 0 (q 93)] [] (q 94)) (q 95))) (q 96)]
def wordN : List Str := ["kept", "kinds", "words"]
/-- what the classes are -/
structure Xc (K : PySem.W.Frag) (mg : Str → Option Value) (cs : Nat → Addr) (c : Nat) : Prop where
  lt : c < 9
  at_ : ∀ k x, xnm[k]? = some x → mg x = some (.ref (cs k))
  ex : ExcC K (cs c)
  is : ∀ k, k < 9 → PySem.W.kitOne K (.ref (cs c)) (.ref (cs k)) = some (decide (k = c))
  ve : PySem.W.kitOne K (.ref (cs c)) (.type "ValueError") = some true
  b1 : mg "isinstance" = none
  b2 : mg "ValueError" = none
structure Wx (X : Cx) (cs : Nat → Addr) (c : Nat) (a : Addr) : Prop where
  xc : Xc X.K X.mg cs c
  N : X.N = wordN
  sc : X.env.scope = wordSc
  ci : CallR X (.builtin "isinstance") (rIsE X.K (cs c) a)
  fn : ∀ x, X.fn x = true
def tI (a : Addr) (c k : Nat) : TE := fun σ H Q => σ[0]? = some (some (.ref a)) ∧ Q (.bl (decide (k = c))) H
section
variable {X : Cx} {cs : Nat → Addr} {c : Nat} {a : Addr}
theorem pe_of' {e : Expr} {t t' : TE} (h : PE X e t) (w : ∀ σ H Q, t' σ H Q → t σ H Q) : PE X e t' := ⟨fun pins s σ H Q I q => h.run pins s σ H Q I (w σ H Q q)⟩
theorem w_var (w : Wx X cs c a) {i : Nat} {x : Str} {p : Pos} (h : wordN[i]? = some x) (hv : wordSc.names.lookup x = some .local) (h1 : (x == ("__debug__" : Str)) = false) (h2 : (x == ("__classdict__" : Str)) = false) : PE X (.Name x p) (tVar i) :=
  pe_var (by rw [w.N]; exact h) (.inl (by rw [w.sc]; exact hv)) h1 h2
theorem w_gl (w : Wx X cs c a) {x : Str} (h : wordSc.names.lookup x = some .globalImplicit) : Gl X x := by
  show X.env.scope.names.lookup x = _
  rw [w.sc]; exact h
theorem w_isi (w : Wx X cs c a) {x : Str} {k : Nat} {p1 p2 p3 p4 : Pos} (hk : xnm[k]? = some x) (hg : wordSc.names.lookup x = some .globalImplicit) (hd : (x == ("__debug__" : Str)) = false) : PE X (.Call (.Name "isinstance" p1) [.Name "kept" p2, .Name x p3] [] p4) (tI a c k) := by
  have hlt : k < 9 := (List.getElem?_eq_some_iff.mp hk).1
  refine pe_of' (pe_callB w.ci (w_gl w rfl) w.xc.b1 PyProof.Rows.boot_isinstance (pa_cons (w_var w (i := 0) rfl rfl (by decide) (by decide)) (pa_cons (pe_glob (v := .ref (cs k)) (w_gl w hg) (w.xc.at_ k x hk) rfl hd) pa_nil))) fun σ H Q h => ?_
  exact ⟨_, h.1, _, _, _, rfl, fun u r => r, w.xc.is k hlt, h.2⟩
theorem w_isv (w : Wx X cs c a) {p1 p2 p3 p4 : Pos} : PE X (.Call (.Name "isinstance" p1) [.Name "kept" p2, .Name "ValueError" p3] [] p4) (fun σ H Q => σ[0]? = some (some (.ref a)) ∧ Q (.bl true) H) := by
  refine pe_of' (pe_callB w.ci (w_gl w rfl) w.xc.b1 PyProof.Rows.boot_isinstance (pa_cons (w_var w (i := 0) rfl rfl (by decide) (by decide)) (pa_cons (pe_bltn (v := .ty "ValueError") (u := .type "ValueError") (w_gl w rfl) w.xc.b2 (by rfl) rfl) pa_nil))) fun σ H Q h => ?_
  exact ⟨_, h.1, _, _, _, rfl, fun u r => r, w.xc.ve, h.2⟩
/-! the statements, one by one: what stands between them -/
structure Wst (H0 : Hp) (a l : Addr) (bs : List V) (σ : St) (H : Hp) : Prop where
  sm : ∀ b o, H0 b = some o → H b = some o
  k0 : σ[0]? = some (some (.ref a))
  k1 : σ[1]? = some (some (.ref l))
  ln : σ.length = 3
  fr : H0 l = none
  at_ : H l = some (.lst bs)
theorem ps_of' {st : Stmt} {t t' : TS} (h : PS X st t) (w : ∀ D σ H, t' D σ H → t D σ H) : PS X st t' := ⟨fun pins s σ H D I q => h.run pins s σ H D I (w D σ H q)⟩
theorem pss_of' {st : List Stmt} {t t' : TS} (h : PSs X st t) (w : ∀ D σ H, t' D σ H → t D σ H) : PSs X st t' := ⟨fun pins s σ H D I q => h.run pins s σ H D I (w D σ H q)⟩
/-- kinds = kinds + [isinstance(kept, X), isinstance(kept, Y)] -/
theorem w_more (w : Wx X cs c a) {x y : Str} {i j : Nat} {p1 p2 p3 p4 p5 p6 p7 p8 p9 p10 p11 p12 p13 : Pos} (hx : xnm[i]? = some x) (hy : xnm[j]? = some y) (gx : wordSc.names.lookup x = some .globalImplicit) (gy : wordSc.names.lookup y = some .globalImplicit) (dx : (x == ("__debug__" : Str)) = false) (dy : (y == ("__debug__" : Str)) = false) :
    PS X (.Assign [.Name "kinds" p1] (.BinOp (.Name "kinds" p2) .Add (.List [.Call (.Name "isinstance" p3) [.Name "kept" p4, .Name x p5] [] p6, .Call (.Name "isinstance" p7) [.Name "kept" p8, .Name y p9] [] p10] p11) p12) p13)
      (fun D σ H => ∃ H0 l bs, Wst H0 a l bs σ H ∧ bs.length ≤ 9 ∧ ∀ σ' H' l', Wst H0 a l' (bs ++ [.bl (decide (i = c)), .bl (decide (j = c))]) σ' H' → σ'[2]? = σ[2]? → D.nx σ' H') := by
  refine ps_of' (ps_set (i := 1) (by rw [w.N]; decide) (by rw [w.N]; rfl) (.inl (by rw [w.sc]; rfl)) (pe_op op_cat (w_var w (i := 1) rfl rfl (by decide) (by decide)) (pe_lst (pa_cons (w_isi w hx gx dx) (pa_cons (w_isi w hy gy dy) pa_nil)))) (hf := .inl (w.fn _))) fun D σ H h => ?_
  obtain ⟨H0, l, bs, W, hl, h⟩ := h
  refine ⟨_, W.k1, W.k0, W.k0, by show 2 ≤ sizeLine; decide, fun p hp => ?_⟩
  have nl : l ≠ p := fun e => by rw [← e, W.at_] at hp; cases hp
  refine ⟨l, p, bs, _, rfl, rfl, by rw [upd_ne nl]; exact W.at_, upd_same, ?_, fun p' hp' => ?_⟩
  · simp only [List.length_cons, List.length_nil]
    exact Nat.le_trans (Nat.add_le_add_right hl 2) (by decide)
  · refine h _ _ p' ⟨fun b o e => ?_, ?_, ?_, ?_, ?_, upd_same⟩ ?_
    · have e1 := W.sm b o e
      have n1 : b ≠ p := fun z => by rw [z, hp] at e1; cases e1
      have e2 : upd H p (.lst [.bl (decide (i = c)), .bl (decide (j = c))]) b = some o := by rw [upd_ne n1]; exact e1
      have n2 : b ≠ p' := fun z => by rw [z] at e2; rw [e2] at hp'; cases hp'
      rw [upd_ne n2]; exact e2
    · rw [List.getElem?_set_ne (by decide)]; exact W.k0
    · rw [List.getElem?_set_self (by rw [W.ln]; decide)]
    · rw [List.length_set]; exact W.ln
    · cases q : H0 p' with
      | none => rfl
      | some o =>
        have e1 := W.sm p' o q
        have n1 : p' ≠ p := fun z => by rw [z, hp] at e1; cases e1
        rw [upd_ne n1, e1] at hp'; cases hp'
    · rw [List.getElem?_set_ne (by decide)]
/-- kinds = [isinstance(kept, X), isinstance(kept, Y)] -/
theorem w_first (w : Wx X cs c a) {x y : Str} {i j : Nat} {p1 p3 p4 p5 p6 p7 p8 p9 p10 p11 p13 : Pos} (hx : xnm[i]? = some x) (hy : xnm[j]? = some y) (gx : wordSc.names.lookup x = some .globalImplicit) (gy : wordSc.names.lookup y = some .globalImplicit) (dx : (x == ("__debug__" : Str)) = false) (dy : (y == ("__debug__" : Str)) = false) :
    PS X (.Assign [.Name "kinds" p1] (.List [.Call (.Name "isinstance" p3) [.Name "kept" p4, .Name x p5] [] p6, .Call (.Name "isinstance" p7) [.Name "kept" p8, .Name y p9] [] p10] p11) p13)
      (fun D σ H => σ[0]? = some (some (.ref a)) ∧ σ.length = 3 ∧ ∀ σ' H' l', Wst H a l' [.bl (decide (i = c)), .bl (decide (j = c))] σ' H' → D.nx σ' H') := by
  refine ps_of' (ps_set (i := 1) (by rw [w.N]; decide) (by rw [w.N]; rfl) (.inl (by rw [w.sc]; rfl)) (pe_lst (pa_cons (w_isi w hx gx dx) (pa_cons (w_isi w hy gy dy) pa_nil))) (hf := .inl (w.fn _))) fun D σ H h => ?_
  obtain ⟨h0, hl, h⟩ := h
  refine ⟨h0, h0, by show 2 ≤ sizeLine; decide, fun p hp => ?_⟩
  refine h _ _ p ⟨fun b o e => ?_, ?_, ?_, ?_, hp, upd_same⟩
  · have n1 : b ≠ p := fun z => by rw [z, hp] at e; cases e
    rw [upd_ne n1]; exact e
  · rw [List.getElem?_set_ne (by decide)]; exact h0
  · rw [List.getElem?_set_self (by rw [hl]; decide)]
  · rw [List.length_set]; exact hl
/-- .. with the row of words -/
structure Wst2 (H0 : Hp) (a l t : Addr) (bs ws : List V) (σ : St) (H : Hp) : Prop where
  w : Wst H0 a l bs σ H
  k2 : σ[2]? = some (some (.ref t))
  tp : H t = some (.tup ws)
theorem Wst.new {H0 H : Hp} {l p : Addr} {bs : List V} {σ : St} {o : HO} (W : Wst H0 a l bs σ H) (hp : H p = none) : Wst H0 a l bs (σ.set 2 (some (.ref p))) (upd H p o) ∧ (σ.set 2 (some (V.ref p)))[2]? = some (some (.ref p)) := by
  have nl : l ≠ p := fun e => by rw [← e, W.at_] at hp; cases hp
  refine ⟨⟨fun b o e => ?_, ?_, ?_, ?_, W.fr, ?_⟩, ?_⟩
  · have e1 := W.sm b o e
    have n1 : b ≠ p := fun z => by rw [z, hp] at e1; cases e1
    rw [upd_ne n1]; exact e1
  · rw [List.getElem?_set_ne (by decide)]; exact W.k0
  · rw [List.getElem?_set_ne (by decide)]; exact W.k1
  · rw [List.length_set]; exact W.ln
  · rw [upd_ne nl]; exact W.at_
  · rw [List.getElem?_set_self (by rw [W.ln]; decide)]
theorem w_words (w : Wx X cs c a) {x1 x2 x3 x4 x5 x6 : Str} {p0 p1 p2 p3 p4 p5 p6 p7 p8 : Pos} :
    PS X (.Assign [.Name "words" p0] (.Tuple [.Constant (.str x1) 0 p1, .Constant (.str x2) 0 p2, .Constant (.str x3) 0 p3, .Constant (.str x4) 0 p4, .Constant (.str x5) 0 p5, .Constant (.str x6) 0 p6] 0 p7) p8)
      (fun D σ H => ∃ H0 l bs, Wst H0 a l bs σ H ∧ ∀ σ' H' t, Wst2 H0 a l t bs [.str x1, .str x2, .str x3, .str x4, .str x5, .str x6] σ' H' → D.nx σ' H') := by
  refine ps_of' (ps_set (i := 2) (by rw [w.N]; decide) (by rw [w.N]; rfl) (.inl (by rw [w.sc]; rfl)) (pe_tup (pa_cons pe_str (pa_cons pe_str (pa_cons pe_str (pa_cons pe_str (pa_cons pe_str (pa_cons pe_str pa_nil))))))) (hf := .inl (w.fn _))) fun D σ H h => ?_
  obtain ⟨H0, l, bs, W, h⟩ := h
  refine ⟨by show 6 ≤ sizeLine; decide, fun p hp => ?_⟩
  obtain ⟨W1, k2⟩ := W.new (o := .tup [.str x1, .str x2, .str x3, .str x4, .str x5, .str x6]) hp
  exact h _ _ p ⟨W1, k2, upd_same⟩
theorem w_words2 (w : Wx X cs c a) {x1 x2 x3 : Str} {p0 p1 p2 p3 p4 p5 p6 p7 : Pos} :
    PS X (.Assign [.Name "words" p0] (.BinOp (.Name "words" p1) .Add (.Tuple [.Constant (.str x1) 0 p2, .Constant (.str x2) 0 p3, .Constant (.str x3) 0 p4] 0 p5) p6) p7)
      (fun D σ H => ∃ H0 l t bs ws, Wst2 H0 a l t bs ws σ H ∧ ws ≠ [] ∧ ws.length ≤ 9 ∧ ∀ σ' H' t', Wst2 H0 a l t' bs (ws ++ [.str x1, .str x2, .str x3]) σ' H' → D.nx σ' H') := by
  refine ps_of' (ps_set (i := 2) (by rw [w.N]; decide) (by rw [w.N]; rfl) (.inl (by rw [w.sc]; rfl)) (pe_op op_catA (w_var w (i := 2) rfl rfl (by decide) (by decide)) (pe_tup (pa_cons pe_str (pa_cons pe_str (pa_cons pe_str pa_nil))))) (hf := .inl (w.fn _))) fun D σ H h => ?_
  obtain ⟨H0, l, t, bs, ws, W, hne, hl, h⟩ := h
  refine ⟨_, W.k2, by show 3 ≤ sizeLine; decide, fun p hp => ?_⟩
  have nt : t ≠ p := fun e => by rw [← e, W.tp] at hp; cases hp
  obtain ⟨W1, _⟩ := W.w.new (o := .tup [.str x1, .str x2, .str x3]) hp
  refine ⟨t, p, ws, _, rfl, rfl, .inl (.inl (by rw [upd_ne nt]; exact W.tp)), .inl (.inl upd_same), ?_, fun z => absurd z hne, (fun _ z => by cases z), fun _ _ p' hp' => ?_⟩
  · simp only [List.length_cons, List.length_nil]
    exact Nat.le_trans (Nat.add_le_add_right hl 3) (by decide)
  · obtain ⟨W2, k2⟩ := W1.new (o := .tup (ws ++ [.str x1, .str x2, .str x3])) hp'
    have es : (σ.set 2 (some (V.ref p))).set 2 (some (.ref p')) = σ.set 2 (some (.ref p')) := by rw [List.set_set]
    rw [es] at W2 k2
    exact h _ _ p' ⟨W2, k2, upd_same⟩
/-- kinds.append(isinstance(kept, X)) -/
theorem w_app (w : Wx X cs c a) {x : Str} {i : Nat} {p1 p2 p3 p4 p5 p6 p7 p8 : Pos} (hx : xnm[i]? = some x) (gx : wordSc.names.lookup x = some .globalImplicit) (dx : (x == ("__debug__" : Str)) = false) (hp : (p2.endLine == p7.line) = true) :
    PS X (.Expr (.Call (.Attribute (.Name "kinds" p1) "append" p2) [.Call (.Name "isinstance" p3) [.Name "kept" p4, .Name x p5] [] p6] [] p7) p8)
      (fun D σ H => ∃ H0 l t bs ws, Wst2 H0 a l t bs ws σ H ∧ bs.length ≤ 9 ∧ ∀ H', Wst2 H0 a l t (bs ++ [.bl (decide (i = c))]) ws σ H' → D.nx σ H') := by
  refine ps_of' (ps_expr (pe_bm PySem.F.plainAttrs_list PySem.F.slot_list_append PySem.F.type_list_append mt_append (w_var w (i := 1) rfl rfl (by decide) (by decide)) (pa_cons (w_isi w hx gx dx) pa_nil) rfl rfl hp)) fun D σ H h => ?_
  obtain ⟨H0, l, t, bs, ws, W, hl, h⟩ := h
  refine ⟨_, W.w.k1, .inl ⟨rfl, _, .inl (.inl W.w.at_)⟩, W.w.k0, l, bs, _, rfl, rfl, W.w.at_, Nat.lt_of_le_of_lt hl (by decide), ?_⟩
  have nt : t ≠ l := fun e => by
    have h1 := W.tp
    rw [e, W.w.at_] at h1
    cases h1
  refine h _ ⟨⟨fun b o e => ?_, W.w.k0, W.w.k1, W.w.ln, W.w.fr, upd_same⟩, W.k2, by rw [upd_ne nt]; exact W.tp⟩
  have n1 : b ≠ l := fun z => by rw [z, W.w.fr] at e; cases e
  rw [upd_ne n1]; exact W.w.sm b o e
/-! list.count of flat values -/
def rCountF (K : PySem.W.Frag) : V → List V → Hp → VK → Prop := fun x xs H Q => ∃ (p : Addr) (ys : List V) (y : V), x = V.ref p ∧ xs = [y] ∧ SqL K H p ys ∧ flatV y = true ∧ ys.all flatV = true ∧ Q (.int ((ys.countP fun z => eqV z y : Nat) : Int)) H
theorem countU {y : V} : ∀ {ys : List V} {us : List Value}, Vals ys us → ys.all flatV = true → us.countP (eqU y) = ys.countP fun z => eqV z y
  | _, _, .nil, _ => rfl
  | z :: zs, u :: us, .cons r t, f => by
    rw [List.all_cons, Bool.and_eq_true] at f
    rw [List.countP_cons, List.countP_cons, countU t f.2, eqU_of r f.1]
theorem mt_countF : MtR X "list.count" (rCountF X.K) := by
  intro pins s σ H x xs v us Q I rx rxs h
  obtain ⟨p, ys, y, rfl, rfl, hs, fy, fys, q⟩ := h
  cases rx
  cases rxs with
  | cons ry rt =>
    rename_i uy ut
    cases rt
    obtain ⟨its, rv, ⟨⟨cls, dd, data, sl⟩, n, ho, hc, hdn, hd⟩, hlen⟩ := I.list hs
    simp only at hc hd
    subst hc hd
    refine call_meets PySem.F.slot_list_count ⟨_, ho, rfl⟩ PySem.F.entry_list_count (PySem.F.args_list_count_2 _ _)
      (SeqAt.list_countAt p its.toArray n dd sl uy (eqU y)) ⟨ho, fun u' hu' => mem_eqAt ry fy rv fys u' (by simpa using hu'), ?_⟩
    have ec : its.toArray.toList.countP (eqU y) = ys.countP fun z => eqV z y := countU rv fys
    refine ⟨.int ((ys.countP fun z => eqV z y : Nat) : Int), H, I.tok _, ⟨s.toks, ?_⟩, q⟩
    rw [ec]
def kindsV (c : Nat) : List V := (List.range 9).map fun k => .bl (decide (k = c))
/-- if kinds.count(True) != 1 or not isinstance(kept, ValueError): return .. -/
theorem w_if (w : Wx X cs c a) {y : Str} {p1 p2 p3 p4 p5 p6 p7 p8 p9 p10 p11 p12 p13 p14 p15 : Pos} (hp : (p2.endLine == p4.line) = true) :
    PS X (.If (.BoolOp .Or [.Compare (.Call (.Attribute (.Name "kinds" p1) "count" p2) [.Constant (.bool true) 0 p3] [] p4) [.NotEq] [.Constant (.int 1) 0 p5] p6, .UnaryOp .Not (.Call (.Name "isinstance" p7) [.Name "kept" p8, .Name "ValueError" p9] [] p10) p11] p12) [.Return (some (.Constant (.str y) 0 p13)) p14] [] p15)
      (fun D σ H => ∃ H0 l t ws, Wst2 H0 a l t (kindsV c) ws σ H ∧ D.nx σ H) := by
  refine ps_of' (ps_if (PW.pt (pw_or (pt_cmpR op_ne (pe_bm PySem.F.plainAttrs_list PySem.F.slot_list_count PySem.F.type_list_count mt_countF (w_var w (i := 1) rfl rfl (by decide) (by decide)) (pa_cons pe_bl pa_nil) rfl rfl hp) pe_int rfl) (pw_or1 (pt_not (pt_truth (w_isv w) fun _ => rfl))))) (pss_one (ps_ret pe_str)) pss_nil) fun D σ H h => ?_
  obtain ⟨H0, l, t, ws, W, h⟩ := h
  refine ⟨_, W.w.k1, .inl ⟨rfl, _, .inl (.inl W.w.at_)⟩, l, _, _, rfl, rfl, .inl (.inl W.w.at_), rfl, ?_, ?_⟩
  · simp [kindsV, flatV]
  · have hlt := w.xc.lt
    have ec : ((kindsV c).countP fun z => eqV z (.bl true)) = 1 := by
      obtain rfl | rfl | rfl | rfl | rfl | rfl | rfl | rfl | rfl : c = 0 ∨ c = 1 ∨ c = 2 ∨ c = 3 ∨ c = 4 ∨ c = 5 ∨ c = 6 ∨ c = 7 ∨ c = 8 := by omega
      all_goals decide
    rw [ec]
    refine ⟨rfl, _, rfl, ?_⟩
    exact ⟨W.w.k0, true, rfl, h⟩
/-- return words[kinds.index(True)] -/
theorem w_ret (w : Wx X cs c a) {p1 p2 p3 p4 p5 p6 p7 : Pos} (hp : (p3.endLine == p5.line) = true) :
    PS X (.Return (some (.Subscript (.Name "words" p1) (.Call (.Attribute (.Name "kinds" p2) "index" p3) [.Constant (.bool true) 0 p4] [] p5) p6)) p7)
      (fun D σ H => ∃ H0 l t ws v, Wst2 H0 a l t (kindsV c) ws σ H ∧ ws[c]? = some v ∧ D.rt v H) := by
  refine ps_of' (ps_ret (pe_ix ix_seq (w_var w (i := 2) rfl rfl (by decide) (by decide)) (pe_bm PySem.F.plainAttrs_list PySem.F.slot_list_index PySem.F.type_list_index mt_index (w_var w (i := 1) rfl rfl (by decide) (by decide)) (pa_cons pe_bl pa_nil) rfl rfl hp) (fun _ _ => rfl))) fun D σ H h => ?_
  obtain ⟨H0, l, t, ws, v, W, hv, h⟩ := h
  have hlt := w.xc.lt
  refine ⟨_, W.k2, _, W.w.k1, .inl ⟨rfl, _, .inl (.inl W.w.at_)⟩, l, _, _, c, .bl true, rfl, rfl, .inl (.inl W.w.at_), rfl, ?_, ?_, rfl, ?_, ?_⟩
  · simp [kindsV, flatV]
  · simp [kindsV, hlt]
  · intro m z hm hz
    have hm9 : m < 9 := by omega
    have hmc : ¬ m = c := by omega
    simp [kindsV, hm9, hmc] at hz
    subst hz
    rfl
  · exact .inr (.inl ⟨t, ws, c, v, rfl, rfl, .inl (.inl W.tp), L2.atI_nat hv, h⟩)
theorem w_body (w : Wx X cs c a) (q : Nat → Pos) (h1 : ((q 68).endLine == (q 73).line) = true) (h2 : ((q 76).endLine == (q 78).line) = true) (h3 : ((q 92).endLine == (q 94).line) = true) :
    PSs X (wordB q) (fun D σ H => σ[0]? = some (some (.ref a)) ∧ σ.length = 3 ∧ ∀ H', (∀ b o, H b = some o → H' b = some o) → ∀ v, xwd[c]? = some v → D.rt (.str v) H') := by
  refine pss_of' (pss_cons (w_first w (i := 0) (j := 1) rfl rfl rfl rfl (by decide) (by decide)) (pss_cons (w_more w (i := 2) (j := 3) rfl rfl rfl rfl (by decide) (by decide)) (pss_cons (w_more w (i := 4) (j := 5) rfl rfl rfl rfl (by decide) (by decide)) (pss_cons (w_more w (i := 6) (j := 7) rfl rfl rfl rfl (by decide) (by decide)) (pss_cons (w_words w) (pss_cons (w_words2 w) (pss_cons (w_app w (i := 8) rfl rfl (by decide) h1) (pss_cons (w_if w h2) (pss_one (w_ret w h3))))))))) ) fun D σ H h => ?_
  obtain ⟨h0, hl, h⟩ := h
  refine ⟨h0, hl, fun σ1 H1 l1 W1 => ?_⟩
  refine ⟨H, l1, _, W1, by simp, fun σ2 H2 l2 W2 _ => ?_⟩
  refine ⟨H, l2, _, W2, by simp, fun σ3 H3 l3 W3 _ => ?_⟩
  refine ⟨H, l3, _, W3, by simp, fun σ4 H4 l4 W4 _ => ?_⟩
  refine ⟨H, l4, _, W4, fun σ5 H5 t5 W5 => ?_⟩
  refine ⟨H, l4, t5, _, _, W5, by simp, by decide, fun σ6 H6 t6 W6 => ?_⟩
  refine ⟨H, l4, t6, _, _, W6, by simp, fun H7 W7 => ?_⟩
  refine ⟨H, l4, t6, _, W7, ?_⟩
  have hlt := w.xc.lt
  have hv : ∃ v, xwd[c]? = some v := ⟨xwd[c]'hlt, List.getElem?_eq_getElem hlt⟩
  obtain ⟨v, hv⟩ := hv
  refine ⟨H, l4, t6, _, .str v, W7, ?_, h _ W7.w.sm v hv⟩
  have e : ([.str "no cuts", .str "no move", .str "no pane", .str "no part", .str "no join", .str "no room"] ++ [.str "no needs", .str "no text", .str "no step"] : List V) = xwd.map V.str := rfl
  rw [e, List.getElem?_map, hv]; rfl
end
theorem wordS : FnScope wordN ["kept"] wordSc := ⟨rfl, rfl, rfl, by decide, rfl, fun x hx => by
  have : x = "kept" := by simpa using hx
  subst this; exact .inl rfl, fun y hy => by
  simp only [wordSc, List.mem_cons, List.not_mem_nil, or_false] at hy
  rcases hy with rfl | rfl | rfl | rfl | rfl | rfl | rfl | rfl | rfl | rfl | rfl | rfl | rfl | rfl <;> exact fun z => by cases z⟩
/-- _law_word(e), in the suite of an except clause -/
theorem pe_word {Y : Cx} {a f : Addr} {oe : Obj} {c i : Nat} {cs : Nat → Addr} {st : Stmt} {fd : FuncData} {q : Nat → Pos} {p1 p2 p3 : Pos} {x : Str} (hp : (a, oe) ∈ Y.pn) (hot : L2H.Hot1 Y.A (a, oe)) (hz : Zc (.ref (cs c)) none oe)
    (F : Fun Y.K "_law_word" "_law_word" st f fd) (hm : Y.mg "_law_word" = some (.ref f)) (hb : Binds Y.K fd ["kept"] []) (hst : defBody st = wordB q) (hsc : defScope st = wordSc) (hr : L2H.RoomH 1 Y.A) (xc : Xc Y.K Y.mg cs c) (hg : Gl Y "_law_word") (hx : PE Y (.Name x p2) (tVar i))
    (h1 : ((q 68).endLine == (q 73).line) = true) (h2 : ((q 76).endLine == (q 78).line) = true) (h3 : ((q 92).endLine == (q 94).line) = true) :
    PE Y (.Call (.Name "_law_word" p1) [.Name x p2] [] p3) (fun σ H Q => σ[i]? = some (some (.ref a)) ∧ ∀ H', (∀ b o, H b = some o → H' b = some o) → ∀ v, xwd[c]? = some v → Q (.str v) H') := by
  refine ⟨fun pins s σ H Q I h => ?_⟩
  obtain ⟨hi, h⟩ := h
  refine wpAny_Call_Name_kw (ld_glob I hg hm ?_ (by decide))
  have hA : PA Y [.Name x p2] (tCons (tVar i) tNil) := pa_cons hx pa_nil
  refine PySem.W.callWith_K (h₀ := Y.base) I.ok.mod.kin F.kp (thn (hA.run p3 pins s σ H (fun vs H1 => vs = [V.ref a] ∧ H1 = H) I ⟨_, hi, rfl, rfl⟩) fun us s1 hh => ?_) rfl rfl
  obtain ⟨vs, H1, I1, r, ev, eH⟩ := hh
  subst ev
  subst eH
  refine ⟨I1.kIn, ?_⟩
  have P1 := I1.pin (a, oe) (List.mem_append_left _ hp)
  have pk : L2H.PinOk Y.stack H1 s1 (a, oe) := ⟨P1.1, P1.2.1, fun hm => (List.mem_cons.mp (I1.stkSub a hm)).elim P1.2.2.1 P1.2.2.2.1, P1.2.2.2.2⟩
  have e0 := I1.env0
  have bd := hb s1 us I1.kIn (by rw [List.append_nil, ← r.length]; rfl)
  rw [List.append_nil] at bd
  obtain ⟨oc, od, kV, doc, pm, an, cdv, ct, osl, rfl, lk, hcd⟩ := F.ex
  have lm : s1.heap.NoLimit := e0.mod.nolimit.keeps fun b o e => (e0.bs b o e).1
  have S : FnScope wordN ["kept"] (defScope st) := by rw [hsc]; exact wordS
  have hk : ∀ y ∈ (["kept"] : List Str).zip us, (defScope st).names.lookup y.1 = some .local ∨ ((defScope st).names.lookup y.1 = some .cell ∧ ((cellsFrom (s1.heap.objs.size + 1) (defScope st).names []).lookup y.1).isSome = true) := fun y hy => by
    obtain ⟨n, v⟩ := y
    rcases S.par n (List.of_mem_zip hy).1 with k | k
    · exact .inl k
    · exact .inr ⟨k, PySem.W.cellsFrom_some _ _ _ (.inl k)⟩
  refine wpAny_call (codeAny_mono (R := CR CX0 Y.stack Y.prog Y.w H1 s1 Q E0) ?_ fun o s' hq => ?_)
  · refine codeAny_call_function hr.depth (I1.kIn _ _ lk) rfl S.co S.gen rfl (PySem.W.codeRec_of I1.kIn hcd) (bd _ _ _ _ ?_)
    refine wpAny_newFunctionEnv_cells S.kind hk fun env he s2 z => ?_
    subst he
    refine ⟨lm.keeps z.toInCall.keep, codeAny_func ?_⟩
    have J := L2H.inv_startH (CX := CX0) (E := E0) S pk e0 rfl r z
    have W : Wx (L2H.cxH CX0 Y.prog Y.w Y.K Y.mg Y.base wordN "_law_word" (defScope st) f cdv Y.A Y.stack s1 H1 E0 (a, oe)) cs c a := ⟨xc, rfl, hsc, call_isP xc.ex (List.mem_singleton.mpr rfl) hz (by obtain ⟨_, fs, e, _⟩ := hot; exact ⟨fs, e⟩), fun _ => rfl⟩
    rw [hst]
    refine wpAny_mono ((w_body W q h1 h2 h3).run [] s2 (L2.start wordN [.ref a]) H1 { nx := fun _ H' => Q .non H', rt := Q } J ⟨rfl, rfl, h⟩) (fun fl s' hs => ?_) fun e s' hs => hs
    cases fl with
    | ret u =>
      obtain ⟨v, σ', H', J', rv, q'⟩ := hs
      exact ⟨v, H', J'.os, J'.bare, J'.base, J'.hok, rv, q'⟩
    | next =>
      obtain ⟨σ', H', J', q'⟩ := hs
      exact ⟨.non, H', J'.os, J'.bare, J'.base, J'.hok, rfl, q'⟩
    | brk => obtain ⟨_, _, _, q'⟩ := hs; exact q'.elim
    | cont => obtain ⟨_, _, _, q'⟩ := hs; exact q'.elim
  · cases o with
    | error e => exact hq.elim
    | ok fl =>
      cases fl with
      | ret u => exact I1.after hq
      | next => exact hq.elim
      | brk => exact hq.elim
      | cont => exact hq.elim
end PP

set_option Elab.async false
set_option linter.all false
set_option autoImplicit false
set_option maxRecDepth 100000
/-! The pure language: values, stores, expressions, statements, their evaluator. -/
namespace PP
open PySem
abbrev D := PyData
/-- what an expression yields, what a slot holds: a datum that never changes; a list of one's own; a list lent; the script -/
inductive R where
  | d (x : D)
  | l (xs : List D)
  | b (xs : List D)
  | s (xs : List D)
  | m (kvs : List (List Int × D))
  | n (kvs : List (List Int × D))
  | q
inductive Rs (α : Type) where
  | bad
  | err (c : Nat)
  | ok (a : α)
def Rs.bind {α β : Type} (m : Rs α) (k : α → Rs β) : Rs β :=
  match m with
  | .bad => .bad
  | .err c => .err c
  | .ok a => k a
instance : Monad Rs where
  pure := Rs.ok
  bind := Rs.bind
@[simp] theorem bind_ok {α β : Type} (a : α) (k : α → Rs β) : ((Rs.ok a : Rs α) >>= k) = k a := rfl
@[simp] theorem bind_bad {α β : Type} (k : α → Rs β) : ((Rs.bad : Rs α) >>= k) = .bad := rfl
@[simp] theorem bind_err {α β : Type} (c : Nat) (k : α → Rs β) : ((Rs.err c : Rs α) >>= k) = .err c := rfl
@[simp] theorem pure_ok {α : Type} (a : α) : (pure a : Rs α) = .ok a := rfl
@[simp] theorem rbind_ok {α β : Type} (a : α) (k : α → Rs β) : (Rs.ok a).bind k = k a := rfl
@[simp] theorem rbind_bad {α β : Type} (k : α → Rs β) : (Rs.bad : Rs α).bind k = .bad := rfl
@[simp] theorem rbind_err {α β : Type} (c : Nat) (k : α → Rs β) : (Rs.err c : Rs α).bind k = .err c := rfl
abbrev Sto := List (Option R)

/-- sizes -/
def lim : Nat := 100000
def fit {α : Type} (n : Nat) (k : Rs α) : Rs α := if n ≤ lim then k else .bad
theorem fit_ok {α : Type} {n : Nat} {k : Rs α} (h : n ≤ lim) : fit n k = k := if_pos h

/-- the items of a list, whichever -/
def R.lst? : R → Option (List D)
  | .d (.list xs) => some xs
  | .l xs => some xs
  | .b xs => some xs
  | _ => none
/-- .. of a list or a tuple -/
def R.seq? : R → Option (List D)
  | .d (.list xs) => some xs
  | .d (.tuple xs) => some xs
  | .l xs => some xs
  | .b xs => some xs
  | .s xs => some xs
  | _ => none
/-- what a walk goes over: not a list that is lent -/
def R.itm : R → Rs (List D)
  | .d (.list xs) => .ok xs
  | .d (.tuple xs) => .ok xs
  | .l xs => .ok xs
  | .s xs => .ok xs
  | _ => .bad
/-- as a datum that never changes; what is lent can not be frozen -/
def R.frz : R → Rs D
  | .d x => .ok x
  | .l xs => .ok (.list xs)
  | _ => .bad
/-- read as a datum, for a moment -/
def R.see : R → D
  | .d x => x
  | .l xs => .list xs
  | .b xs => .list xs
  | .s xs => .list xs
  | _ => .none
def R.isOwn : R → Bool
  | .l _ => true
  | .n _ => true
  | _ => false
def R.isD : R → Bool
  | .m _ => false
  | .n _ => false
  | .q => false
  | _ => true

inductive Op2 where
  | add | sub | mul | mod | fdiv
  deriving DecidableEq
inductive Cm where
  | eq | ne | lt | le | gt | ge | in_ | nin | is_ | isn
  deriving DecidableEq

def bnd (i : Int) : Bool := decide (-(2 ^ 64) < i) && decide (i < 2 ^ 64)
def addR : R → R → Rs R
  | .d (.int i), .d (.int j) => .ok (.d (.int (i + j)))
  | .d (.str x), .d (.str y) => fit (x.length + y.length) (.ok (.d (.str (x ++ y))))
  | .d (.tuple xs), .d (.tuple ys) => fit (xs.length + ys.length) (.ok (.d (.tuple (xs ++ ys))))
  | a, b => match a.lst?, b.lst? with
    | some xs, some ys => fit (xs.length + ys.length) (.ok (.l (xs ++ ys)))
    | _, _ => .bad
def subR : R → R → Rs R
  | .d (.int i), .d (.int j) => .ok (.d (.int (i - j)))
  | _, _ => .bad
def mulR : R → R → Rs R
  | .d (.int i), .d (.int j) => if bnd j || bnd i then .ok (.d (.int (i * j))) else .bad
  | .d (.str x), .d (.int k) => if k = 2 then fit (x.length + x.length) (.ok (.d (.str (x ++ x)))) else .bad
  | a, .d (.int k) => match a.lst? with
    | some xs => if decide (0 ≤ k) && decide (k ≤ 1000) then fit (xs.length * k.toNat) (.ok (.l (List.replicate k.toNat xs).flatten)) else .bad
    | none => .bad
  | _, _ => .bad
def modR : R → R → Rs R
  | .d (.int i), .d (.int j) => if 0 < j then .ok (.d (.int (i % j))) else .bad
  | _, _ => .bad
def fdivR : R → R → Rs R
  | .d (.int i), .d (.int j) => if 0 < j ∧ j < 1000000 then .ok (.d (.int (i / j))) else .bad
  | _, _ => .bad
def binR : Op2 → R → R → Rs R
  | .add => addR
  | .sub => subR
  | .mul => mulR
  | .mod => modR
  | .fdiv => fdivR

def shallow (a b : D) : Bool := decide (min a.depth b.depth ≤ 60)
def eqR (a b : R) : Rs Bool := if a.isD && b.isD && shallow a.see b.see then .ok (PyData.eqv a.see b.see) else .bad
def boolR (m : Rs Bool) : Rs R := match m with
  | .ok c => .ok (.d (.bool c))
  | .err c => .err c
  | .bad => .bad
/-- all ints -/
def ints? : List D → Option (List Int)
  | [] => some []
  | .int i :: r => match ints? r with
    | some l => some (i :: l)
    | none => none
  | _ :: _ => none
def ltR : R → R → Rs Bool
  | .d (.int i), .d (.int j) => .ok (decide (i < j))
  | .d (.tuple xs), .d (.tuple ys) => match ints? xs, ints? ys with
    | some ns, some ms => .ok (HT.lexLt ns ms)
    | _, _ => .bad
  | _, _ => .bad
def leR : R → R → Rs Bool
  | .d (.int i), .d (.int j) => .ok (decide (i ≤ j))
  | _, _ => .bad
def gtR : R → R → Rs Bool
  | .d (.int i), .d (.int j) => .ok (decide (j < i))
  | _, _ => .bad
def geR : R → R → Rs Bool
  | .d (.int i), .d (.int j) => .ok (decide (j ≤ i))
  | _, _ => .bad
def inR (a b : R) : Rs Bool :=
  match b with
  | .d (.str y) => match a with
    | .d (.str x) => .ok (!(Builtin.Str.occurrences y x 0 y.length 1).isEmpty)
    | _ => .bad
  | b => match b.seq? with
    | some ys => if a.isD && decide (a.see.depth ≤ 60) then .ok (ys.any fun z => PyData.eqv z a.see) else .bad
    | none => .bad
def isR : R → R → Rs Bool
  | .q, _ => .bad
  | .n _, _ => .bad
  | .d .none, .d .none => .ok true
  | _, .d .none => .ok false
  | .d (.bool e), .d (.bool c) => .ok (decide (e = c))
  | _, _ => .bad
def notB : Rs Bool → Rs Bool
  | .ok c => .ok (!c)
  | .err c => .err c
  | .bad => .bad
def cmpR : Cm → R → R → Rs Bool
  | .eq, a, b => eqR a b
  | .ne, a, b => notB (eqR a b)
  | .lt, a, b => ltR a b
  | .le, a, b => leR a b
  | .gt, a, b => gtR a b
  | .ge, a, b => geR a b
  | .in_, a, b => inR a b
  | .nin, a, b => notB (inR a b)
  | .is_, a, b => isR a b
  | .isn, a, b => notB (isR a b)
def truR : R → Rs Bool
  | .d .none => .ok false
  | .d (.bool c) => .ok c
  | .d (.int i) => .ok (i != 0)
  | .d (.str x) => fit x.length (.ok ((x.length : Int) != 0))
  | .d (.list xs) => .ok (!xs.isEmpty)
  | .d (.tuple xs) => .ok (!xs.isEmpty)
  | .l xs => .ok (!xs.isEmpty)
  | .b xs => .ok (!xs.isEmpty)
  | _ => .bad
def idxR : R → R → Rs R
  | .d (.str x), .d (.int i) => match L2.atI x.cps.toList i with
    | some c => fit x.length (.ok (.d (.str ⟨#[c]⟩)))
    | none => .bad
  | a, .d (.int i) => match a.seq? with
    | some xs => match L2.atI xs i with
      | some x => .ok (.d x)
      | none => .bad
    | none => .bad
  | _, _ => .bad
def cutD {α : Type} (xs : List α) (lo hi : Option Int) : List α := (xs.drop (HT.sIx xs.length 0 lo)).take (HT.sIx xs.length xs.length hi - HT.sIx xs.length 0 lo)
def slcR (a : R) (lo hi : Option Int) : Rs R :=
  match a with
  | .d (.tuple xs) => .ok (.d (.tuple (cutD xs lo hi)))
  | .d (.str x) => fit x.length (.ok (.d (.str (L2.cutS x lo hi))))
  | a => match a.lst? with
    | some xs => .ok (.l (cutD xs lo hi))
    | none => .bad

/-! ### the syntax -/
inductive Bf where
  | len | int | tuple | list | max | min | all | any | sum | str | sorted | lenset | sortset | min1
  deriving DecidableEq
inductive Ty where
  | int | bool | str | tuple | list | none
  deriving DecidableEq
/-- a target: a name, a row of names -/
inductive Tg where
  | nm (i : Nat)
  | tp (is : List Nat)
mutual
inductive Ex where
  | var (i : Nat)
  | cst (x : D)
  | tup (es : Exs)
  | lst (es : Exs)
  | bin (o : Op2) (a b : Ex)
  | neg (a : Ex)
  | cmp (o : Cm) (a b : Ex)
  | chn (o p : Cm) (a b c : Ex)
  | and (a b : Ex)
  | or (a b : Ex)
  | not (a : Ex)
  | ite (c a b : Ex)
  | idx (a b : Ex)
  | slc (a : Ex) (lo hi : Exs)
  | rev (a : Ex)
  | call (f : Nat) (es : Exs)
  | blt (f : Bf) (es : Exs)
  | isi (t : Ty) (a : Ex)
  | isi2 (t u : Ty) (a : Ex)
  | lc (t : Tg) (it : It) (e : Ex)
  | lcf (t : Tg) (it : It) (c e : Ex)
  | lenset (a : Ex)
  | mget (i : Nat) (es : Exs)
  | upp (a : Ex)
  | lensi (a : Ex)
  | dget (kvs : List (Str × D)) (a : Ex)
  | din (neg : Bool) (kvs : List (Str × D)) (a : Ex)
  | dsel (ks : List Str) (es : Exs) (a : Ex)
  | stp (a k : Ex)
  | fnd (z : Str) (a : Ex)
inductive Exs where
  | nil
  | cons (e : Ex) (es : Exs)
inductive It where
  | seq (e : Ex)
  | rng1 (a : Ex)
  | rng2 (a b : Ex)
  | enum (e : Ex)
  | zip (a b : Ex)
  | dks (kvs : List (Str × D))
end
mutual
inductive Sm where
  | asg (t : Tg) (e : Ex)
  | own (i : Nat) (e : Ex)
  | par (i j : Nat) (x y : Ex)
  | app (i : Nat) (e : Ex)
  | ext (i : Nat) (e : Ex)
  | put (i : Nat) (k e : Ex)
  | frz (i : Nat)
  | ifs (c : Ex) (a b : Sms)
  | for_ (t : Tg) (it : It) (b : Sms)
  | whl (c : Ex) (b : Sms)
  | ret (e : Ex)
  | rtl (i : Nat)
  | rse (c : Nat)
  | pas
  | nev
  | exp (e : Ex)
  | mnew (i : Nat)
  | mput (i : Nat) (es : Exs) (e : Ex)
  | rtm (i : Nat)
  | mas (i : Nat) (e : Ex)
  | tryw (i : Nat) (b : Sms)
inductive Sms where
  | nil
  | cons (s : Sm) (ss : Sms)
end

/-! ### the meaning -/
def R.lend : R → R
  | .l xs => .b xs
  | .n _ => .q
  | r => r
def R.arg : R → Rs R
  | .d x => .ok (.d x)
  | .l xs => .ok (.d (.list xs))
  | .s xs => .ok (.s xs)
  | .m kvs => .ok (.m kvs)
  | _ => .bad
def mapR {α β : Type} (f : α → Rs β) : List α → Rs (List β)
  | [] => .ok []
  | x :: xs => f x >>= fun y => mapR f xs >>= fun ys => .ok (y :: ys)
def frzAll : List R → Rs (List D) := mapR R.frz
def argAll : List R → Rs (List R) := mapR R.arg
def negR : R → Rs R
  | .d (.int i) => .ok (.d (.int (-i)))
  | _ => .bad
def revR : R → Rs R
  | .d (.tuple xs) => .ok (.d (.tuple xs.reverse))
  | a => match a.lst? with
    | some xs => .ok (.l xs.reverse)
    | none => .bad
def bools? : List D → Option (List Bool)
  | [] => some []
  | .bool i :: r => match bools? r with
    | some l => some (i :: l)
    | none => none
  | _ :: _ => none
def tyR : R → Ty → Bool
  | .d .none, .none => true
  | .d (.bool _), .bool => true
  | .d (.bool _), .int => true
  | .d (.int _), .int => true
  | .d (.str _), .str => true
  | .d (.tuple _), .tuple => true
  | .d (.list _), .list => true
  | .l _, .list => true
  | .b _, .list => true
  | .s _, .list => true
  | _, _ => false
def isiR (ts : List Ty) : R → Rs Bool
  | .s _ => .bad
  | .m _ => .bad
  | .n _ => .bad
  | .q => .bad
  | x => .ok (ts.any (tyR x))
/-- the data in their order: alike, no empty tuple among tuples -/
def sortOk (xs : List D) : Bool := (xs.all fun x => xs.all fun y => PySem.W.alike x y) && (xs.all fun x => decide (x.depth ≤ 60)) && decide (xs.length ≤ lim) &&
  ((xs.all fun x => match x with | .tuple (_ :: _) => true | _ => false) || (xs.all fun x => match x with | .tuple _ => false | .none => false | _ => true))
def sortD (xs : List D) : List D := xs.mergeSort (PySem.W.dataLe false id)
def sortR (xs : List D) : Rs (List D) := if sortOk xs then .ok (sortD xs) else .bad
def lenR : List R → Rs R
  | [.d (.str x)] => fit x.length (.ok (.d (.int x.length)))
  | [a] => match a.seq? with
    | some xs => .ok (.d (.int xs.length))
    | none => .bad
  | _ => .bad
def intR : List R → Rs R
  | [.d (.int i)] => .ok (.d (.int i))
  | [.d (.bool c)] => .ok (.d (.int (if c then 1 else 0)))
  | [.d (.str x)] => match PySem.intText? x with
    | some n => if x.length ≤ 600 then .ok (.d (.int n)) else .bad
    | none => .bad
  | _ => .bad
def tupleR : List R → Rs R
  | [.d (.tuple xs)] => .ok (.d (.tuple xs))
  | [a] => match a.lst? with
    | some xs => .ok (.d (.tuple xs))
    | none => .bad
  | _ => .bad
def listR : List R → Rs R
  | [a] => match a.seq? with
    | some xs => .ok (.l xs)
    | none => .bad
  | _ => .bad
def maxR : List R → Rs R
  | [.d (.int i), .d (.int j)] => .ok (.d (.int (if j > i then j else i)))
  | [.d (.tuple xs), .d (.tuple ys)] => match ints? xs, ints? ys with
    | some a, some b => .ok (.d (.tuple (if HT.lexLt a b then ys else xs)))
    | _, _ => .bad
  | _ => .bad
def minR : List R → Rs R
  | [.d (.int i), .d (.int j)] => .ok (.d (.int (if j < i then j else i)))
  | [.d (.tuple xs), .d (.tuple ys)] => match ints? xs, ints? ys with
    | some a, some b => .ok (.d (.tuple (if HT.lexLt b a then ys else xs)))
    | _, _ => .bad
  | _ => .bad
/-- the least of a list of data -/
def leastOk (xs : List D) : Bool := (xs.all fun x => xs.all fun y => PySem.W.alike x y) && (xs.all fun x => decide (x.depth ≤ 60)) && (xs.all fun x => match x with | .none => false | _ => true)
def min1R : List R → Rs R
  | [a] => match a.lst? with
    | some (x :: xs) => if leastOk (x :: xs) then .ok (.d (xs.foldl (fun a y => if PySem.W.dataLt y a then y else a) x)) else .bad
    | _ => .bad
  | _ => .bad
def allR : List R → Rs R
  | [a] => match a.lst? with
    | some xs => match bools? xs with
      | some bs => .ok (.d (.bool (bs.all id)))
      | none => .bad
    | none => .bad
  | _ => .bad
def anyR : List R → Rs R
  | [a] => match a.lst? with
    | some xs => match bools? xs with
      | some bs => .ok (.d (.bool (bs.any id)))
      | none => .bad
    | none => .bad
  | _ => .bad
def sumR : List R → Rs R
  | [a] => match a.lst? with
    | some xs => match ints? xs with
      | some ns => .ok (.d (.int ns.sum))
      | none => .bad
    | none => .bad
  | _ => .bad
def strR : List R → Rs R
  | [.d (.int i)] => if 0 ≤ i ∧ i < 1000000 then .ok (.d (.str (toString i))) else .bad
  | _ => .bad
def sortedR : List R → Rs R
  | [a] => match a.lst? with
    | some xs => sortR xs >>= fun ys => .ok (.l ys)
    | none => .bad
  | _ => .bad
/-- tuples of ints -/
def tints? : List D → Option (List (List Int))
  | [] => some []
  | .tuple xs :: r => match ints? xs, tints? r with
    | some ns, some l => some (ns :: l)
    | _, _ => none
  | _ :: _ => none
/-- how many different ones -/
def dcount : List (List Int) → Nat
  | [] => 0
  | k :: ks => if k ∈ ks then dcount ks else dcount ks + 1
def lensetR : List R → Rs R
  | [a] => match a.lst? with
    | some xs => match tints? xs with
      | some ks => if ks.length < 64 then .ok (.d (.int (dcount ks : Nat))) else .bad
      | none => .bad
    | none => .bad
  | _ => .bad
def bltR : Bf → List R → Rs R
  | .len => lenR
  | .int => intR
  | .tuple => tupleR
  | .list => listR
  | .max => maxR
  | .min => minR
  | .all => allR
  | .any => anyR
  | .sum => sumR
  | .str => strR
  | .sorted => sortedR
  | .lenset => lensetR
  | .sortset => fun _ => .bad
  | .min1 => min1R
def setAll : List Nat → List D → Sto → Sto
  | i :: is, x :: xs, ρ => setAll is xs (ρ.set i (some (.d x)))
  | _, _, ρ => ρ
def setT : Tg → D → Sto → Rs Sto
  | .nm i, x, ρ => .ok (ρ.set i (some (.d x)))
  | .tp is, .tuple xs, ρ => if xs.length = is.length then .ok (setAll is xs ρ) else .bad
  | .tp _, _, _ => .bad
def Tg.own : Tg → List Nat
  | .nm i => [i]
  | .tp is => is
def wipeS (ρ : Sto) : List Nat → Sto
  | [] => ρ
  | v :: vs => (wipeS ρ vs).set v none
def rngL (i j : Int) : List D := (List.range (j - i).toNat).map fun (k : Nat) => .int (i + k)
def smallI (i : Int) : Bool := decide (-1000000 ≤ i) && decide (i ≤ 1000000)
/-- maps -/
def valM (kvs : List (List Int × D)) (k : List Int) : Option D := (kvs.find? fun kv => decide (kv.1 = k)).map (·.2)
def putM (kvs : List (List Int × D)) (k : List Int) (d : D) : List (List Int × D) :=
  if (kvs.any fun kv => decide (kv.1 = k)) = true then kvs.map (fun kv => if kv.1 = k then (kv.1, d) else kv) else kvs ++ [(k, d)]
def slotM (ρ : Sto) (i : Nat) : Option (List (List Int × D)) := match ρ[i]? with
  | some (some (.m kvs)) => some kvs
  | some (some (.n kvs)) => some kvs
  | _ => none
def slotX (ρ : Sto) (i : Nat) (k : List (List Int × D) → Rs R) : Rs R := match slotM ρ i with
  | some kvs => k kvs
  | none => .bad
def mgetR (kvs : List (List Int × D)) (ds : List D) : Rs R := match ints? ds with
  | some k => match valM kvs k with
    | some d => .ok (.d d)
    | none => .bad
  | none => .bad
def up1 (c : Nat) : Nat := if 97 ≤ c ∧ c ≤ 122 then c - 32 else c
def uppR : R → Rs R
  | .d (.str x) => if x.cps.all (fun c => decide (c < 128)) then fit x.length (.ok (.d (.str ⟨x.cps.map up1⟩))) else .bad
  | _ => .bad
def fndR (z : Str) : R → Rs R
  | .d (.str y) => .ok (.d (.int (Txt.find z y)))
  | _ => .bad
/-- how many different ints -/
def icount : List Int → Nat
  | [] => 0
  | k :: ks => if k ∈ ks then icount ks else icount ks + 1
def lensiR (a : R) : Rs R := match a.lst? with
  | some xs => match ints? xs with
    | some ks => if ks.length < 64 then .ok (.d (.int (icount ks : Nat))) else .bad
    | none => .bad
  | none => .bad
def dgetR (kvs : List (Str × D)) : R → Rs R
  | .d (.str z) => match kvs.lookup z with
    | some d => .ok (.d d)
    | none => .bad
  | _ => .bad
def dinR (neg : Bool) (kvs : List (Str × D)) : R → Rs Bool
  | .d (.str z) => .ok ((kvs.lookup z).isSome != neg)
  | _ => .bad
def dselR (ks : List Str) (ds : List D) : R → Rs R
  | .d (.str z) => match (ks.zip ds).lookup z with
    | some d => .ok (.d d)
    | none => .bad
  | _ => .bad
/-- each k-th item -/
def stpL (k : Nat) (xs : List D) : List D := (List.range ((xs.length + k - 1) / k)).filterMap fun i => xs[i * k]?
def stpR : R → R → Rs R
  | .d (.tuple xs), .d (.int k) => if 0 < k ∧ k < 1000000 then .ok (.d (.tuple (stpL k.toNat xs))) else .bad
  | _, _ => .bad
def enumL : Nat → List D → List D
  | _, [] => []
  | n, x :: xs => .tuple [.int n, x] :: enumL (n + 1) xs
def enumR (x : R) : Rs (List D) := x.itm >>= fun xs => .ok (enumL 0 xs)
def zipL : List D → List D → List D
  | x :: xs, y :: ys => .tuple [x, y] :: zipL xs ys
  | _, _ => []
def zipR : R → R → Rs (List D)
  | .d (.tuple xs), .d (.tuple ys) => .ok (zipL xs ys)
  | .d (.list xs), .d (.list ys) => .ok (zipL xs ys)
  | _, _ => .bad
inductive Out where
  | nx (ρ : Sto)
  | rt (r : R)
/-- a comprehension's turns -/
def lcL (t : Tg) (c : Sto → Rs Bool) (e : Sto → Rs R) (ρ : Sto) : List D → Rs (List D)
  | [] => .ok []
  | x :: xs => setT t x ρ >>= fun ρ1 => c ρ1 >>= fun k =>
    if k then e ρ1 >>= fun r => r.frz >>= fun y => lcL t c e ρ xs >>= fun ys => .ok (y :: ys)
    else lcL t c e ρ xs
def noErr {α : Type} : Rs α → Rs α
  | .err _ => .bad
  | m => m
/-- a for's turns -/
def forL (t : Tg) (b : Sto → Rs Out) : List D → Sto → Rs Out
  | [], ρ => .ok (.nx ρ)
  | x :: xs, ρ => setT t x ρ >>= fun ρ1 => b ρ1 >>= fun o => match o with
    | .nx ρ2 => forL t b xs ρ2
    | .rt r => .ok (.rt r)
/-- a while's turns -/
def whlL (c : Sto → Rs Bool) (b : Sto → Rs Out) : Nat → Sto → Rs Out
  | 0, _ => .bad
  | n + 1, ρ => c ρ >>= fun k => if k then b ρ >>= fun o => match o with
    | .nx ρ2 => whlL c b n ρ2
    | .rt r => .ok (.rt r)
    else .ok (.nx ρ)
def optI : List R → Rs (Option Int)
  | [] => .ok none
  | [.d (.int i)] => .ok (some i)
  | _ => .bad
mutual
def ev (C : Nat → List R → Rs R) : Ex → Sto → Rs R
  | .var i, ρ => match ρ[i]? with
    | some (some r) => .ok r.lend
    | _ => .bad
  | .cst x, _ => .ok (.d x)
  | .tup es, ρ => evs C es ρ >>= fun rs => frzAll rs >>= fun ds => fit ds.length (.ok (.d (.tuple ds)))
  | .lst es, ρ => evs C es ρ >>= fun rs => frzAll rs >>= fun ds => fit ds.length (.ok (.l ds))
  | .bin o a b, ρ => ev C a ρ >>= fun x => ev C b ρ >>= fun y => binR o x y
  | .neg a, ρ => ev C a ρ >>= fun x => negR x
  | .cmp o a b, ρ => ev C a ρ >>= fun x => ev C b ρ >>= fun y => boolR (cmpR o x y)
  | .chn o p a b c, ρ => ev C a ρ >>= fun x => ev C b ρ >>= fun y => cmpR o x y >>= fun k => if k then ev C c ρ >>= fun z => boolR (cmpR p y z) else .ok (.d (.bool false))
  | .and a b, ρ => ev C a ρ >>= fun x => truR x >>= fun k => if k then ev C b ρ else .ok x
  | .or a b, ρ => ev C a ρ >>= fun x => truR x >>= fun k => if k then .ok x else ev C b ρ
  | .not a, ρ => ev C a ρ >>= fun x => boolR (notB (truR x))
  | .ite c a b, ρ => evT C c ρ >>= fun k => if k then ev C a ρ else ev C b ρ
  | .idx a b, ρ => ev C a ρ >>= fun x => ev C b ρ >>= fun y => idxR x y
  | .slc a lo hi, ρ => ev C a ρ >>= fun x => (evs C lo ρ >>= optI) >>= fun l => (evs C hi ρ >>= optI) >>= fun h => slcR x l h
  | .rev a, ρ => ev C a ρ >>= fun x => revR x
  | .call f es, ρ => evs C es ρ >>= fun rs => argAll rs >>= fun as => C f as
  | .blt f es, ρ => evs C es ρ >>= fun rs => bltR f rs
  | .isi t a, ρ => ev C a ρ >>= fun x => boolR (isiR [t] x)
  | .isi2 t u a, ρ => ev C a ρ >>= fun x => boolR (isiR [t, u] x)
  | .lc t it e, ρ => evI C it ρ >>= fun xs => fit xs.length (noErr (lcL t (fun _ => .ok true) (fun ρ1 => ev C e ρ1) (wipeS ρ t.own) xs) >>= fun ys => .ok (.l ys))
  | .lcf t it c e, ρ => evI C it ρ >>= fun xs => fit xs.length (noErr (lcL t (fun ρ1 => evT C c ρ1) (fun ρ1 => ev C e ρ1) (wipeS ρ t.own) xs) >>= fun ys => .ok (.l ys))
  | .lenset a, ρ => ev C a ρ >>= fun x => lensetR [x]
  | .mget i es, ρ => slotX ρ i fun kvs => evs C es ρ >>= fun rs => frzAll rs >>= fun ds => fit ds.length (mgetR kvs ds)
  | .upp a, ρ => ev C a ρ >>= fun x => uppR x
  | .lensi a, ρ => ev C a ρ >>= fun x => lensiR x
  | .dget kvs a, ρ => ev C a ρ >>= fun x => dgetR kvs x
  | .din n kvs a, ρ => ev C a ρ >>= fun x => boolR (dinR n kvs x)
  | .dsel ks es a, ρ => evs C es ρ >>= fun rs => frzAll rs >>= fun ds => ev C a ρ >>= fun x => dselR ks ds x
  | .stp a k, ρ => ev C a ρ >>= fun x => ev C k ρ >>= fun y => stpR x y
  | .fnd z a, ρ => ev C a ρ >>= fun x => fndR z x
def evs (C : Nat → List R → Rs R) : Exs → Sto → Rs (List R)
  | .nil, _ => .ok []
  | .cons e es, ρ => ev C e ρ >>= fun x => evs C es ρ >>= fun xs => .ok (x :: xs)
def evI (C : Nat → List R → Rs R) : It → Sto → Rs (List D)
  | .seq e, ρ => ev C e ρ >>= fun x => x.itm
  | .rng1 a, ρ => ev C a ρ >>= fun x => match x with
    | .d (.int j) => if smallI j then .ok (rngL 0 j) else .bad
    | _ => .bad
  | .rng2 a b, ρ => ev C a ρ >>= fun x => ev C b ρ >>= fun y => match x, y with
    | .d (.int i), .d (.int j) => if smallI i && smallI j then .ok (rngL i j) else .bad
    | _, _ => .bad
  | .enum e, ρ => ev C e ρ >>= fun x => enumR x
  | .zip a b, ρ => ev C a ρ >>= fun x => ev C b ρ >>= fun y => zipR x y
  | .dks kvs, _ => .ok (kvs.map fun p => .str p.1)
/-- as a test -/
def evT (C : Nat → List R → Rs R) : Ex → Sto → Rs Bool
  | .and a b, ρ => evT C a ρ >>= fun k => if k then evT C b ρ else .ok false
  | .or a b, ρ => evT C a ρ >>= fun k => if k then .ok true else evT C b ρ
  | .not a, ρ => notB (evT C a ρ)
  | .cmp o a b, ρ => ev C a ρ >>= fun x => ev C b ρ >>= fun y => cmpR o x y
  | .chn o p a b c, ρ => ev C a ρ >>= fun x => ev C b ρ >>= fun y => cmpR o x y >>= fun k => if k then ev C c ρ >>= fun z => cmpR p y z else .ok false
  | .var i, ρ => (match ρ[i]? with
    | some (some r) => .ok r.lend
    | _ => .bad) >>= fun x => truR x
  | .idx a b, ρ => (ev C a ρ >>= fun x => ev C b ρ >>= fun y => idxR x y) >>= fun x => truR x
  | .call f es, ρ => (evs C es ρ >>= fun rs => argAll rs >>= fun as => C f as) >>= fun x => truR x
  | .blt f es, ρ => (evs C es ρ >>= fun rs => bltR f rs) >>= fun x => truR x
  | .isi t a, ρ => ev C a ρ >>= fun x => isiR [t] x
  | .isi2 t u a, ρ => ev C a ρ >>= fun x => isiR [t, u] x
  | .din n kvs a, ρ => ev C a ρ >>= fun x => dinR n kvs x
  | _, _ => .bad
end
/-- the own list of a slot -/
def ownX (ρ : Sto) (i : Nat) (k : List D → Rs Out) : Rs Out := match ρ[i]? with
  | some (some (.l xs)) => k xs
  | _ => .bad
def appS (ρ : Sto) (i : Nat) (xs ys : List D) : Rs Out := fit (xs.length + ys.length) (.ok (.nx (ρ.set i (some (.l (xs ++ ys))))))
def frzS (ρ : Sto) (i : Nat) : Rs Out := match ρ[i]? with
  | some (some (.l xs)) => .ok (.nx (ρ.set i (some (.d (.list xs)))))
  | _ => .bad
def ownS (ρ : Sto) (i : Nat) (r : R) : Rs Out := match r with
  | .l xs => .ok (.nx (ρ.set i (some (.l xs))))
  | _ => .bad
def putS (ρ : Sto) (i : Nat) (xs : List D) (k : R) (y : D) : Rs Out := match k with
  | .d (.int j) => if 0 ≤ j ∧ j < xs.length then .ok (.nx (ρ.set i (some (.l (xs.set j.toNat y))))) else .bad
  | _ => .bad
def rtlS (ρ : Sto) (i : Nat) : Rs Out := match ρ[i]? with
  | some (some (.l xs)) => .ok (.rt (.l xs))
  | _ => .bad
/-- the own map of a slot -/
def mapX (ρ : Sto) (i : Nat) (k : List (List Int × D) → Rs Out) : Rs Out := match ρ[i]? with
  | some (some (.n kvs)) => k kvs
  | _ => .bad
def mputS (ρ : Sto) (i : Nat) (kvs : List (List Int × D)) (ds : List D) (y : D) : Rs Out := match ints? ds with
  | some k => fit (kvs.length + 1) (.ok (.nx (ρ.set i (some (.n (putM kvs k y))))))
  | none => .bad
def rtmS (ρ : Sto) (i : Nat) : Rs Out := match ρ[i]? with
  | some (some (.n kvs)) => .ok (.rt (.m kvs))
  | _ => .bad
def masS (ρ : Sto) (i : Nat) (r : R) : Rs Out := match r with
  | .m kvs => .ok (.nx (ρ.set i (some (.m kvs))))
  | _ => .bad
/-- what the law's own words make of a refusal -/
def tryS : Rs Out → Rs Out
  | .err c => match xwd[c]? with
    | some w => .ok (.rt (.d (.str w)))
    | none => .bad
  | m => m
def retR : R → Rs Out
  | .b _ => .bad
  | .n _ => .bad
  | .q => .bad
  | r => .ok (.rt r)
mutual
def x1 (C : Nat → List R → Rs R) : Sm → Sto → Rs Out
  | .asg t e, ρ => ev C e ρ >>= fun r => r.frz >>= fun x => setT t x ρ >>= fun ρ1 => .ok (.nx ρ1)
  | .own i e, ρ => ev C e ρ >>= fun r => ownS ρ i r
  | .par i j x y, ρ => (ev C x ρ >>= fun a => ev C y ρ >>= fun b => .ok [a, b]) >>= fun rs => frzAll rs >>= fun ds => if ds.length = 2 then .ok (.nx (setAll [i, j] ds ρ)) else .bad
  | .app i e, ρ => ownX ρ i fun xs => ev C e ρ >>= fun r => r.frz >>= fun x => appS ρ i xs [x]
  | .ext i e, ρ => ownX ρ i fun xs => ev C e ρ >>= fun r => match r.lst? with
    | some ys => appS ρ i xs ys
    | none => .bad
  | .put i k e, ρ => ownX ρ i fun xs => ev C e ρ >>= fun r => r.frz >>= fun y => ev C k ρ >>= fun j => putS ρ i xs j y
  | .frz i, ρ => frzS ρ i
  | .ifs c a b, ρ => evT C c ρ >>= fun k => if k then xs C a ρ else xs C b ρ
  | .for_ t it b, ρ => evI C it ρ >>= fun l => forL t (fun ρ1 => xs C b ρ1) l ρ
  | .whl c b, ρ => whlL (fun ρ1 => evT C c ρ1) (fun ρ1 => xs C b ρ1) 5000 ρ
  | .ret e, ρ => ev C e ρ >>= fun r => retR r
  | .rtl i, ρ => rtlS ρ i
  | .rse c, _ => .err c
  | .pas, ρ => .ok (.nx ρ)
  | .nev, _ => .bad
  | .exp e, ρ => ev C e ρ >>= fun _ => .ok (.nx ρ)
  | .mnew i, ρ => .ok (.nx (ρ.set i (some (.n []))))
  | .mput i es e, ρ => mapX ρ i fun kvs => ev C e ρ >>= fun r => r.frz >>= fun y => evs C es ρ >>= fun rs => frzAll rs >>= fun ds => fit ds.length (mputS ρ i kvs ds y)
  | .rtm i, ρ => rtmS ρ i
  | .mas i e, ρ => ev C e ρ >>= fun r => masS ρ i r
  | .tryw _ b, ρ => tryS (xs C b ρ)
def xs (C : Nat → List R → Rs R) : Sms → Sto → Rs Out
  | .nil, ρ => .ok (.nx ρ)
  | .cons s ss, ρ => x1 C s ρ >>= fun o => match o with
    | .nx ρ1 => xs C ss ρ1
    | .rt r => .ok (.rt r)
end
/-- a def: how many names, its body -/
structure Fn where
  np : Nat
  n : Nat
  body : Sms
def startS (n : Nat) (as : List R) : Sto := as.map some ++ List.replicate (n - as.length) none
def outR (m : Rs Out) : Rs R := m >>= fun o => match o with
  | .nx _ => .ok (.d .none)
  | .rt r => .ok r
/-- n calls deep -/
def call (T : Nat → Option Fn) : Nat → Nat → List R → Rs R
  | 0, _, _ => .bad
  | n + 1, f, as => match T f with
    | some d => if as.length = d.np then outR (xs (call T n) d.body (startS d.n as)) else .bad
    | none => .bad
theorem lexLt_dec : ∀ xs ys : List Int, HT.lexLt xs ys = decide (xs < ys)
  | [], [] => by simp [HT.lexLt]
  | [], y :: ys => by simp [HT.lexLt]
  | x :: xs, [] => by simp [HT.lexLt]
  | x :: xs, y :: ys => by
    have := lexLt_dec xs ys
    simp only [HT.lexLt, this, List.cons_lt_cons_iff]
    by_cases h : x = y
    · subst h; simp
    · simp [h]
end PP

set_option Elab.async false
set_option linter.all false
set_option autoImplicit false
set_option maxRecDepth 100000
namespace PP
open PySem L2
/-! ### data in a heap that never changes -/
mutual
inductive Dn (K : PySem.W.Frag) (F : Hp) : V → D → Prop
  | non : Dn K F .non .none
  | bl (b : Bool) : Dn K F (.bl b) (.bool b)
  | int (i : Int) : Dn K F (.int i) (.int i)
  | str (x : Str) (h : PyData.strOk x = true) : Dn K F (.str x) (.str x)
  | lst {a : Addr} {xs : List V} {ds : List D} : F a = some (.lst xs) → DnAll K F xs ds → Dn K F (.ref a) (.list ds)
  | tup {a : Addr} {xs : List V} {ds : List D} : SqT K F a xs → DnAll K F xs ds → Dn K F (.ref a) (.tuple ds)
inductive DnAll (K : PySem.W.Frag) (F : Hp) : List V → List D → Prop
  | nil : DnAll K F [] []
  | cons {v : V} {vs : List V} {d : D} {ds : List D} : Dn K F v d → DnAll K F vs ds → DnAll K F (v :: vs) (d :: ds)
end
section
variable {K : PySem.W.Frag} {F F' H H' : Hp}
theorem same_rd {a : Addr} {u : HO} (e : Same F F') (h : Rd F a u) : Rd F' a u := by
  rcases h with h | ⟨o, h⟩
  · exact .inl (e a _ h)
  · exact .inr ⟨o, e a _ h⟩
theorem same_t {a : Addr} {xs : List V} (e : Same F F') (h : SqT K F a xs) : SqT K F' a xs := by
  rcases h with h | h
  · exact .inl (same_rd e h)
  · exact .inr h
mutual
theorem Dn.mono (e : Same F F') : ∀ {v : V} {d : D}, Dn K F v d → Dn K F' v d
  | _, _, .non => .non
  | _, _, .bl b => .bl b
  | _, _, .int i => .int i
  | _, _, .str x h => .str x h
  | _, _, .lst r t => .lst (e _ _ r) (DnAll.mono e t)
  | _, _, .tup r t => .tup (same_t e r) (DnAll.mono e t)
theorem DnAll.mono (e : Same F F') : ∀ {vs : List V} {ds : List D}, DnAll K F vs ds → DnAll K F' vs ds
  | _, _, .nil => .nil
  | _, _, .cons r t => .cons (Dn.mono e r) (DnAll.mono e t)
end
mutual
theorem Dn.dp : ∀ {v : V} {d : D}, Dn K F v d → Dp K F v d
  | _, _, .non => .non
  | _, _, .bl b => .bl b
  | _, _, .int i => .int i
  | _, _, .str x _ => .str x
  | _, _, .lst r t => .lst (.inl (.inl r)) (DnAll.dp t)
  | _, _, .tup r t => .tup r (DnAll.dp t)
theorem DnAll.dp : ∀ {vs : List V} {ds : List D}, DnAll K F vs ds → DpAll K F vs ds
  | _, _, .nil => .nil
  | _, _, .cons r t => .cons (Dn.dp r) (DnAll.dp t)
end
mutual
theorem Dn.lay : ∀ {v : V} {d : D}, Dn K F v d → d.canLay0 = true
  | _, _, .non => rfl
  | _, _, .bl b => rfl
  | _, _, .int i => rfl
  | _, _, .str x h => by simpa [PyData.canLay0] using h
  | _, _, .lst r t => by simpa [PyData.canLay0] using DnAll.lay t
  | _, _, .tup r t => by simpa [PyData.canLay0] using DnAll.lay t
theorem DnAll.lay : ∀ {vs : List V} {ds : List D}, DnAll K F vs ds → PyData.canLayAll0 ds = true
  | _, _, .nil => by simp [PyData.canLayAll0]
  | _, _, .cons r t => by simp [PyData.canLayAll0, Dn.lay r, DnAll.lay t]
end
theorem DnAll.length {vs : List V} {ds : List D} (h : DnAll K F vs ds) : vs.length = ds.length := by
  have : ∀ {vs : List V} {ds : List D}, DnAll K F vs ds → vs.length = ds.length := fun {vs ds} => by
    induction vs generalizing ds with
    | nil => intro h; cases h; rfl
    | cons v vs ih => intro h; cases h with | cons r t => simp [ih t]
  exact this h
theorem DnAll.get : ∀ {vs : List V} {ds : List D} {i : Nat} {v : V}, DnAll K F vs ds → vs[i]? = some v → ∃ d, ds[i]? = some d ∧ Dn K F v d
  | [], _, _, _, _, e => by simp at e
  | v :: vs, _, 0, _, .cons r _, e => by simp at e; subst e; exact ⟨_, rfl, r⟩
  | v :: vs, _, i + 1, w, .cons _ t, e => by
    obtain ⟨d, h1, h2⟩ := DnAll.get (i := i) (v := w) t (by simpa using e)
    exact ⟨d, by simpa using h1, h2⟩
theorem DnAll.getD : ∀ {vs : List V} {ds : List D} {i : Nat} {d : D}, DnAll K F vs ds → ds[i]? = some d → ∃ v, vs[i]? = some v ∧ Dn K F v d
  | _, [], _, _, _, e => by simp at e
  | _, d :: ds, 0, _, .cons r _, e => by simp at e; subst e; exact ⟨_, rfl, r⟩
  | _, d :: ds, i + 1, w, .cons _ t, e => by
    obtain ⟨v, h1, h2⟩ := DnAll.getD (i := i) (d := w) t (by simpa using e)
    exact ⟨v, by simpa using h1, h2⟩
theorem DnAll.append : ∀ {vs ws : List V} {ds es : List D}, DnAll K F vs ds → DnAll K F ws es → DnAll K F (vs ++ ws) (ds ++ es)
  | [], _, [], _, _, h => h
  | [], _, _ :: _, _, h, _ => by cases h
  | v :: vs, _, _, _, .cons r t, h => .cons r (DnAll.append t h)
theorem DnAll.take : ∀ {vs : List V} {ds : List D} (n : Nat), DnAll K F vs ds → DnAll K F (vs.take n) (ds.take n)
  | _, _, 0, _ => by simp; exact .nil
  | _, _, _ + 1, .nil => .nil
  | _, _, n + 1, .cons r t => .cons r (DnAll.take n t)
theorem DnAll.drop : ∀ {vs : List V} {ds : List D} (n : Nat), DnAll K F vs ds → DnAll K F (vs.drop n) (ds.drop n)
  | _, _, 0, h => h
  | _, _, _ + 1, .nil => .nil
  | _, _, n + 1, .cons _ t => DnAll.drop n t
theorem DnAll.rep {vs : List V} {ds : List D} (h : DnAll K F vs ds) : ∀ k : Nat, DnAll K F (List.replicate k vs).flatten (List.replicate k ds).flatten
  | 0 => .nil
  | k + 1 => by
    rw [List.replicate_succ, List.replicate_succ, List.flatten_cons, List.flatten_cons]
    exact DnAll.append h (DnAll.rep h k)
theorem DnAll.nil_iff {vs : List V} {ds : List D} (h : DnAll K F vs ds) : vs = [] ↔ ds = [] := by
  cases h <;> simp
theorem DnAll.isEmpty {vs : List V} {ds : List D} (h : DnAll K F vs ds) : vs.isEmpty = ds.isEmpty := by
  cases h <;> rfl
theorem DnAll.reverse : ∀ {vs : List V} {ds : List D}, DnAll K F vs ds → DnAll K F vs.reverse ds.reverse
  | _, _, .nil => .nil
  | _, _, .cons r t => by
    rw [List.reverse_cons, List.reverse_cons]
    exact (DnAll.reverse t).append (.cons r .nil)

/-! ### heaps that grow -/
structure Grow (F H F' H' : Hp) : Prop where
  fr : Same F F'
  hp : Same H H'
  sub : Same F' H'
  old : ∀ a o, H a = some o → F' a = F a
theorem Grow.refl (h : Same F H) : Grow F H F H := ⟨Same.refl F, Same.refl H, h, fun _ _ _ => rfl⟩
theorem Grow.trans {F1 H1 F2 H2 : Hp} (g : Grow F H F1 H1) (k : Grow F1 H1 F2 H2) : Grow F H F2 H2 :=
  ⟨g.fr.trans k.fr, g.hp.trans k.hp, k.sub, fun a o e => (k.old a o (g.hp a o e)).trans (g.old a o e)⟩
theorem same_new {p : Addr} {o : HO} (h : H p = none) : Same H (upd H p o) := fun b u q => by rw [upd_ne (ne_of_none q h)]; exact q
/-- a new object, not frozen -/
theorem Grow.own {p : Addr} {o : HO} (s : Same F H) (h : H p = none) : Grow F H F (upd H p o) :=
  ⟨Same.refl F, same_new h, s.trans (same_new h), fun _ _ _ => rfl⟩
/-- a new object, frozen at once -/
theorem Grow.new {p : Addr} {o : HO} (s : Same F H) (h : H p = none) : Grow F H (upd F p o) (upd H p o) := by
  refine ⟨same_new (s.free h), same_new h, fun b u q => ?_, fun a u e => upd_ne (ne_of_none e h)⟩
  by_cases hb : b = p
  · subst hb; rw [upd_same] at q ⊢; exact q
  · rw [upd_ne hb] at q ⊢; exact s b u q
/-- an object that is not frozen is frozen as it stands -/
theorem Grow.freeze {p : Addr} {o : HO} {H0 F0 : Hp} (g : Grow F0 H0 F H) (h0 : H0 p = none) (hf : F p = none) (h : H p = some o) : Grow F0 H0 (upd F p o) H := by
  refine ⟨g.fr.trans (same_new hf), g.hp, fun b u q => ?_, fun a u e => ?_⟩
  · by_cases hb : b = p
    · subst hb; rw [upd_same] at q; rw [← q]; exact h
    · rw [upd_ne hb] at q; exact g.sub b u q
  · rw [upd_ne (ne_of_none e h0)]; exact g.old a u e

/-! ### maps: keys tuples of ints -/
def kI (ks : List Int) : List L2.Key := ks.map Sum.inl
inductive KD (K : PySem.W.Frag) (F : Hp) : List (List L2.Key × V) → List (List Int × D) → Prop
  | nil : KD K F [] []
  | cons {k : List Int} {v : V} {d : D} {ps : List (List L2.Key × V)} {qs : List (List Int × D)} : Dn K F v d → KD K F ps qs → KD K F ((kI k, v) :: ps) ((k, d) :: qs)
theorem KD.mono (e : Same F F') : ∀ {ps : List (List L2.Key × V)} {qs : List (List Int × D)}, KD K F ps qs → KD K F' ps qs
  | _, _, .nil => .nil
  | _, _, .cons r t => .cons (Dn.mono e r) (KD.mono e t)
/-! ### what a result denotes -/
/-- H0: the heap before the evaluation -/
def Den (K : PySem.W.Frag) (H0 F H : Hp) (v : V) : R → Prop
  | .d x => Dn K F v x
  | .l xs => ∃ a vs, v = .ref a ∧ H0 a = none ∧ F a = none ∧ H a = some (.lst vs) ∧ DnAll K F vs xs
  | .b xs => ∃ a vs, v = .ref a ∧ F a = none ∧ H a = some (.lst vs) ∧ DnAll K F vs xs
  | .s xs => ∃ a vs, v = .ref a ∧ SqL K F a vs ∧ DnAll K F vs xs
  | .m kvs => ∃ a ps, v = .ref a ∧ F a = some (.dT ps) ∧ KD K F ps kvs
  | .n _ => False
  | .q => True
theorem same_l {a : Addr} {xs : List V} (e : Same F F') (h : SqL K F a xs) : SqL K F' a xs := e.seq h
theorem Den.grow {H0 : Hp} {v : V} {r : R} (h : Den K H0 F H v r) (g : Grow F H F' H') : Den K H0 F' H' v r := by
  cases r with
  | d x => exact Dn.mono g.fr h
  | l xs =>
    obtain ⟨a, vs, e, h0, hf, hh, t⟩ := h
    exact ⟨a, vs, e, h0, (g.old a _ hh).trans hf, g.hp _ _ hh, t.mono g.fr⟩
  | b xs =>
    obtain ⟨a, vs, e, hf, hh, t⟩ := h
    exact ⟨a, vs, e, (g.old a _ hh).trans hf, g.hp _ _ hh, t.mono g.fr⟩
  | s xs =>
    obtain ⟨a, vs, e, hh, t⟩ := h
    exact ⟨a, vs, e, same_l g.fr hh, t.mono g.fr⟩
  | m kvs =>
    obtain ⟨a, ps, e, hh, t⟩ := h
    exact ⟨a, ps, e, g.fr _ _ hh, t.mono g.fr⟩
  | n kvs => exact h
  | q => exact h
theorem Den.back {H0 H1 : Hp} {v : V} {r : R} (s : Same H0 H1) (h : Den K H1 F H v r) : Den K H0 F H v r := by
  cases r with
  | d x => exact h
  | l xs =>
    obtain ⟨a, vs, e, h0, r⟩ := h
    exact ⟨a, vs, e, s.free h0, r⟩
  | b xs => exact h
  | s xs => exact h
  | m xs => exact h
  | n xs => exact h
  | q => exact h
/-- lists, as operands -/
theorem Den.lst {H0 : Hp} {v : V} {r : R} {xs : List D} (s : Same F H) (h : Den K H0 F H v r) (e : r.lst? = some xs) : ∃ a vs, v = .ref a ∧ H a = some (.lst vs) ∧ DnAll K F vs xs := by
  cases r with
  | d x =>
    cases x with
    | list ys =>
      cases e
      cases h with
      | lst r t => exact ⟨_, _, rfl, s _ _ r, t⟩
    | _ => cases e
  | l ys =>
    cases e
    obtain ⟨a, vs, e, h0, hf, hh, t⟩ := h
    exact ⟨a, vs, e, hh, t⟩
  | b ys =>
    cases e
    obtain ⟨a, vs, e, hf, hh, t⟩ := h
    exact ⟨a, vs, e, hh, t⟩
  | s ys => cases e
  | m ys => cases e
  | n ys => cases e
  | q => cases e
theorem Den.seq {H0 : Hp} {v : V} {r : R} {xs : List D} (s : Same F H) (h : Den K H0 F H v r) (e : r.seq? = some xs) : ∃ a vs, v = .ref a ∧ (SqL K H a vs ∨ SqT K H a vs) ∧ DnAll K F vs xs := by
  by_cases hl : r.lst? = some xs
  · obtain ⟨a, vs, e1, r1, t1⟩ := h.lst s hl
    exact ⟨a, vs, e1, .inl (.inl (.inl r1)), t1⟩
  · cases r with
    | d x =>
      cases x with
      | list ys => exact absurd e hl
      | tuple ys =>
        cases e
        cases h with
        | tup r t => exact ⟨_, _, rfl, .inr (same_t s r), t⟩
      | _ => cases e
    | l ys => exact absurd e hl
    | b ys => exact absurd e hl
    | s ys =>
      cases e
      obtain ⟨a, vs, e, hh, t⟩ := h
      exact ⟨a, vs, e, .inl (same_l s hh), t⟩
    | m ys => cases e
    | n ys => cases e
    | q => cases e
/-- read as a datum -/
theorem Den.see {H0 : Hp} {v : V} {r : R} (s : Same F H) (h : Den K H0 F H v r) (hd : r.isD = true) : Dp K H v r.see ∧ r.see.canLay0 = true := by
  cases r with
  | d x => exact ⟨(Dn.mono s h).dp, Dn.lay h⟩
  | l ys =>
    obtain ⟨a, vs, rfl, h0, hf, hh, t⟩ := h
    exact ⟨.lst (.inl (.inl hh)) (t.mono s).dp, by simpa [R.see, PyData.canLay0] using t.lay⟩
  | b ys =>
    obtain ⟨a, vs, rfl, hf, hh, t⟩ := h
    exact ⟨.lst (.inl (.inl hh)) (t.mono s).dp, by simpa [R.see, PyData.canLay0] using t.lay⟩
  | s ys =>
    obtain ⟨a, vs, rfl, hh, t⟩ := h
    exact ⟨.lst (same_l s hh) (t.mono s).dp, by simpa [R.see, PyData.canLay0] using t.lay⟩
  | m ys => cases hd
  | n ys => cases hd
  | q => cases hd

/-! ### answers -/
abbrev EX := Nat → Hp → Prop
def Ans (K : PySem.W.Frag) (E : EX) (m : Rs R) (F H : Hp) (Q : VK) : Prop :=
  match m with
  | .bad => False
  | .err c => ∀ F' H', Grow F H F' H' → E c H'
  | .ok r => ∀ v F' H', Grow F H F' H' → Den K H F' H' v r → Q v H'
theorem Ans.grow {E : EX} {m : Rs R} {Q : VK} (h : Ans K E m F H Q) (g : Grow F H F' H') : Ans K E m F' H' Q := by
  cases m with
  | bad => exact h
  | err c => exact fun F2 H2 g2 => h F2 H2 (g.trans g2)
  | ok r => exact fun v F2 H2 g2 d => h v F2 H2 (g.trans g2) (d.back g.hp)
/-- the answer to anything -/
def AnsG {α : Type} (E : EX) (P : α → Hp → Hp → Prop) (m : Rs α) (F H : Hp) : Prop :=
  match m with
  | .bad => False
  | .err c => ∀ F' H', Grow F H F' H' → E c H'
  | .ok r => P r F H
theorem Ans.bind {E : EX} {m : Rs R} {k : R → Rs R} {Q Q1 : VK} (h : Ans K E (m >>= k) F H Q)
    (hk : ∀ x, Ans K E (k x) F H Q → ∀ v F1 H1, Grow F H F1 H1 → Den K H F1 H1 v x → Q1 v H1) : Ans K E m F H Q1 := by
  cases m with
  | bad => exact h
  | err c => exact h
  | ok r => exact hk r h
end

/-! ### stores -/
def SlOk (K : PySem.W.Frag) (F H : Hp) (r : R) (v : V) : Prop :=
  match r with
  | .d x => Dn K F v x
  | .l xs => ∃ a vs, v = .ref a ∧ F a = none ∧ H a = some (.lst vs) ∧ DnAll K F vs xs
  | .b _ => False
  | .s xs => ∃ a vs, v = .ref a ∧ SqL K F a vs ∧ DnAll K F vs xs
  | .m kvs => ∃ a ps, v = .ref a ∧ F a = some (.dT ps) ∧ KD K F ps kvs
  | .n kvs => ∃ a ps, v = .ref a ∧ F a = none ∧ H a = some (.dT ps) ∧ KD K F ps kvs
  | .q => False
structure Rel (K : PySem.W.Frag) (ρ : Sto) (σ : St) (F H : Hp) : Prop where
  len : ρ.length = σ.length
  sub : Same F H
  slot : ∀ (i : Nat) r, ρ[i]? = some (some r) → ∃ v, σ[i]? = some (some v) ∧ SlOk K F H r v
  apart : ∀ (i j : Nat) a r q, ρ[i]? = some (some r) → ρ[j]? = some (some q) → r.isOwn = true → q.isOwn = true → σ[i]? = some (some (.ref a)) → σ[j]? = some (some (.ref a)) → i = j
section
variable {K : PySem.W.Frag} {ρ : Sto} {σ : St} {F F' H H' : Hp}
theorem SlOk.grow {r : R} {v : V} (h : SlOk K F H r v) (g : Grow F H F' H') : SlOk K F' H' r v := by
  cases r with
  | d x => exact Dn.mono g.fr h
  | l xs =>
    obtain ⟨a, vs, e, hf, hh, t⟩ := h
    exact ⟨a, vs, e, (g.old a _ hh).trans hf, g.hp _ _ hh, t.mono g.fr⟩
  | b xs => exact h
  | s xs =>
    obtain ⟨a, vs, e, hh, t⟩ := h
    exact ⟨a, vs, e, same_l g.fr hh, t.mono g.fr⟩
  | m kvs =>
    obtain ⟨a, ps, e, hh, t⟩ := h
    exact ⟨a, ps, e, g.fr _ _ hh, t.mono g.fr⟩
  | n kvs =>
    obtain ⟨a, ps, e, hf, hh, t⟩ := h
    exact ⟨a, ps, e, (g.old a _ hh).trans hf, g.hp _ _ hh, t.mono g.fr⟩
  | q => exact h
theorem Rel.grow (h : Rel K ρ σ F H) (g : Grow F H F' H') : Rel K ρ σ F' H' :=
  ⟨h.len, g.sub, fun i r e => let ⟨v, e1, q⟩ := h.slot i r e; ⟨v, e1, q.grow g⟩, h.apart⟩
end

/-- THE READING of an expression with the pure meaning f -/
def tOf (K : PySem.W.Frag) (E : EX) (f : Sto → Rs R) : TE := fun σ H Q => ∃ ρ F, Rel K ρ σ F H ∧ Ans K E (f ρ) F H Q
/-- of a test -/
def AnsT (E : EX) (m : Rs Bool) (F H : Hp) (Q : Bool → Hp → Prop) : Prop :=
  match m with
  | .bad => False
  | .err c => ∀ F' H', Grow F H F' H' → E c H'
  | .ok b => ∀ F' H', Grow F H F' H' → Q b H'
def tOfT (K : PySem.W.Frag) (E : EX) (f : Sto → Rs Bool) : TT := fun σ H Q => ∃ ρ F, Rel K ρ σ F H ∧ AnsT E (f ρ) F H Q
/-- of arguments -/
def DenAll (K : PySem.W.Frag) (H0 F H : Hp) : List V → List R → Prop
  | [], [] => True
  | v :: vs, r :: rs => Den K H0 F H v r ∧ DenAll K H0 F H vs rs
  | _, _ => False
def AnsA (K : PySem.W.Frag) (E : EX) (m : Rs (List R)) (F H : Hp) (Q : List V → Hp → Prop) : Prop :=
  match m with
  | .bad => False
  | .err c => ∀ F' H', Grow F H F' H' → E c H'
  | .ok rs => ∀ vs F' H', Grow F H F' H' → DenAll K H F' H' vs rs → Q vs H'
def tOfA (K : PySem.W.Frag) (E : EX) (f : Sto → Rs (List R)) : TA := fun σ H Q => ∃ ρ F, Rel K ρ σ F H ∧ AnsA K E (f ρ) F H Q
section
variable {K : PySem.W.Frag} {F F' H H' : Hp} {E : EX}
theorem AnsT.grow {m : Rs Bool} {Q : Bool → Hp → Prop} (h : AnsT E m F H Q) (g : Grow F H F' H') : AnsT E m F' H' Q := by
  cases m with
  | bad => exact h
  | err c => exact fun F2 H2 g2 => h F2 H2 (g.trans g2)
  | ok r => exact fun F2 H2 g2 => h F2 H2 (g.trans g2)
theorem DenAll.grow {H0 : Hp} : ∀ {vs : List V} {rs : List R}, DenAll K H0 F H vs rs → Grow F H F' H' → DenAll K H0 F' H' vs rs
  | [], [], _, _ => trivial
  | _ :: _, _ :: _, ⟨a, b⟩, g => ⟨a.grow g, DenAll.grow b g⟩
theorem DenAll.back {H0 H1 : Hp} (s : Same H0 H1) : ∀ {vs : List V} {rs : List R}, DenAll K H1 F H vs rs → DenAll K H0 F H vs rs
  | [], [], _ => trivial
  | _ :: _, _ :: _, ⟨a, b⟩ => ⟨a.back s, DenAll.back s b⟩
theorem AnsA.grow {m : Rs (List R)} {Q : List V → Hp → Prop} (h : AnsA K E m F H Q) (g : Grow F H F' H') : AnsA K E m F' H' Q := by
  cases m with
  | bad => exact h
  | err c => exact fun F2 H2 g2 => h F2 H2 (g.trans g2)
  | ok r => exact fun vs F2 H2 g2 d => h vs F2 H2 (g.trans g2) (d.back g.hp)
/-- sequencing: what is asked of the first part -/
theorem Ans.bindT {m : Rs R} {k : R → Rs Bool} {Q : Bool → Hp → Prop} {Q1 : VK} (h : AnsT E (m >>= k) F H Q)
    (hk : ∀ x, AnsT E (k x) F H Q → ∀ v F1 H1, Grow F H F1 H1 → Den K H F1 H1 v x → Q1 v H1) : Ans K E m F H Q1 := by
  cases m with
  | bad => exact h
  | err c => exact h
  | ok r => exact hk r h
theorem AnsT.bind {m : Rs Bool} {k : Bool → Rs R} {Q : VK} {Q1 : Bool → Hp → Prop} (h : Ans K E (m >>= k) F H Q)
    (hk : ∀ x, Ans K E (k x) F H Q → ∀ F1 H1, Grow F H F1 H1 → Q1 x H1) : AnsT E m F H Q1 := by
  cases m with
  | bad => exact h
  | err c => exact h
  | ok r => exact hk r h
theorem AnsT.bindT {m : Rs Bool} {k : Bool → Rs Bool} {Q Q1 : Bool → Hp → Prop} (h : AnsT E (m >>= k) F H Q)
    (hk : ∀ x, AnsT E (k x) F H Q → ∀ F1 H1, Grow F H F1 H1 → Q1 x H1) : AnsT E m F H Q1 := by
  cases m with
  | bad => exact h
  | err c => exact h
  | ok r => exact hk r h
theorem Ans.bindA {m : Rs R} {k : R → Rs (List R)} {Q : List V → Hp → Prop} {Q1 : VK} (h : AnsA K E (m >>= k) F H Q)
    (hk : ∀ x, AnsA K E (k x) F H Q → ∀ v F1 H1, Grow F H F1 H1 → Den K H F1 H1 v x → Q1 v H1) : Ans K E m F H Q1 := by
  cases m with
  | bad => exact h
  | err c => exact h
  | ok r => exact hk r h
theorem AnsA.bind {m : Rs (List R)} {k : List R → Rs R} {Q : VK} {Q1 : List V → Hp → Prop} (h : Ans K E (m >>= k) F H Q)
    (hk : ∀ x, Ans K E (k x) F H Q → ∀ vs F1 H1, Grow F H F1 H1 → DenAll K H F1 H1 vs x → Q1 vs H1) : AnsA K E m F H Q1 := by
  cases m with
  | bad => exact h
  | err c => exact h
  | ok r => exact hk r h
theorem AnsA.bindA {m : Rs (List R)} {k : List R → Rs (List R)} {Q Q1 : List V → Hp → Prop} (h : AnsA K E (m >>= k) F H Q)
    (hk : ∀ x, AnsA K E (k x) F H Q → ∀ vs F1 H1, Grow F H F1 H1 → DenAll K H F1 H1 vs x → Q1 vs H1) : AnsA K E m F H Q1 := by
  cases m with
  | bad => exact h
  | err c => exact h
  | ok r => exact hk r h
end
end PP

set_option Elab.async false
set_option linter.all false
set_option autoImplicit false
set_option maxRecDepth 100000
set_option maxHeartbeats 1000000
namespace PP
open PySem L2
section
variable {X : Cx}
theorem pe_of {e : Expr} {t t' : TE} (h : PE X e t) (w : ∀ σ H Q, t' σ H Q → t σ H Q) : PE X e t' := ⟨fun pins s σ H Q I q => h.run pins s σ H Q I (w σ H Q q)⟩
theorem pt_of {e : Expr} {t t' : TT} (h : PT X e t) (w : ∀ σ H Q, t' σ H Q → t σ H Q) : PT X e t' := ⟨fun pins s σ H Q I q => h.run pins s σ H Q I (w σ H Q q)⟩
theorem pw_of {e : Expr} {t t' : TT} (h : PW X e t) (w : ∀ σ H Q, t' σ H Q → t σ H Q) : PW X e t' := ⟨fun wh pins s σ H Q I q => h.run wh pins s σ H Q I (w σ H Q q)⟩
theorem pa_of {es : List Expr} {t t' : TA} (h : PA X es t) (w : ∀ σ H Q, t' σ H Q → t σ H Q) : PA X es t' := ⟨fun p pins s σ H Q I q => h.run p pins s σ H Q I (w σ H Q q)⟩
end

/-- the soundness of a two-place operation on values -/
def OpS (K : PySem.W.Frag) (E : EX) (r : R2) (g : R → R → Rs R) : Prop :=
  ∀ x y v1 v2 H0 H1 F H Q, Same F H → Den K H0 F H v1 x → Den K H1 F H v2 y → Ans K E (g x y) F H Q → r v1 v2 H Q
/-- one that gives a truth value -/
def CmS (K : PySem.W.Frag) (E : EX) (r : R2) (g : R → R → Rs Bool) : Prop :=
  ∀ x y v1 v2 H0 H1 F H Q, Same F H → Den K H0 F H v1 x → Den K H1 F H v2 y → AnsT E (g x y) F H (fun b H' => Q (.bl b) H') → r v1 v2 H Q
def CallS (K : PySem.W.Frag) (E : EX) (r : List V → Hp → VK → Prop) (g : List R → Rs R) : Prop :=
  ∀ rs vs H0 F H Q, Same F H → DenAll K H0 F H vs rs → Ans K E (g rs) F H Q → r vs H Q

section
variable {X : Cx} {E : EX} {a b c : Expr} {fa fb fc : Sto → Rs R} {pos : Pos}
theorem tOp_of {r : R2} {g : R → R → Rs R} (hs : OpS X.K E r g) : ∀ σ H Q, tOf X.K E (fun ρ => fa ρ >>= fun x => fb ρ >>= fun y => g x y) σ H Q → tOp r (tOf X.K E fa) (tOf X.K E fb) σ H Q := by
  rintro σ H Q ⟨ρ, F, R, h⟩
  refine ⟨ρ, F, R, h.bind fun x hx v1 F1 H1 g1 d1 => ?_⟩
  refine ⟨ρ, F1, R.grow g1, (hx.grow g1).bind fun y hy v2 F2 H2 g2 d2 => ?_⟩
  exact hs x y v1 v2 H H1 F2 H2 Q g2.sub (d1.grow g2) d2 (hy.grow g2)
theorem q_bin {op : Operator} {r : R2} {g : R → R → Rs R} (ho : OpR X (binaryOp op) r) (hs : OpS X.K E r g) (ha : PE X a (tOf X.K E fa)) (hb : PE X b (tOf X.K E fb)) :
    PE X (.BinOp a op b pos) (tOf X.K E fun ρ => fa ρ >>= fun x => fb ρ >>= fun y => g x y) := pe_of (pe_op ho ha hb) (tOp_of hs)
theorem tCm_of {r : R2} {g : R → R → Rs Bool} (hs : CmS X.K E r g) : ∀ σ H Q, tOf X.K E (fun ρ => fa ρ >>= fun x => fb ρ >>= fun y => boolR (g x y)) σ H Q → tOp r (tOf X.K E fa) (tOf X.K E fb) σ H Q :=
  tOp_of (g := fun x y => boolR (g x y)) fun x y v1 v2 H0 H1 F H Q s d1 d2 h => hs x y v1 v2 H0 H1 F H Q s d1 d2 (by
    have h : Ans X.K E (boolR (g x y)) F H Q := h
    cases e : g x y with
    | bad => rw [e] at h; exact h
    | err c => rw [e] at h; exact h
    | ok c => rw [e] at h; exact fun F' H' gr => h (.bl c) F' H' gr (.bl c))
theorem q_cmp {op : CmpOp} {r : R2} {g : R → R → Rs Bool} (ho : OpR X (compareOp op) r) (hs : CmS X.K E r g) (ha : PE X a (tOf X.K E fa)) (hb : PE X b (tOf X.K E fb)) (hm : behindInMarks op b = false) :
    PE X (.Compare a [op] [b] pos) (tOf X.K E fun ρ => fa ρ >>= fun x => fb ρ >>= fun y => boolR (g x y)) := pe_of (pe_cmpR ho ha hb hm) (tCm_of hs)
theorem q_cmpT {op : CmpOp} {r : R2} {g : R → R → Rs Bool} (ho : OpR X (compareOp op) r) (hs : CmS X.K E r g) (ha : PE X a (tOf X.K E fa)) (hb : PE X b (tOf X.K E fb)) (hm : behindInMarks op b = false) :
    PT X (.Compare a [op] [b] pos) (tOfT X.K E fun ρ => fa ρ >>= fun x => fb ρ >>= fun y => g x y) := by
  refine pt_of (pt_cmpR ho ha hb hm) fun σ H Q h => ?_
  obtain ⟨ρ, F, R, h⟩ := h
  refine ⟨ρ, F, R, Ans.bindT h fun x hx v1 F1 H1 g1 d1 => ?_⟩
  refine ⟨ρ, F1, R.grow g1, Ans.bindT (hx.grow g1) fun y hy v2 F2 H2 g2 d2 => ?_⟩
  refine hs x y v1 v2 H H1 F2 H2 _ g2.sub (d1.grow g2) d2 ?_
  have hy := hy.grow g2
  cases e : g x y with
  | bad => rw [e] at hy; exact hy
  | err c => rw [e] at hy; exact hy
  | ok c => rw [e] at hy; exact fun F' H' gr => ⟨c, rfl, hy F' H' gr⟩
end

/-! ### the operations -/
section
variable {X : Cx} {E : EX} {K : PySem.W.Frag}
def rAddStr : R2 := fun x y H Q => ∃ i j, x = .str i ∧ y = .str j ∧ i.length + j.length ≤ sizeLine ∧ Q (.str (i ++ j)) H
def rAdd (K : PySem.W.Frag) : R2 := fun x y H Q => rI0 (fun i j => .int (i + j)) x y H Q ∨ (rAddStr x y H Q ∨ (rCatA K x y H Q ∨ rCat x y H Q))
theorem op_addA : OpR X (binaryOp .Add) (rAdd X.K) := op_add.or (op_add_str.or (op_catA.or op_cat))
theorem lim_le : lim ≤ sizeLine := by decide
theorem fit_of {α : Type} {n : Nat} {k : Rs α} {P : Rs α → Prop} (h : P (fit n k)) (hb : ¬ P .bad) : n ≤ lim ∧ P k := by
  unfold fit at h
  by_cases hn : n ≤ lim
  · rw [if_pos hn] at h; exact ⟨hn, h⟩
  · rw [if_neg hn] at h; exact absurd h hb
theorem Ans.fit {n : Nat} {m : Rs R} {F H : Hp} {Q : VK} (h : Ans K E (fit n m) F H Q) : n ≤ lim ∧ Ans K E m F H Q := fit_of (P := fun m => Ans K E m F H Q) h id
theorem AnsT.fit {n : Nat} {m : Rs Bool} {F H : Hp} {Q : Bool → Hp → Prop} (h : AnsT E (fit n m) F H Q) : n ≤ lim ∧ AnsT E m F H Q := fit_of (P := fun m => AnsT E m F H Q) h id
/-- a new tuple, a new list, handed on -/
theorem Ans.newT {F H : Hp} {Q : VK} {p : Addr} {vs : List V} {xs : List D} (h : Ans K E (.ok (.d (.tuple xs))) F H Q) (s : Same F H) (hp : H p = none) (t : DnAll K F vs xs) : Q (.ref p) (upd H p (.tup vs)) := by
  have g : Grow F H (upd F p (.tup vs)) (upd H p (.tup vs)) := Grow.new s hp
  exact h _ _ _ g (.tup (.inl (.inl upd_same)) (t.mono g.fr))
theorem Ans.newL {F H : Hp} {Q : VK} {p : Addr} {vs : List V} {xs : List D} (h : Ans K E (.ok (.l xs)) F H Q) (s : Same F H) (hp : H p = none) (t : DnAll K F vs xs) : Q (.ref p) (upd H p (.lst vs)) := by
  exact h _ _ _ (Grow.own s hp) ⟨p, vs, rfl, hp, s.free hp, upd_same, t⟩
theorem Ans.val {F H : Hp} {Q : VK} {v : V} {x : D} (h : Ans K E (.ok (.d x)) F H Q) (s : Same F H) (t : Dn K F v x) : Q v H := h _ _ _ (Grow.refl s) t
theorem strOk_append {x y : Str} (hx : PyData.strOk x = true) (hy : PyData.strOk y = true) : PyData.strOk (x ++ y) = true := by
  unfold PyData.strOk at *
  show (x.cps ++ y.cps).all _ = true
  rw [Array.all_append, hx, hy]
  rfl
theorem add_s : OpS K E (rAdd K) addR := by
  intro x y v1 v2 H0 H1 F H Q s d1 d2 h
  unfold addR at h
  split at h
  · cases d1; cases d2
    exact .inl ⟨_, _, rfl, rfl, h.val s (.int _)⟩
  · obtain ⟨hz, h⟩ := h.fit
    cases d1 with
    | str _ o1 =>
      cases d2 with
      | str _ o2 => exact .inr (.inl ⟨_, _, rfl, rfl, Nat.le_trans hz lim_le, h.val s (.str _ (strOk_append o1 o2))⟩)
  · obtain ⟨hz, h⟩ := h.fit
    cases d1 with
    | tup r1 t1 =>
      cases d2 with
      | tup r2 t2 =>
        refine .inr (.inr (.inl ⟨_, _, _, _, rfl, rfl, same_t s r1, same_t s r2, by rw [t1.length, t2.length]; exact Nat.le_trans hz lim_le, fun e => ?_, fun _ e => ?_, fun _ _ p hp => h.newT s hp (t1.append t2)⟩))
        · subst e
          cases t1
          exact h.val s (.tup r2 t2)
        · subst e
          cases t2
          rw [List.append_nil] at h
          exact h.val s (.tup r1 t1)
  · split at h
    · rename_i e1 e2
      obtain ⟨hz, h⟩ := h.fit
      obtain ⟨l, vs, rfl, r1, t1⟩ := d1.lst s e1
      obtain ⟨b, ws, rfl, r2, t2⟩ := d2.lst s e2
      exact .inr (.inr (.inr ⟨l, b, vs, ws, rfl, rfl, r1, r2, by rw [t1.length, t2.length]; exact Nat.le_trans hz lim_le, fun p hp => h.newL s hp (t1.append t2)⟩))
    · exact h.elim
theorem sub_s : OpS K E (rI0 fun i j => .int (i - j)) subR := by
  intro x y v1 v2 H0 H1 F H Q s d1 d2 h
  unfold subR at h
  split at h
  · cases d1; cases d2
    exact ⟨_, _, rfl, rfl, h.val s (.int _)⟩
  · exact h.elim
theorem bnd_of {i : Int} (h : bnd i = true) : -(2 ^ 64) < i ∧ i < 2 ^ 64 := by
  unfold bnd at h
  rw [Bool.and_eq_true] at h
  exact ⟨of_decide_eq_true h.1, of_decide_eq_true h.2⟩

def rMul2 : R2 := fun x y H Q => ∃ a : Str, x = .str a ∧ y = .int 2 ∧ a.length + a.length ≤ sizeLine ∧ Q (.str (a ++ a)) H
theorem op_mul2 {X : Cx} : OpR X (binaryOp .Mult) rMul2 := by
  intro pins s σ H x y v u Q I rx ry h
  obtain ⟨a, rfl, rfl, hz, q⟩ := h
  obtain ⟨t, rfl⟩ := rx
  obtain ⟨t', rfl⟩ := ry
  refine P.mul_str (by decide) (fun _ _ => ?_) (fun _ _ => ?_) ?_
  · have : (sizeLine : Nat) ≤ 16777216 * 1024 := by decide
    omega
  · unfold Builtin.Str.tooLong
    refine decide_eq_false ?_
    show ¬ a.length * 2 > sizeLine
    omega
  · rw [if_neg (by decide)]
    by_cases h0 : a.length = 0
    · rw [if_pos (by simp [h0])]
      have e : a ++ a = a := by
        have h0' : a.cps.size = 0 := h0
        have e1 : a.cps = #[] := Array.size_eq_zero_iff.mp h0'
        show (⟨a.cps ++ a.cps⟩ : Str) = a
        cases a
        simp only at e1
        subst e1
        rfl
      rw [e] at q
      exact ⟨.str a, H, I, ⟨_, rfl⟩, q⟩
    · rw [if_neg (by simp [h0])]
      have e : (⟨(List.replicate (2 : Int).toNat a.cps).foldl (· ++ ·) #[]⟩ : Str) = a ++ a := by
        show (⟨(#[] ++ a.cps) ++ a.cps⟩ : Str) = ⟨a.cps ++ a.cps⟩
        rw [Array.empty_append]
      rw [e]
      exact ⟨by show (a.cps ++ a.cps).size ≤ sizeLine; rw [Array.size_append]; exact hz, .str (a ++ a), H, I.tok _, ⟨_, rfl⟩, q⟩
theorem mul_s : OpS K E (fun x y H Q => rI CMul (fun i j => .int (i * j)) x y H Q ∨ (rMul2 x y H Q ∨ rRep x y H Q)) mulR := by
  intro x y v1 v2 H0 H1 F H Q s d1 d2 h
  unfold mulR at h
  split at h
  · split at h
    · rename_i hc
      cases d1; cases d2
      refine .inl ⟨_, _, rfl, rfl, ?_, h.val s (.int _)⟩
      rcases Bool.or_eq_true_iff.mp hc with q | q
      · exact .inr (bnd_of q)
      · exact .inl (bnd_of q)
    · exact h.elim
  · split at h
    · rename_i hk
      subst hk
      obtain ⟨hz, h⟩ := h.fit
      cases d1 with
      | str _ hx =>
        cases d2
        exact .inr (.inl ⟨_, rfl, rfl, Nat.le_trans hz lim_le, h.val s (.str _ (strOk_append hx hx))⟩)
    · exact h.elim
  · split at h
    · rename_i e
      split at h
      · rename_i hk
        rw [Bool.and_eq_true] at hk
        have k0 := of_decide_eq_true hk.1
        have k1 := of_decide_eq_true hk.2
        obtain ⟨hz, h⟩ := h.fit
        obtain ⟨l, vs, rfl, r1, t1⟩ := d1.lst s e
        cases d2
        exact .inr (.inr ⟨l, _, vs, rfl, rfl, r1, by omega, by omega, by rw [t1.length]; exact Nat.le_trans hz lim_le, fun p hp => h.newL s hp (t1.rep _)⟩)
      · exact h.elim
    · exact h.elim
  · exact h.elim
theorem op_mulA : OpR X (binaryOp .Mult) (fun x y H Q => rI CMul (fun i j => .int (i * j)) x y H Q ∨ (rMul2 x y H Q ∨ rRep x y H Q)) := op_mul.or (op_mul2.or op_rep)
theorem mod_s : OpS K E (rI (fun _ j => 0 < j) fun i j => .int (i % j)) modR := by
  intro x y v1 v2 H0 H1 F H Q s d1 d2 h
  unfold modR at h
  split at h
  · split at h
    · rename_i hc
      cases d1; cases d2
      exact ⟨_, _, rfl, rfl, hc, h.val s (.int _)⟩
    · exact h.elim
  · exact h.elim
theorem fdiv_s : OpS K E (rI CDiv fun i j => .int (i / j)) fdivR := by
  intro x y v1 v2 H0 H1 F H Q s d1 d2 h
  unfold fdivR at h
  split at h
  · split at h
    · rename_i hc
      cases d1; cases d2
      exact ⟨_, _, rfl, rfl, ⟨hc.1, by omega⟩, h.val s (.int _)⟩
    · exact h.elim
  · exact h.elim

/-! ### comparisons -/
theorem AnsT.val {F H : Hp} {Q : Bool → Hp → Prop} {c : Bool} (h : AnsT E (.ok c) F H Q) (s : Same F H) : Q c H := h _ _ (Grow.refl s)
theorem AnsT.notB {m : Rs Bool} {F H : Hp} {Q : Bool → Hp → Prop} (h : AnsT E (notB m) F H Q) : AnsT E m F H fun b H' => Q (!b) H' := by
  cases m with
  | bad => exact h
  | err c => exact h
  | ok b => exact h
def rEqM (K : PySem.W.Frag) : R2 := fun x y H Q => ∃ d e, Dp K H x d ∧ Dp K H y e ∧ d.canLay0 = true ∧ e.canLay0 = true ∧ min d.depth e.depth ≤ 60 ∧ Q (.bl (PyData.eqv d e)) H
def rNeM (K : PySem.W.Frag) : R2 := fun x y H Q => ∃ d e, Dp K H x d ∧ Dp K H y e ∧ d.canLay0 = true ∧ e.canLay0 = true ∧ min d.depth e.depth ≤ 60 ∧ Q (.bl (!PyData.eqv d e)) H
theorem op_eqM (hu : X.A.units + 64 < cLine) : OpR X (compareOp .Eq) (rEqM X.K) := by
  intro pins s σ H x y v u Q I rx ry h
  obtain ⟨d, e, hd, he, ld, le, hm, q⟩ := h
  obtain ⟨as, r1⟩ := Dp.reads I d x v hd rx
  obtain ⟨bs, r2⟩ := Dp.reads I e y u he ry
  exact SeqAt.compareEq_reads r1 r2 ld le (by omega) ⟨V.bl _, H, I, rfl, q⟩
theorem op_neM (hu : X.A.units + 64 < cLine) : OpR X (compareOp .NotEq) (rNeM X.K) := by
  intro pins s σ H x y v u Q I rx ry h
  obtain ⟨d, e, hd, he, ld, le, hm, q⟩ := h
  obtain ⟨as, r1⟩ := Dp.reads I d x v hd rx
  obtain ⟨bs, r2⟩ := Dp.reads I e y u he ry
  exact SeqAt.compareNe_reads r1 r2 ld le (by omega) ⟨V.bl _, H, I, rfl, q⟩
theorem eq_s : CmS K E (rEqM K) eqR := by
  intro x y v1 v2 H0 H1 F H Q s d1 d2 h
  unfold eqR at h
  split at h
  · rename_i hc
    simp only [Bool.and_eq_true] at hc
    obtain ⟨p1, l1⟩ := d1.see s hc.1.1
    obtain ⟨p2, l2⟩ := d2.see s hc.1.2
    exact ⟨_, _, p1, p2, l1, l2, of_decide_eq_true hc.2, h.val s⟩
  · exact h.elim
theorem ne_s : CmS K E (rNeM K) (fun x y => notB (eqR x y)) := by
  intro x y v1 v2 H0 H1 F H Q s d1 d2 h
  replace h := h.notB
  unfold eqR at h
  split at h
  · rename_i hc
    simp only [Bool.and_eq_true] at hc
    obtain ⟨p1, l1⟩ := d1.see s hc.1.1
    obtain ⟨p2, l2⟩ := d2.see s hc.1.2
    exact ⟨_, _, p1, p2, l1, l2, of_decide_eq_true hc.2, h.val s⟩
  · exact h.elim
theorem ints_of : ∀ {xs : List D} {ns : List Int}, ints? xs = some ns → xs = ns.map PyData.int
  | [], ns, h => by cases h; rfl
  | x :: xs, ns, h => by
    cases x with
    | int i =>
      unfold ints? at h
      split at h
      · rename_i l e
        cases h
        rw [ints_of e]
        rfl
      · cases h
    | _ => cases h
theorem dn_ints {F : Hp} : ∀ {vs : List V} {ns : List Int}, DnAll K F vs (ns.map PyData.int) → vs = ns.map V.int
  | [], [], _ => rfl
  | [], _ :: _, h => by cases h
  | _ :: _, [], h => by cases h
  | v :: vs, n :: ns, h => by
    cases h with
    | cons r t =>
      cases r
      rw [dn_ints t]
      rfl
theorem lt_s : CmS K E (fun x y H Q => rI0 (fun i j => .bl (decide (i < j))) x y H Q ∨ rLtT K x y H Q) ltR := by
  intro x y v1 v2 H0 H1 F H Q s d1 d2 h
  unfold ltR at h
  split at h
  · cases d1; cases d2
    exact .inl ⟨_, _, rfl, rfl, h.val s⟩
  · split at h
    · rename_i e1 e2
      cases d1 with
      | tup r1 t1 =>
        cases d2 with
        | tup r2 t2 =>
          rw [ints_of e1] at t1
          rw [ints_of e2] at t2
          have q1 := same_t s r1
          have q2 := same_t s r2
          rw [dn_ints t1] at q1
          rw [dn_ints t2] at q2
          exact .inr ⟨_, _, _, _, rfl, rfl, q1, q2, h.val s⟩
    · exact h.elim
  · exact h.elim
theorem op_ltA (hu : X.A.units < cLine) : OpR X (compareOp .Lt) (fun x y H Q => rI0 (fun i j => .bl (decide (i < j))) x y H Q ∨ rLtT X.K x y H Q) := op_lt.or (op_ltT hu)
theorem le_s : CmS K E (rI0 (fun i j => .bl (decide (i ≤ j)))) leR := by
  intro x y v1 v2 H0 H1 F H Q s d1 d2 h
  unfold leR at h
  split at h
  · cases d1; cases d2
    exact ⟨_, _, rfl, rfl, h.val s⟩
  · exact h.elim
theorem gt_s : CmS K E (rI0 (fun i j => .bl (decide (j < i)))) gtR := by
  intro x y v1 v2 H0 H1 F H Q s d1 d2 h
  unfold gtR at h
  split at h
  · cases d1; cases d2
    exact ⟨_, _, rfl, rfl, h.val s⟩
  · exact h.elim
theorem ge_s : CmS K E (rI0 (fun i j => .bl (decide (j ≤ i)))) geR := by
  intro x y v1 v2 H0 H1 F H Q s d1 d2 h
  unfold geR at h
  split at h
  · cases d1; cases d2
    exact ⟨_, _, rfl, rfl, h.val s⟩
  · exact h.elim
/-- in: texts; lists and tuples of data -/
def rInA (K : PySem.W.Frag) (neg : Bool) : R2 := fun x y H Q =>
  (∃ i j, x = .str i ∧ y = .str j ∧ Q (.bl (if neg then !(!(Builtin.Str.occurrences j i 0 j.length 1).isEmpty) else !(Builtin.Str.occurrences j i 0 j.length 1).isEmpty)) H) ∨
  ∃ d ds, Dp K H x d ∧ (Dp K H y (.list ds) ∨ Dp K H y (.tuple ds)) ∧ d.canLay0 = true ∧ PyData.canLayAll0 ds = true ∧ d.depth ≤ 60 ∧ Q (.bl (if neg then !(ds.any fun z => PyData.eqv z d) else ds.any fun z => PyData.eqv z d)) H
theorem op_inA (hu : X.A.units + 64 < cLine) : OpR X (compareOp .In) (rInA X.K false) := by
  intro pins s σ H x y v u Q I rx ry h
  rcases h with h | ⟨d, ds, hd, he, ld, le, hm, q⟩
  · exact op_in_str pins s σ H x y v u Q I rx ry h
  · obtain ⟨as, r1⟩ := Dp.reads I d x v hd rx
    have hr : X.A.units + 1 + min (PyData.depthAll ds) d.depth < cLine := by omega
    rcases he with he | he
    · obtain ⟨bs, r2⟩ := Dp.reads I _ y u he ry
      exact SeqAt.in_list_reads r2 r1 le ld hr ⟨V.bl _, H, I, rfl, q⟩
    · obtain ⟨bs, r2⟩ := Dp.reads I _ y u he ry
      exact SeqAt.in_tuple_reads r2 r1 le ld hr ⟨V.bl _, H, I, rfl, q⟩
theorem op_ninA (hu : X.A.units + 64 < cLine) : OpR X (compareOp .NotIn) (rInA X.K true) := by
  intro pins s σ H x y v u Q I rx ry h
  rcases h with h | ⟨d, ds, hd, he, ld, le, hm, q⟩
  · exact op_notIn_str pins s σ H x y v u Q I rx ry h
  · obtain ⟨as, r1⟩ := Dp.reads I d x v hd rx
    have hr : X.A.units + 1 + min (PyData.depthAll ds) d.depth < cLine := by omega
    rcases he with he | he
    · obtain ⟨bs, r2⟩ := Dp.reads I _ y u he ry
      exact SeqAt.notIn_list_reads r2 r1 le ld hr ⟨V.bl _, H, I, rfl, q⟩
    · obtain ⟨bs, r2⟩ := Dp.reads I _ y u he ry
      exact SeqAt.notIn_tuple_reads r2 r1 le ld hr ⟨V.bl _, H, I, rfl, q⟩
theorem seq_dp {H0 F H : Hp} {v : V} {r : R} {ys : List D} (s : Same F H) (d : Den K H0 F H v r) (e : r.seq? = some ys) : (Dp K H v (.list ys) ∨ Dp K H v (.tuple ys)) ∧ PyData.canLayAll0 ys = true := by
  obtain ⟨a, vs, rfl, q, t⟩ := d.seq s e
  refine ⟨?_, t.lay⟩
  rcases q with q | q
  · exact .inl (.lst q (t.mono s).dp)
  · exact .inr (.tup q (t.mono s).dp)
theorem in_s' {neg : Bool} : CmS K E (rInA K neg) (fun x y => if neg then notB (inR x y) else inR x y) := by
  intro x y v1 v2 H0 H1 F H Q s d1 d2 h
  have h : AnsT E (inR x y) F H (fun b H' => Q (.bl (if neg then !b else b)) H') := by
    cases neg with
    | false => exact h
    | true => exact AnsT.notB h
  unfold inR at h
  split at h
  · split at h
    · cases d1; cases d2
      exact .inl ⟨_, _, rfl, rfl, h.val s⟩
    · exact h.elim
  · split at h
    · rename_i ys e
      split at h
      · rename_i hm
        simp only [Bool.and_eq_true] at hm
        obtain ⟨p1, l1⟩ := d1.see s hm.1
        obtain ⟨p2, l2⟩ := seq_dp s d2 e
        exact .inr ⟨_, ys, p1, p2, l1, l2, of_decide_eq_true hm.2, h.val s⟩
      · exact h.elim
    · exact h.elim
theorem in_s : CmS K E (rInA K false) inR := in_s' (neg := false)
theorem nin_s : CmS K E (rInA K true) (fun x y => notB (inR x y)) := in_s' (neg := true)
def rIsA (neg : Bool) : R2 := fun x y H Q => (y = .non ∧ Q (.bl (if neg then !decide (x = .non) else decide (x = .non))) H) ∨ ∃ a b : Bool, x = .bl a ∧ y = .bl b ∧ Q (.bl (if neg then !decide (a = b) else decide (a = b))) H
theorem op_isA : OpR X (compareOp .Is) (rIsA false) := op_isN.or op_isBl
theorem op_isnA : OpR X (compareOp .IsNot) (rIsA true) := op_notN.or op_notBl
theorem den_non {H0 F H : Hp} {v : V} {r : R} (d : Den K H0 F H v r) (h : ∀ x, r = .d x → x ≠ .none) (hq : r ≠ .q) : v ≠ .non := by
  intro e
  subst e
  cases r with
  | d x =>
    cases d
    exact h _ rfl rfl
  | l xs => obtain ⟨a, vs, e, _⟩ := d; cases e
  | b xs => obtain ⟨a, vs, e, _⟩ := d; cases e
  | s xs => obtain ⟨a, vs, e, _⟩ := d; cases e
  | m xs => obtain ⟨a, vs, e, _⟩ := d; cases e
  | n xs => exact d
  | q => exact hq rfl
theorem is_s' {neg : Bool} : CmS K E (rIsA neg) (fun x y => if neg then notB (isR x y) else isR x y) := by
  intro x y v1 v2 H0 H1 F H Q s d1 d2 h
  have h : AnsT E (isR x y) F H (fun b H' => Q (.bl (if neg then !b else b)) H') := by
    cases neg with
    | false => exact h
    | true => exact AnsT.notB h
  unfold isR at h
  split at h
  · exact h.elim
  · exact h.elim
  · cases d1; cases d2
    exact .inl ⟨rfl, h.val s⟩
  · rename_i hq hn' hx _
    cases d2
    have hn : v1 ≠ .non := den_non d1 (fun z e q => by subst e; subst q; exact hx rfl) (fun e => hq e)
    refine .inl ⟨rfl, ?_⟩
    rw [decide_eq_false hn]
    exact h.val s
  · cases d1; cases d2
    exact .inr ⟨_, _, rfl, rfl, h.val s⟩
  · exact h.elim
theorem is_s : CmS K E (rIsA false) isR := is_s' (neg := false)
theorem isn_s : CmS K E (rIsA true) (fun x y => notB (isR x y)) := is_s' (neg := true)

/-! ### truth -/
theorem tru_s {x : R} {v : V} {H0 F H : Hp} {Q : Bool → Hp → Prop} (s : Same F H) (d : Den K H0 F H v x) (h : AnsT E (truR x) F H Q) : ∃ k, TruV K v H k ∧ truR x = .ok k := by
  unfold truR at h ⊢
  split at h
  · cases d; exact ⟨_, rfl, rfl⟩
  · cases d; exact ⟨_, rfl, rfl⟩
  · cases d; exact ⟨_, rfl, rfl⟩
  · obtain ⟨hz, h⟩ := h.fit
    cases d
    exact ⟨_, ⟨Nat.le_trans hz lim_le, rfl⟩, fit_ok hz⟩
  · cases d with
    | lst r t => exact ⟨_, .inl ⟨_, .inl (.inl (s _ _ r)), rfl⟩, by rw [t.isEmpty]⟩
  · cases d with
    | tup r t => exact ⟨_, .inr (.inl ⟨_, same_t s r, rfl⟩), by rw [t.isEmpty]⟩
  · obtain ⟨a, vs, rfl, h0, hf, hh, t⟩ := d
    exact ⟨_, .inl ⟨_, .inl (.inl hh), rfl⟩, by rw [t.isEmpty]⟩
  · obtain ⟨a, vs, rfl, hf, hh, t⟩ := d
    exact ⟨_, .inl ⟨_, .inl (.inl hh), rfl⟩, by rw [t.isEmpty]⟩
  · exact h.elim

/-! ### items, slices -/
theorem atI_dn {F : Hp} {vs : List V} {ds : List D} {i : Int} {d : D} (t : DnAll K F vs ds) (h : atI ds i = some d) : ∃ v, atI vs i = some v ∧ Dn K F v d := by
  unfold atI at h ⊢
  rw [t.length]
  cases e : ixN ds.length i with
  | none => rw [e] at h; cases h
  | some j =>
    rw [e] at h
    obtain ⟨v, h1, h2⟩ := t.getD h
    exact ⟨v, h1, h2⟩
theorem strOk_at {x : Str} {i : Int} {c : Nat} (hx : PyData.strOk x = true) (h : atI x.cps.toList i = some c) : PyData.strOk ⟨#[c]⟩ = true := by
  obtain ⟨j, _, h2, _⟩ := atI_get h
  have hm : c ∈ x.cps.toList := List.mem_of_getElem? h2
  unfold PyData.strOk at *
  have q := Array.all_eq_true_iff_forall_mem.mp hx c (by simpa using hm)
  simp only [List.all_toArray, List.all_cons, List.all_nil, Bool.and_true]
  exact q
theorem idx_s : OpS K E (rIx K) idxR := by
  intro x y v1 v2 H0 H1 F H Q s d1 d2 h
  unfold idxR at h
  split at h
  · split at h
    · rename_i e
      obtain ⟨hz, h⟩ := h.fit
      cases d2
      cases d1 with
      | str _ o1 => exact .inr (.inr ⟨_, _, _, rfl, rfl, Nat.le_trans hz lim_le, e, h.val s (.str _ (strOk_at o1 e))⟩)
    · exact h.elim
  · split at h
    · rename_i e
      split at h
      · rename_i e2
        cases d2
        obtain ⟨a, vs, rfl, q, t⟩ := d1.seq s e
        obtain ⟨w, h1, h2⟩ := atI_dn t e2
        rcases q with q | q
        · exact .inl ⟨_, _, _, _, rfl, rfl, q, h1, h.val s h2⟩
        · exact .inr (.inl ⟨_, _, _, _, rfl, rfl, q, h1, h.val s h2⟩)
      · exact h.elim
    · exact h.elim
  · exact h.elim
theorem DnAll.cut {F : Hp} {vs : List V} {ds : List D} (t : DnAll K F vs ds) (lo hi : Option Int) : DnAll K F (cutV vs lo hi) (cutD ds lo hi) := by
  unfold cutV cutD
  rw [t.length]
  exact (t.drop _).take _
def rSl (K : PySem.W.Frag) : V → Option Int → Option Int → Hp → VK → Prop := fun x lo hi H Q => rSlA K x lo hi H Q ∨ (rSlL K x lo hi H Q ∨ rSlS x lo hi H Q)
theorem sl_A : SlR X (rSl X.K) := sl_tupA.or (sl_list.or sl_str)
theorem cut_whole {α : Type} (xs : List α) {lo hi : Option Int} (h : HT.sIx xs.length 0 lo = 0 ∧ HT.sIx xs.length xs.length hi = xs.length) : cutD xs lo hi = xs := by
  unfold cutD
  rw [h.1, h.2]
  simp
theorem strOk_cut {z : Str} {lo hi : Option Int} (hx : PyData.strOk z = true) : PyData.strOk (cutS z lo hi) = true := by
  unfold PyData.strOk cutS at *
  rw [List.all_toArray, List.all_eq_true]
  intro c hc
  have hm : c ∈ z.cps.toList := List.mem_of_mem_drop (List.mem_of_mem_take hc)
  exact Array.all_eq_true_iff_forall_mem.mp hx c (by simpa using hm)
theorem slc_s {x : R} {v : V} {lo hi : Option Int} {H0 F H : Hp} {Q : VK} (s : Same F H) (d : Den K H0 F H v x) (h : Ans K E (slcR x lo hi) F H Q) : rSl K v lo hi H Q := by
  unfold slcR at h
  split at h
  · cases d with
    | tup r t =>
      refine .inl ⟨_, _, rfl, same_t s r, fun e => ?_, fun e p hp => h.newT s hp (t.cut lo hi)⟩
      rw [cut_whole _ (by rw [← t.length]; exact e)] at h
      exact h.val s (.tup r t)
  · obtain ⟨hz, h⟩ := h.fit
    cases d with
    | str _ o1 => exact .inr (.inr ⟨_, rfl, Nat.le_trans hz lim_le, h.val s (.str _ (strOk_cut o1))⟩)
  · split at h
    · rename_i e
      obtain ⟨a, vs, rfl, q, t⟩ := d.lst s e
      exact .inr (.inl ⟨_, _, rfl, .inl (.inl q), fun p hp => h.newL s hp (t.cut lo hi)⟩)
    · exact h.elim
end
end PP

set_option Elab.async false
set_option linter.all false
set_option autoImplicit false
set_option maxRecDepth 100000
set_option maxHeartbeats 1000000
namespace PP
open PySem L2
/-! ### freezing -/
section
variable {K : PySem.W.Frag} {F0 H0 F F' H : Hp} {E : EX}
theorem frz1 {v : V} {r : R} {x : D} (g : Grow F0 H0 F H) (s : Same F' F) (d : Den K H0 F' H v r) (e : r.frz = .ok x) : ∃ F1, Grow F0 H0 F1 H ∧ Same F F1 ∧ Dn K F1 v x := by
  cases r with
  | d y => cases e; exact ⟨F, g, Same.refl F, Dn.mono s d⟩
  | l ys =>
    cases e
    obtain ⟨a, vs, rfl, h0, hf, hh, t⟩ := d
    cases q : F a with
    | none => exact ⟨_, g.freeze h0 q hh, same_new q, .lst upd_same ((t.mono s).mono (same_new q))⟩
    | some o =>
      have z := g.sub a o q
      rw [hh] at z
      cases z
      exact ⟨F, g, Same.refl F, .lst q (t.mono s)⟩
  | b ys => cases e
  | s ys => cases e
  | m ys => cases e
  | n ys => cases e
  | q => cases e
theorem frzAll_cons {r : R} {rs : List R} {ds : List D} (e : frzAll (r :: rs) = .ok ds) : ∃ x xs, r.frz = .ok x ∧ frzAll rs = .ok xs ∧ ds = x :: xs := by
  unfold frzAll mapR at e
  cases q : r.frz with
  | bad => rw [q] at e; cases e
  | err c => rw [q] at e; cases e
  | ok x =>
    rw [q] at e
    cases q2 : mapR R.frz rs with
    | bad => rw [q2] at e; cases e
    | err c => rw [q2] at e; cases e
    | ok xs => rw [q2] at e; cases e; exact ⟨x, xs, rfl, q2, rfl⟩
theorem frzN : ∀ {vs : List V} {rs : List R} {xs : List D} {F : Hp}, Grow F0 H0 F H → Same F' F → DenAll K H0 F' H vs rs → frzAll rs = .ok xs → ∃ F1, Grow F0 H0 F1 H ∧ Same F F1 ∧ DnAll K F1 vs xs
  | [], [], xs, F, g, s, d, e => by cases e; exact ⟨F, g, Same.refl F, .nil⟩
  | v :: vs, r :: rs, xs, F, g, s, ⟨d, ds⟩, e => by
    obtain ⟨x, ys, e1, e2, rfl⟩ := frzAll_cons e
    obtain ⟨F1, g1, s1, t1⟩ := frz1 g s d e1
    obtain ⟨F2, g2, s2, t2⟩ := frzN g1 (s.trans s1) ds e2
    exact ⟨F2, g2, s1.trans s2, .cons (t1.mono s2) t2⟩
/-- as frozen, what is handed on -/
theorem Ans.frzAll {rs : List R} {k : List D → Rs R} {Q : VK} (h : Ans K E (frzAll rs >>= k) F H Q) : ∃ ds, PP.frzAll rs = .ok ds ∧ Ans K E (k ds) F H Q := by
  cases q : PP.frzAll rs with
  | bad => rw [q] at h; exact h.elim
  | err c =>
    exfalso
    have : ∀ (rs : List R) c, PP.frzAll rs ≠ .err c := by
      intro rs
      induction rs with
      | nil => intro c e; cases e
      | cons r rs ih =>
        intro c e
        unfold PP.frzAll mapR at e
        cases r with
        | d x =>
          cases q2 : mapR R.frz rs with
          | bad => simp [R.frz, q2] at e
          | err c2 => exact ih c2 q2
          | ok xs => simp [R.frz, q2] at e
        | l x =>
          cases q2 : mapR R.frz rs with
          | bad => simp [R.frz, q2] at e
          | err c2 => exact ih c2 q2
          | ok xs => simp [R.frz, q2] at e
        | b x => simp [R.frz] at e
        | s x => simp [R.frz] at e
        | m x => simp [R.frz] at e
        | n x => simp [R.frz] at e
        | q => simp [R.frz] at e
    exact this rs c q
  | ok ds => rw [q] at h; exact ⟨ds, rfl, h⟩
end

section
variable {X : Cx} {E : EX} {pos : Pos}
/-! ### names, constants -/
theorem q_var {i : Nat} {x : Str} (hN : X.N[i]? = some x) (hv : Vis X.env.scope x) (hd : (x == ("__debug__" : Str)) = false) (hcd : (x == ("__classdict__" : Str)) = false) (C : Nat → List R → Rs R) :
    PE X (.Name x pos) (tOf X.K E (ev C (.var i))) := by
  refine pe_of (pe_var hN hv hd hcd) fun σ H Q h => ?_
  obtain ⟨ρ, F, R, h⟩ := h
  rw [ev.eq_1] at h
  cases e : ρ[i]? with
  | none => rw [e] at h; exact h.elim
  | some o =>
    rw [e] at h
    cases o with
    | none => exact h.elim
    | some r =>
      obtain ⟨v, e1, q⟩ := R.slot i r e
      refine ⟨v, e1, h v F H (Grow.refl R.sub) ?_⟩
      cases r with
      | d x => exact q
      | l xs => exact q
      | b xs => exact q.elim
      | s xs => exact q
      | m xs => exact q
      | n xs => exact True.intro
      | q => exact q.elim
theorem q_val {e : Expr} {v : V} {d : D} {C : Nat → List R → Rs R} (h : PE X e (tC v)) (hd : ∀ F, Dn X.K F v d) : PE X e (tOf X.K E (ev C (.cst d))) := by
  refine pe_of h fun σ H Q h => ?_
  obtain ⟨ρ, F, R, h⟩ := h
  rw [ev.eq_2] at h
  exact Ans.val h R.sub (hd F)
/-! ### arguments, displays -/
theorem q_nil {C : Nat → List R → Rs R} : PA X [] (tOfA X.K E (evs C .nil)) := by
  refine pa_of pa_nil fun σ H Q h => ?_
  obtain ⟨ρ, F, R, h⟩ := h
  rw [evs.eq_1] at h
  exact h [] F H (Grow.refl R.sub) trivial
theorem q_cons {C : Nat → List R → Rs R} {e : Expr} {es : List Expr} {x : Ex} {xs : Exs} (he : PE X e (tOf X.K E (ev C x))) (hr : PA X es (tOfA X.K E (evs C xs))) (hs : starEach (e :: es) X.env = (false, eval e X.env) :: starEach es X.env) :
    PA X (e :: es) (tOfA X.K E (evs C (.cons x xs))) := by
  refine pa_of (pa_cons he hr hs) fun σ H Q h => ?_
  obtain ⟨ρ, F, R, h⟩ := h
  rw [evs.eq_2] at h
  refine ⟨ρ, F, R, Ans.bindA h fun r hr v F1 H1 g1 d1 => ?_⟩
  refine ⟨ρ, F1, R.grow g1, ?_⟩
  cases q : evs C xs ρ with
  | bad => rw [q] at hr; exact hr
  | err c => rw [q] at hr; exact fun F' H' g => hr F' H' (g1.trans g)
  | ok rs => rw [q] at hr; exact fun vs F2 H2 g2 d2 => hr (v :: vs) F2 H2 (g1.trans g2) ⟨d1.grow g2, d2.back g1.hp⟩
theorem q_tup {C : Nat → List R → Rs R} {es : List Expr} {xs : Exs} {k : Nat} (h : PA X es (tOfA X.K E (evs C xs))) : PE X (.Tuple es k pos) (tOf X.K E (ev C (.tup xs))) := by
  refine pe_of (pe_tup h) fun σ H Q h => ?_
  obtain ⟨ρ, F, R, h⟩ := h
  rw [ev.eq_3] at h
  refine ⟨ρ, F, R, AnsA.bind h fun rs hrs vs F1 H1 g1 d1 => ?_⟩
  obtain ⟨ds, e, hk⟩ := Ans.frzAll hrs
  obtain ⟨hz, hk⟩ := hk.fit
  obtain ⟨F2, g2, s2, t2⟩ := frzN g1 (Same.refl F1) d1 e
  exact ⟨by rw [t2.length]; exact Nat.le_trans hz lim_le, fun p hp => Ans.newT (hk.grow g2) g2.sub hp t2⟩
theorem q_lst {C : Nat → List R → Rs R} {es : List Expr} {xs : Exs} (h : PA X es (tOfA X.K E (evs C xs))) : PE X (.List es pos) (tOf X.K E (ev C (.lst xs))) := by
  refine pe_of (pe_lst h) fun σ H Q h => ?_
  obtain ⟨ρ, F, R, h⟩ := h
  rw [ev.eq_4] at h
  refine ⟨ρ, F, R, AnsA.bind h fun rs hrs vs F1 H1 g1 d1 => ?_⟩
  obtain ⟨ds, e, hk⟩ := Ans.frzAll hrs
  obtain ⟨hz, hk⟩ := hk.fit
  obtain ⟨F2, g2, s2, t2⟩ := frzN g1 (Same.refl F1) d1 e
  exact ⟨by rw [t2.length]; exact Nat.le_trans hz lim_le, fun p hp => Ans.newL (hk.grow g2) g2.sub hp t2⟩
/-! ### operators -/
variable {a b c : Expr} {xa xb xc : Ex} {C : Nat → List R → Rs R}
def opOf : Op2 → Operator
  | .add => .Add
  | .sub => .Sub
  | .mul => .Mult
  | .mod => .Mod
  | .fdiv => .FloorDiv
theorem q_binE (o : Op2) (ha : PE X a (tOf X.K E (ev C xa))) (hb : PE X b (tOf X.K E (ev C xb))) : PE X (.BinOp a (opOf o) b pos) (tOf X.K E (ev C (.bin o xa xb))) := by
  have e : ev C (.bin o xa xb) = fun ρ => ev C xa ρ >>= fun x => ev C xb ρ >>= fun y => binR o x y := by funext ρ; rw [ev.eq_5]
  rw [e]
  cases o with
  | add => exact q_bin op_addA add_s ha hb
  | sub => exact q_bin op_sub sub_s ha hb
  | mul => exact q_bin op_mulA mul_s ha hb
  | mod => exact q_bin op_mod mod_s ha hb
  | fdiv => exact q_bin op_fdiv fdiv_s ha hb
theorem q_neg (ha : PE X a (tOf X.K E (ev C xa))) : PE X (.UnaryOp .USub a pos) (tOf X.K E (ev C (.neg xa))) := by
  refine pe_of (pe_un un_neg ha) fun σ H Q h => ?_
  obtain ⟨ρ, F, R, h⟩ := h
  rw [ev.eq_6] at h
  refine ⟨ρ, F, R, h.bind fun x hx v F1 H1 g1 d1 => ?_⟩
  unfold negR at hx
  split at hx
  · cases d1
    exact ⟨_, rfl, (hx.grow g1).val g1.sub (.int _)⟩
  · exact hx.elim
def cmOf : Cm → CmpOp
  | .eq => .Eq
  | .ne => .NotEq
  | .lt => .Lt
  | .le => .LtE
  | .gt => .Gt
  | .ge => .GtE
  | .in_ => .In
  | .nin => .NotIn
  | .is_ => .Is
  | .isn => .IsNot
/-- one reading for each comparison -/
def rCm (K : PySem.W.Frag) : Cm → R2
  | .eq => rEqM K
  | .ne => rNeM K
  | .lt => fun x y H Q => rI0 (fun i j => .bl (decide (i < j))) x y H Q ∨ rLtT K x y H Q
  | .le => rI0 (fun i j => .bl (decide (i ≤ j)))
  | .gt => rI0 (fun i j => .bl (decide (j < i)))
  | .ge => rI0 (fun i j => .bl (decide (j ≤ i)))
  | .in_ => rInA K false
  | .nin => rInA K true
  | .is_ => rIsA false
  | .isn => rIsA true
theorem op_cm (hu : X.A.units + 64 < cLine) (o : Cm) : OpR X (compareOp (cmOf o)) (rCm X.K o) := by
  cases o with
  | eq => exact op_eqM hu
  | ne => exact op_neM hu
  | lt => exact op_ltA (by omega)
  | le => exact op_le
  | gt => exact op_gt
  | ge => exact op_ge
  | in_ => exact op_inA hu
  | nin => exact op_ninA hu
  | is_ => exact op_isA
  | isn => exact op_isnA
theorem cm_s (K : PySem.W.Frag) (o : Cm) : CmS K E (rCm K o) (cmpR o) := by
  cases o with
  | eq => exact eq_s
  | ne => exact ne_s
  | lt => exact lt_s
  | le => exact le_s
  | gt => exact gt_s
  | ge => exact ge_s
  | in_ => exact in_s
  | nin => exact nin_s
  | is_ => exact is_s
  | isn => exact isn_s
theorem q_cmpE (hu : X.A.units + 64 < cLine) (o : Cm) (ha : PE X a (tOf X.K E (ev C xa))) (hb : PE X b (tOf X.K E (ev C xb))) (hm : behindInMarks (cmOf o) b = false) : PE X (.Compare a [cmOf o] [b] pos) (tOf X.K E (ev C (.cmp o xa xb))) := by
  have e : ev C (.cmp o xa xb) = fun ρ => ev C xa ρ >>= fun x => ev C xb ρ >>= fun y => boolR (cmpR o x y) := by funext ρ; rw [ev.eq_7]
  rw [e]
  exact q_cmp (op_cm hu o) (cm_s X.K o) ha hb hm
theorem q_cmpTE (hu : X.A.units + 64 < cLine) (o : Cm) (ha : PE X a (tOf X.K E (ev C xa))) (hb : PE X b (tOf X.K E (ev C xb))) (hm : behindInMarks (cmOf o) b = false) : PT X (.Compare a [cmOf o] [b] pos) (tOfT X.K E (evT C (.cmp o xa xb))) := by
  have e : evT C (.cmp o xa xb) = fun ρ => ev C xa ρ >>= fun x => ev C xb ρ >>= fun y => cmpR o x y := by funext ρ; rw [evT.eq_4]
  rw [e]
  exact q_cmpT (op_cm hu o) (cm_s X.K o) ha hb hm
theorem AnsT.boolR {m : Rs Bool} {F H : Hp} {Q : VK} (h : Ans X.K E (PP.boolR m) F H Q) : AnsT E m F H fun b H' => Q (.bl b) H' := by
  cases m with
  | bad => exact h
  | err c => exact h
  | ok c => exact fun F' H' gr => h (.bl c) F' H' gr (.bl c)
theorem q_chn (hu : X.A.units + 64 < cLine) (o p : Cm) (ha : PE X a (tOf X.K E (ev C xa))) (hb : PE X b (tOf X.K E (ev C xb))) (hc : PE X c (tOf X.K E (ev C xc))) (hm : lastMarks [cmOf o, cmOf p] [b, c] = false) :
    PE X (.Compare a [cmOf o, cmOf p] [b, c] pos) (tOf X.K E (ev C (.chn o p xa xb xc))) := by
  refine pe_of (pe_chain (op_cm hu o) (op_cm hu p) ha hb hc hm) fun σ H Q h => ?_
  obtain ⟨ρ, F, R, h⟩ := h
  rw [ev.eq_8] at h
  refine ⟨ρ, F, R, h.bind fun x hx v1 F1 H1 g1 d1 => ?_⟩
  refine ⟨ρ, F1, R.grow g1, (hx.grow g1).bind fun y hy v2 F2 H2 g2 d2 => ?_⟩
  have R2 := (R.grow g1).grow g2
  refine cm_s X.K o x y v1 v2 H H1 F2 H2 _ g2.sub (d1.grow g2) d2 (AnsT.bind (hy.grow g2) fun k hk F3 H3 g3 => ⟨k, rfl, ?_⟩)
  have hk := hk.grow g3
  cases k with
  | false => exact hk (.bl false) F3 H3 (Grow.refl g3.sub) (.bl false)
  | true =>
    refine ⟨ρ, F3, R2.grow g3, hk.bind fun z hz v3 F4 H4 g4 d3 => ?_⟩
    exact cm_s X.K p y z v2 v3 H1 H3 F4 H4 Q g4.sub ((d2.grow g3).grow g4) d3 (AnsT.boolR (hz.grow g4))
theorem q_chnT (hu : X.A.units + 64 < cLine) (o p : Cm) (ha : PE X a (tOf X.K E (ev C xa))) (hb : PE X b (tOf X.K E (ev C xb))) (hc : PE X c (tOf X.K E (ev C xc))) (hm : lastMarks [cmOf o, cmOf p] [b, c] = false) :
    PT X (.Compare a [cmOf o, cmOf p] [b, c] pos) (tOfT X.K E (evT C (.chn o p xa xb xc))) := by
  refine pt_of (pt_chain (op_cm hu o) (op_cm hu p) ha hb hc hm) fun σ H Q h => ?_
  obtain ⟨ρ, F, R, h⟩ := h
  rw [evT.eq_5] at h
  refine ⟨ρ, F, R, Ans.bindT h fun x hx v1 F1 H1 g1 d1 => ?_⟩
  refine ⟨ρ, F1, R.grow g1, Ans.bindT (hx.grow g1) fun y hy v2 F2 H2 g2 d2 => ?_⟩
  have R2 := (R.grow g1).grow g2
  refine cm_s X.K o x y v1 v2 H H1 F2 H2 _ g2.sub (d1.grow g2) d2 (AnsT.bindT (hy.grow g2) fun k hk F3 H3 g3 => ⟨k, rfl, ?_⟩)
  have hk := hk.grow g3
  cases k with
  | false => exact ⟨false, rfl, hk F3 H3 (Grow.refl g3.sub)⟩
  | true =>
    refine ⟨ρ, F3, R2.grow g3, Ans.bindT hk fun z hz v3 F4 H4 g4 d3 => ?_⟩
    refine cm_s (E := E) X.K p y z v2 v3 H1 H3 F4 H4 _ g4.sub ((d2.grow g3).grow g4) d3 ?_
    have hz := hz.grow g4
    cases q : cmpR p y z with
    | bad => rw [q] at hz; exact hz
    | err c => rw [q] at hz; exact hz
    | ok c => rw [q] at hz; exact fun F' H' gr => ⟨c, rfl, hz F' H' gr⟩
/-! ### and, or, not, if -/
theorem tru_bind {F H H0 : Hp} {Q : VK} {x : R} {v : V} {k : Bool → Rs R} (s : Same F H) (d : Den X.K H0 F H v x) (h : Ans X.K E (truR x >>= k) F H Q) : ∃ c, TruV X.K v H c ∧ Ans X.K E (k c) F H Q := by
  have q : AnsT E (truR x) F H (fun _ _ => True) := AnsT.bind h fun _ _ _ _ _ => trivial
  obtain ⟨c, t, e⟩ := tru_s s d q
  rw [e] at h
  exact ⟨c, t, h⟩
theorem tru_bindT {F H H0 : Hp} {Q : Bool → Hp → Prop} {x : R} {v : V} (s : Same F H) (d : Den X.K H0 F H v x) (h : AnsT E (truR x) F H Q) : ∃ c, TruV X.K v H c ∧ Q c H := by
  obtain ⟨c, t, e⟩ := tru_s s d h
  rw [e] at h
  exact ⟨c, t, h.val s⟩
theorem tru_get {F H F1 H1 H0 : Hp} {Q : VK} {x : R} {v : V} {k : Bool → Rs R} (g : Grow F H F1 H1) (d : Den X.K H0 F1 H1 v x) (h : Ans X.K E (truR x >>= k) F H Q) : ∃ c, TruV X.K v H1 c ∧ Ans X.K E (k c) F H Q := by
  have q : AnsT E (truR x) F1 H1 (fun _ _ => True) := AnsT.bind (h.grow g) fun _ _ _ _ _ => trivial
  obtain ⟨c, t, e⟩ := tru_s g.sub d q
  rw [e] at h
  exact ⟨c, t, h⟩
variable {rest : List Expr}
theorem q_and (ha : PE X a (tOf X.K E (ev C xa))) (hb : PE X (.BoolOp .And (b :: rest) pos) (tOf X.K E (ev C xb))) : PE X (.BoolOp .And (a :: b :: rest) pos) (tOf X.K E (ev C (.and xa xb))) := by
  refine pe_of (pe_andT ha hb) fun σ H Q h => ?_
  obtain ⟨ρ, F, R, h⟩ := h
  rw [ev.eq_9] at h
  refine ⟨ρ, F, R, h.bind fun x hx v F1 H1 g1 d1 => ?_⟩
  obtain ⟨c, t, hc⟩ := tru_get g1 d1 hx
  refine ⟨c, t, ?_⟩
  cases c with
  | true => exact ⟨ρ, F1, R.grow g1, hc.grow g1⟩
  | false => exact hc v F1 H1 g1 d1
theorem q_or (ha : PE X a (tOf X.K E (ev C xa))) (hb : PE X (.BoolOp .Or (b :: rest) pos) (tOf X.K E (ev C xb))) : PE X (.BoolOp .Or (a :: b :: rest) pos) (tOf X.K E (ev C (.or xa xb))) := by
  refine pe_of (pe_orT ha hb) fun σ H Q h => ?_
  obtain ⟨ρ, F, R, h⟩ := h
  rw [ev.eq_10] at h
  refine ⟨ρ, F, R, h.bind fun x hx v F1 H1 g1 d1 => ?_⟩
  obtain ⟨c, t, hc⟩ := tru_get g1 d1 hx
  refine ⟨c, t, ?_⟩
  cases c with
  | true => exact hc v F1 H1 g1 d1
  | false => exact ⟨ρ, F1, R.grow g1, hc.grow g1⟩
theorem q_one {op : BoolOp} {f : TE} (ha : PE X a f) : PE X (.BoolOp op [a] pos) f := pe_one ha
theorem q_not (ha : PE X a (tOf X.K E (ev C xa))) : PE X (.UnaryOp .Not a pos) (tOf X.K E (ev C (.not xa))) := by
  refine pe_of (pe_notT ha) fun σ H Q h => ?_
  obtain ⟨ρ, F, R, h⟩ := h
  rw [ev.eq_11] at h
  refine ⟨ρ, F, R, h.bind fun x hx v F1 H1 g1 d1 => ?_⟩
  exact tru_bindT g1.sub d1 (AnsT.notB (AnsT.boolR (hx.grow g1)))
theorem q_ite (hc : PT X c (tOfT X.K E (evT C xc))) (ha : PE X a (tOf X.K E (ev C xa))) (hb : PE X b (tOf X.K E (ev C xb))) : PE X (.IfExp c a b pos) (tOf X.K E (ev C (.ite xc xa xb))) := by
  refine pe_of (pe_ifExp hc ha hb) fun σ H Q h => ?_
  obtain ⟨ρ, F, R, h⟩ := h
  rw [ev.eq_12] at h
  refine ⟨ρ, F, R, AnsT.bind h fun k hk F1 H1 g1 => ?_⟩
  cases k with
  | true => exact ⟨ρ, F1, R.grow g1, hk.grow g1⟩
  | false => exact ⟨ρ, F1, R.grow g1, hk.grow g1⟩
theorem q_idx (ha : PE X a (tOf X.K E (ev C xa))) (hb : PE X b (tOf X.K E (ev C xb))) (hs : PlainIx b) : PE X (.Subscript a b pos) (tOf X.K E (ev C (.idx xa xb))) := by
  have e : ev C (.idx xa xb) = fun ρ => ev C xa ρ >>= fun x => ev C xb ρ >>= fun y => idxR x y := by funext ρ; rw [ev.eq_13]
  rw [e]
  exact pe_of (pe_ix ix_seq ha hb hs) (tOp_of idx_s)
/-- a part of a slice -/
def AnsO (E : EX) (m : Rs (Option Int)) (F H : Hp) (Q : Option Int → Hp → Prop) : Prop :=
  match m with
  | .bad => False
  | .err c => ∀ F' H', Grow F H F' H' → E c H'
  | .ok b => ∀ F' H', Grow F H F' H' → Q b H'
theorem AnsO.grow {m : Rs (Option Int)} {F H F' H' : Hp} {Q : Option Int → Hp → Prop} (h : AnsO E m F H Q) (g : Grow F H F' H') : AnsO E m F' H' Q := by
  cases m with
  | bad => exact h
  | err c => exact fun F2 H2 g2 => h F2 H2 (g.trans g2)
  | ok r => exact fun F2 H2 g2 => h F2 H2 (g.trans g2)
theorem AnsO.bind {m : Rs (Option Int)} {k : Option Int → Rs R} {F H : Hp} {Q : VK} {Q1 : Option Int → Hp → Prop} (h : Ans X.K E (m >>= k) F H Q)
    (hk : ∀ x, Ans X.K E (k x) F H Q → ∀ F1 H1, Grow F H F1 H1 → Q1 x H1) : AnsO E m F H Q1 := by
  cases m with
  | bad => exact h
  | err c => exact h
  | ok r => exact hk r h
def tOfO (K : PySem.W.Frag) (E : EX) (f : Sto → Rs (Option Int)) : TO := fun σ H Q => ∃ ρ F, Rel K ρ σ F H ∧ AnsO E (f ρ) F H Q
theorem po_of {o : Option Expr} {t t' : TO} (h : PO X o t) (w : ∀ σ H Q, t' σ H Q → t σ H Q) : PO X o t' := ⟨fun pins s σ H Q I q => h.run pins s σ H Q I (w σ H Q q)⟩
theorem q_onone : PO X none (tOfO X.K E fun ρ => evs C .nil ρ >>= optI) := by
  refine po_of po_none fun σ H Q h => ?_
  obtain ⟨ρ, F, R, h⟩ := h
  dsimp only at h
  rw [evs.eq_1] at h
  exact h F H (Grow.refl R.sub)
theorem q_osome (ha : PE X a (tOf X.K E (ev C xa))) : PO X (some a) (tOfO X.K E fun ρ => evs C (.cons xa .nil) ρ >>= optI) := by
  refine po_of (po_some ha) fun σ H Q h => ?_
  obtain ⟨ρ, F, R, h⟩ := h
  dsimp only at h
  rw [evs.eq_2, evs.eq_1] at h
  refine ⟨ρ, F, R, ?_⟩
  cases q : ev C xa ρ with
  | bad => rw [q] at h; exact h
  | err c => rw [q] at h; exact h
  | ok r =>
    rw [q] at h
    intro v F1 H1 g1 d1
    have h : AnsO E (optI [r]) F H Q := h
    unfold optI at h
    split at h
    · rename_i e; cases e
    · rename_i e
      cases e
      cases d1
      exact ⟨_, rfl, h F1 H1 g1⟩
    · exact h.elim
theorem q_slc {lo hi : Option Expr} {xl xh : Exs} {p2 : Pos} (ha : PE X a (tOf X.K E (ev C xa))) (hl : PO X lo (tOfO X.K E fun ρ => evs C xl ρ >>= optI)) (hh : PO X hi (tOfO X.K E fun ρ => evs C xh ρ >>= optI)) :
    PE X (.Subscript a (.Slice lo hi none p2) pos) (tOf X.K E (ev C (.slc xa xl xh))) := by
  refine pe_of (pe_slice sl_A ha hl hh) fun σ H Q h => ?_
  obtain ⟨ρ, F, R, h⟩ := h
  rw [ev.eq_14] at h
  refine ⟨ρ, F, R, h.bind fun x hx v F1 H1 g1 d1 => ?_⟩
  refine ⟨ρ, F1, R.grow g1, AnsO.bind (hx.grow g1) fun l hl F2 H2 g2 => ?_⟩
  refine ⟨ρ, F2, (R.grow g1).grow g2, AnsO.bind (hl.grow g2) fun u hu F3 H3 g3 => ?_⟩
  exact slc_s g3.sub ((d1.grow g2).grow g3) (hu.grow g3)
/-! ### tests -/
theorem q_truth {f : Sto → Rs R} (ha : PE X a (tOf X.K E f)) (he : ∀ whole, isTrue a X.env whole = (do let v ← whole; standAt a.pos; holding [v] (truthy v))) : PT X a (tOfT X.K E fun ρ => f ρ >>= fun x => truR x) := by
  refine pt_of (pt_truth ha he) fun σ H Q h => ?_
  obtain ⟨ρ, F, R, h⟩ := h
  refine ⟨ρ, F, R, Ans.bindT h fun x hx v F1 H1 g1 d1 => ?_⟩
  exact tru_bindT g1.sub d1 (hx.grow g1)
theorem q_andT (ha : PT X a (tOfT X.K E (evT C xa))) (hb : PW X (.BoolOp .And (b :: rest) pos) (tOfT X.K E (evT C xb))) : PW X (.BoolOp .And (a :: b :: rest) pos) (tOfT X.K E (evT C (.and xa xb))) := by
  refine pw_of (pw_and ha hb) fun σ H Q h => ?_
  obtain ⟨ρ, F, R, h⟩ := h
  rw [evT.eq_1] at h
  refine ⟨ρ, F, R, AnsT.bindT h fun k hk F1 H1 g1 => ?_⟩
  cases k with
  | true => exact ⟨ρ, F1, R.grow g1, hk.grow g1⟩
  | false => exact (hk.grow g1).val g1.sub
theorem q_orT (ha : PT X a (tOfT X.K E (evT C xa))) (hb : PW X (.BoolOp .Or (b :: rest) pos) (tOfT X.K E (evT C xb))) : PW X (.BoolOp .Or (a :: b :: rest) pos) (tOfT X.K E (evT C (.or xa xb))) := by
  refine pw_of (pw_or ha hb) fun σ H Q h => ?_
  obtain ⟨ρ, F, R, h⟩ := h
  rw [evT.eq_2] at h
  refine ⟨ρ, F, R, AnsT.bindT h fun k hk F1 H1 g1 => ?_⟩
  cases k with
  | true => exact (hk.grow g1).val g1.sub
  | false => exact ⟨ρ, F1, R.grow g1, hk.grow g1⟩
theorem q_notT (ha : PT X a (tOfT X.K E (evT C xa))) : PT X (.UnaryOp .Not a pos) (tOfT X.K E (evT C (.not xa))) := by
  refine pt_of (pt_not ha) fun σ H Q h => ?_
  obtain ⟨ρ, F, R, h⟩ := h
  rw [evT.eq_3] at h
  exact ⟨ρ, F, R, h.notB⟩
end
end PP

set_option Elab.async false
set_option linter.all false
set_option autoImplicit false
set_option maxRecDepth 100000
set_option maxHeartbeats 1000000
namespace PP
open PySem L2
/-! ### min(a, b), max(a, b) of data -/
section
variable {prog : Program} {w : World} {A : Around} {E : Value → Shared → Prop} {s : Shared}
theorem call_min_twoH {a b : Value} {Q : Value → Shared → Prop}
    (h : wpAny (model prog w) A.in1 (pyIter (.ref s.heap.objs.size)) (fun it s₂ => ∃ I fp wr G n P St H bt, it = .ref I ∧ WalksS prog w A.in1 I fp wr G n P St ∧ St 0 s₂ ∧ (∀ b ∈ fp, b < s₂.heap.objs.size) ∧ 0 < n ∧
      (∀ b o, H.get? b = some o → b ∉ wr) ∧ (∀ b o, H.get? b = some o → s₂.heap.get? b = some o) ∧ CmpIn prog w A.in1 .Lt H P bt ∧ ∀ v s', P (argBest bt (n - 1)) v → Moved wr G s₂ s' → Q v s') E { s with heap := s.heap.push { cls := .type "tuple", data := .seq #[a, b] } }) :
    wpAny (model prog w) A (PySem.call (.builtin "min") [a, b]) Q E s := by
  have hnm : (toString "min" ++ toString ".loop" : String) = "min.loop" := by decide
  refine call_function_tree F.kind_min F.plain_min F.entry_min (F.args_min2 a b) ?_
  have e0 : Builtin.Builtins.bindParams "min" ["key", "default"] 0 ⟨[], []⟩ = pure [none, none] := rfl
  show wpAny _ A.in1 ((Builtin.Builtins.bindParams "min" ["key", "default"] 0 ⟨[], []⟩) >>= _) _ _ s
  refine wpAny_bind (wpAny_of_eq e0 ?_)
  show wpAny _ A.in1 ((newTuple [a, b]) >>= _) _ _ s
  refine wpAny_bind (wpAny_newObj_type (wpAny_bind (wpAny_mono h ?_ fun _ _ e => e)))
  rintro it s₂ ⟨I, fp, wr, G, n, P, St, H, bt, rfl, W, hst, hfp, hn, hw, hkeep, hcmp, hQ⟩
  have hSf : s₂.heap.objs.size ∉ fp := fun hm => absurd (hfp _ hm) (Nat.lt_irrefl _)
  refine wpAny_bind (wpAny_newObj_type ?_)
  rw [hnm]
  refine wpAny_pure ⟨plainId_quiet F.plain_min_loop _, codeAny_min_loop_firstH W H hw bt hcmp s₂.heap.objs.size hSf (fresh_in hkeep) _ hn (fun b o e => Heap.get?_push_of_some _ (hkeep b o e)) (W.frame 0 s₂ _ s₂.toks hst (Nat.le_refl _) fun b _ o e => Heap.get?_push_of_some _ e) (Heap.get?_push_size _ rfl) ?_⟩
  exact fun v s' hP hm => hQ v s' hP (Moved.drop_new (tk := s₂.toks) hm (Nat.le_refl _))
theorem call_max_twoH {a b : Value} {Q : Value → Shared → Prop}
    (h : wpAny (model prog w) A.in1 (pyIter (.ref s.heap.objs.size)) (fun it s₂ => ∃ I fp wr G n P St H bt, it = .ref I ∧ WalksS prog w A.in1 I fp wr G n P St ∧ St 0 s₂ ∧ (∀ b ∈ fp, b < s₂.heap.objs.size) ∧ 0 < n ∧
      (∀ b o, H.get? b = some o → b ∉ wr) ∧ (∀ b o, H.get? b = some o → s₂.heap.get? b = some o) ∧ CmpIn prog w A.in1 .Gt H P bt ∧ ∀ v s', P (argBest bt (n - 1)) v → Moved wr G s₂ s' → Q v s') E { s with heap := s.heap.push { cls := .type "tuple", data := .seq #[a, b] } }) :
    wpAny (model prog w) A (PySem.call (.builtin "max") [a, b]) Q E s := by
  have hnm : (toString "max" ++ toString ".loop" : String) = "max.loop" := by decide
  refine call_function_tree F.kind_max F.plain_max F.entry_max (F.args_max2 a b) ?_
  have e0 : Builtin.Builtins.bindParams "max" ["key", "default"] 0 ⟨[], []⟩ = pure [none, none] := rfl
  show wpAny _ A.in1 ((Builtin.Builtins.bindParams "max" ["key", "default"] 0 ⟨[], []⟩) >>= _) _ _ s
  refine wpAny_bind (wpAny_of_eq e0 ?_)
  show wpAny _ A.in1 ((newTuple [a, b]) >>= _) _ _ s
  refine wpAny_bind (wpAny_newObj_type (wpAny_bind (wpAny_mono h ?_ fun _ _ e => e)))
  rintro it s₂ ⟨I, fp, wr, G, n, P, St, H, bt, rfl, W, hst, hfp, hn, hw, hkeep, hcmp, hQ⟩
  have hSf : s₂.heap.objs.size ∉ fp := fun hm => absurd (hfp _ hm) (Nat.lt_irrefl _)
  refine wpAny_bind (wpAny_newObj_type ?_)
  rw [hnm]
  refine wpAny_pure ⟨plainId_quiet F.plain_max_loop _, codeAny_max_loop_firstH W H hw bt hcmp s₂.heap.objs.size hSf (fresh_in hkeep) _ hn (fun b o e => Heap.get?_push_of_some _ (hkeep b o e)) (W.frame 0 s₂ _ s₂.toks hst (Nat.le_refl _) fun b _ o e => Heap.get?_push_of_some _ e) (Heap.get?_push_size _ rfl) ?_⟩
  exact fun v s' hP hm => hQ v s' hP (Moved.drop_new (tk := s₂.toks) hm (Nat.le_refl _))
open PySem.W in
theorem min_two_data {a b : Value} {x y : PyData} {as bs : List Addr} {Q : Value → Shared → Prop} (hh : A.handled = none) (ra : Reads s.heap a x as) (rb : Reads s.heap b y bs) (ha : AlikeAll [x, y]) (hu : A.units + 1 + PyData.depthAll [x, y] < cLine)
    (h : ∀ h' tk, (∀ b o, s.heap.get? b = some o → h'.get? b = some o) → Q (if dataLt y x then b else a) { s with heap := h', toks := tk }) : wpAny (model prog w) A (PySem.call (.builtin "min") [a, b]) Q E s := by
  have kp : ∀ c o, s.heap.get? c = some o → (s.heap.push { cls := .type "tuple", data := .seq #[a, b] }).get? c = some o := fun c o e => Heap.get?_push_of_some _ e
  have hr : ∃ cs, ReadsAll (s.heap.push { cls := .type "tuple", data := .seq #[a, b] }) (#[a, b] : Array Value).toList [x, y] cs := ⟨_, .cons (reads_keeps (fun b o e => Heap.get?_push_of_some _ e) ra) (.cons (reads_keeps (fun b o e => Heap.get?_push_of_some _ e) rb) .nil)⟩
  obtain ⟨cs, hr⟩ := hr
  refine call_min_twoH (iter_tupleW (A := A.in1) (s := { s with heap := s.heap.push { cls := .type "tuple", data := .seq #[a, b] } }) (vs := #[a, b]) hh ⟨_, Heap.get?_push_size _ rfl, rfl, _, rfl⟩ fun s₂ e W st hfp hw hk => ?_)
  refine ⟨_, _, _, _, _, _, _, s.heap.push { cls := .type "tuple", data := .seq #[a, b] }, _, rfl, W, st, hfp, by show 0 < 2; decide, hw, hk, cmpIn_lt (A := A.in1) (s := { s with heap := s.heap.push { cls := .type "tuple", data := .seq #[a, b] } }) hr ha (by show A.units + 1 + _ < _; exact hu), fun v s' hP m => ?_⟩
  obtain ⟨h', tk, rfl, hk'⟩ := moved_old e rfl m
  have hv : v = if dataLt y x then b else a := by
    have hP : (#[a, b] : Array Value)[argBest (fun i j => dataLt ([x, y].getD i .none) ([x, y].getD j .none)) 1]? = some v := hP
    have e1 : argBest (fun i j => dataLt ([x, y].getD i .none) ([x, y].getD j .none)) 1 = if dataLt y x then 1 else 0 := rfl
    rw [e1] at hP
    cases q : dataLt y x with
    | true => rw [q] at hP; cases hP; rfl
    | false => rw [q] at hP; cases hP; rfl
  rw [hv]
  exact h h' tk fun b o eb => hk' b o (kp b o eb)
open PySem.W in
theorem max_two_data {a b : Value} {x y : PyData} {as bs : List Addr} {Q : Value → Shared → Prop} (hh : A.handled = none) (ra : Reads s.heap a x as) (rb : Reads s.heap b y bs) (ha : AlikeAll [x, y]) (hu : A.units + 1 + PyData.depthAll [x, y] < cLine)
    (h : ∀ h' tk, (∀ b o, s.heap.get? b = some o → h'.get? b = some o) → Q (if dataLt x y then b else a) { s with heap := h', toks := tk }) : wpAny (model prog w) A (PySem.call (.builtin "max") [a, b]) Q E s := by
  have kp : ∀ c o, s.heap.get? c = some o → (s.heap.push { cls := .type "tuple", data := .seq #[a, b] }).get? c = some o := fun c o e => Heap.get?_push_of_some _ e
  have hr : ∃ cs, ReadsAll (s.heap.push { cls := .type "tuple", data := .seq #[a, b] }) (#[a, b] : Array Value).toList [x, y] cs := ⟨_, .cons (reads_keeps (fun b o e => Heap.get?_push_of_some _ e) ra) (.cons (reads_keeps (fun b o e => Heap.get?_push_of_some _ e) rb) .nil)⟩
  obtain ⟨cs, hr⟩ := hr
  refine call_max_twoH (iter_tupleW (A := A.in1) (s := { s with heap := s.heap.push { cls := .type "tuple", data := .seq #[a, b] } }) (vs := #[a, b]) hh ⟨_, Heap.get?_push_size _ rfl, rfl, _, rfl⟩ fun s₂ e W st hfp hw hk => ?_)
  refine ⟨_, _, _, _, _, _, _, s.heap.push { cls := .type "tuple", data := .seq #[a, b] }, _, rfl, W, st, hfp, by show 0 < 2; decide, hw, hk, cmpIn_gt (A := A.in1) (s := { s with heap := s.heap.push { cls := .type "tuple", data := .seq #[a, b] } }) hr ha (by show A.units + 1 + _ < _; exact hu), fun v s' hP m => ?_⟩
  obtain ⟨h', tk, rfl, hk'⟩ := moved_old e rfl m
  have hv : v = if dataLt x y then b else a := by
    have hP : (#[a, b] : Array Value)[argBest (fun i j => dataLt ([x, y].getD j .none) ([x, y].getD i .none)) 1]? = some v := hP
    have e1 : argBest (fun i j => dataLt ([x, y].getD j .none) ([x, y].getD i .none)) 1 = if dataLt x y then 1 else 0 := rfl
    rw [e1] at hP
    cases q : dataLt x y with
    | true => rw [q] at hP; cases hP; rfl
    | false => rw [q] at hP; cases hP; rfl
  rw [hv]
  exact h h' tk fun b o eb => hk' b o (kp b o eb)
open PySem.W in
theorem min_list_at {l : Addr} {vs : Array Value} {x : PyData} {xs : List PyData} {as : List Addr} {Q : Value → Shared → Prop} (hh : A.handled = none) (hl : s.heap.IsList l vs) (hr : ReadsAll s.heap vs.toList (x :: xs) as) (ha : AlikeAll (x :: xs)) (hu : A.units + 1 + PyData.depthAll (x :: xs) < cLine)
    (h : ∀ (i : Nat) v h' tk, vs[i]? = some v → (x :: xs).getD i .none = xs.foldl (fun a y => if dataLt y a then y else a) x → (∀ b o, s.heap.get? b = some o → h'.get? b = some o) → Q v { s with heap := h', toks := tk }) : wpAny (model prog w) A (PySem.call (.builtin "min") [.ref l]) Q E s := by
  have hn : vs.size = xs.length + 1 := readsAll_len hr
  refine call_min_walkH (iter_listW (A := A.in1) hh hl ?_)
  intro s₂ e W st hfp hw hk
  refine ⟨_, _, _, _, _, _, _, s.heap, _, rfl, W, st, hfp, by omega, hw, hk, cmpIn_lt (A := A.in1) hr ha (by show A.units + 1 + _ < _; exact hu), ?_⟩
  intro v s' hP m
  obtain ⟨h', tk, rfl, hk'⟩ := moved_old e rfl m
  have e2 := (argBest_fold dataLt PyData.none x xs xs.length (Nat.le_refl _)).2
  rw [List.take_length] at e2
  have e1 : vs.size - 1 = xs.length := by omega
  rw [e1] at hP
  exact h _ v h' tk hP e2 hk'
end
end PP

set_option Elab.async false
set_option linter.all false
set_option autoImplicit false
set_option maxRecDepth 100000
set_option maxHeartbeats 1000000
namespace PP
open PySem L2
section
variable {X : Cx} {E : EX} {K : PySem.W.Frag}
theorem den1 {H0 F H : Hp} {vs : List V} {r : R} (d : DenAll K H0 F H vs [r]) : ∃ v, vs = [v] ∧ Den K H0 F H v r := by
  match vs, d with
  | [v], ⟨d, _⟩ => exact ⟨v, rfl, d⟩
theorem den2 {H0 F H : Hp} {vs : List V} {r q : R} (d : DenAll K H0 F H vs [r, q]) : ∃ v w, vs = [v, w] ∧ Den K H0 F H v r ∧ Den K H0 F H w q := by
  match vs, d with
  | [v, w], ⟨d, e, _⟩ => exact ⟨v, w, rfl, d, e⟩
/-! ### the built-ins, by values -/
def rLen (K : PySem.W.Frag) : List V → Hp → VK → Prop := fun xs H Q => (∃ p ys, xs = [.ref p] ∧ (SqL K H p ys ∨ SqT K H p ys) ∧ Q (.int ys.length) H) ∨ ∃ z, xs = [.str z] ∧ z.length ≤ sizeLine ∧ Q (.int z.length) H
theorem cr_len : CallR X (.builtin "len") (rLen X.K) := call_len_seq.or call_len_str
theorem len_s : CallS K E (rLen K) lenR := by
  intro rs vs H0 F H Q s d h
  unfold lenR at h
  split at h
  · obtain ⟨hz, h⟩ := h.fit
    obtain ⟨v, rfl, d1⟩ := den1 d
    cases d1
    exact .inr ⟨_, rfl, Nat.le_trans hz lim_le, h.val s (.int _)⟩
  · split at h
    · rename_i e
      obtain ⟨v, rfl, d1⟩ := den1 d
      obtain ⟨a, ws, rfl, q, t⟩ := d1.seq s e
      exact .inl ⟨a, ws, rfl, q, by rw [t.length]; exact h.val s (.int _)⟩
    · exact h.elim
  · exact h.elim
def rIntA : List V → Hp → VK → Prop := fun xs H Q => ((∃ i, xs = [.int i] ∧ Q (.int i) H) ∨ ∃ k, xs = [.bl k] ∧ Q (.int (if k then 1 else 0)) H) ∨ ∃ a n, xs = [.str a] ∧ PySem.intText? a = some n ∧ a.length ≤ 640 ∧ Q (.int n) H
theorem cr_int : CallR X (.type "int") rIntA := call_int1.or call_int_str
theorem int_s : CallS K E rIntA intR := by
  intro rs vs H0 F H Q s d h
  unfold intR at h
  split at h
  · obtain ⟨v, rfl, d1⟩ := den1 d
    cases d1
    exact .inl (.inl ⟨_, rfl, h.val s (.int _)⟩)
  · obtain ⟨v, rfl, d1⟩ := den1 d
    cases d1
    exact .inl (.inr ⟨_, rfl, h.val s (.int _)⟩)
  · split at h
    · rename_i e
      split at h
      · rename_i hz
        obtain ⟨v, rfl, d1⟩ := den1 d
        cases d1
        exact .inr ⟨_, _, rfl, e, by omega, h.val s (.int _)⟩
      · exact h.elim
    · exact h.elim
  · exact h.elim
def rTupleA (K : PySem.W.Frag) : List V → Hp → VK → Prop := fun xs H Q => ∃ p ys, xs = [.ref p] ∧ ((SqL K H p ys ∧ ∀ l, H l = none → Q (.ref l) (upd H l (.tup ys))) ∨ (SqT K H p ys ∧ Q (.ref p) H))
theorem cr_tuple : CallR X (.type "tuple") (rTupleA X.K) := call_tuple_of
theorem tuple_s : CallS K E (rTupleA K) tupleR := by
  intro rs vs H0 F H Q s d h
  unfold tupleR at h
  split at h
  · obtain ⟨v, rfl, d1⟩ := den1 d
    cases d1 with
    | tup r t => exact ⟨_, _, rfl, .inr ⟨same_t s r, h.val s (.tup r t)⟩⟩
  · split at h
    · rename_i e
      obtain ⟨v, rfl, d1⟩ := den1 d
      obtain ⟨a, ws, rfl, q, t⟩ := d1.lst s e
      exact ⟨_, _, rfl, .inl ⟨.inl (.inl q), fun l hl => h.newT s hl t⟩⟩
    · exact h.elim
  · exact h.elim
def rListA (K : PySem.W.Frag) : List V → Hp → VK → Prop := fun xs H Q => ∃ p ys, xs = [.ref p] ∧ (SqL K H p ys ∨ SqT K H p ys) ∧ ∀ l, H l = none → Q (.ref l) (upd H l (.lst ys))
theorem cr_list : CallR X (.type "list") (rListA X.K) := call_list_of
theorem list_s : CallS K E (rListA K) listR := by
  intro rs vs H0 F H Q s d h
  unfold listR at h
  split at h
  · split at h
    · rename_i e
      obtain ⟨v, rfl, d1⟩ := den1 d
      obtain ⟨a, ws, rfl, q, t⟩ := d1.seq s e
      exact ⟨_, _, rfl, q, fun l hl => h.newL s hl t⟩
    · exact h.elim
  · exact h.elim
def rMaxI (K : PySem.W.Frag) : List V → Hp → VK → Prop := fun xs H Q => (∃ i j, xs = [.int i, .int j] ∧ Q (.int (if j > i then j else i)) H) ∨
  ∃ a b ns ms, xs = [.ref a, .ref b] ∧ SqT K H a (ns.map V.int) ∧ SqT K H b (ms.map V.int) ∧ Q (if HT.lexLt ns ms = true then .ref b else .ref a) H
def rMinI (K : PySem.W.Frag) : List V → Hp → VK → Prop := fun xs H Q => (∃ i j, xs = [.int i, .int j] ∧ Q (.int (if j < i then j else i)) H) ∨
  ∃ a b ns ms, xs = [.ref a, .ref b] ∧ SqT K H a (ns.map V.int) ∧ SqT K H b (ms.map V.int) ∧ Q (if HT.lexLt ms ns = true then .ref b else .ref a) H
theorem dp_ints {H : Hp} : ∀ ns : List Int, DpAll K H (ns.map V.int) (ns.map PyData.int)
  | [] => .nil
  | n :: ns => .cons (.int n) (dp_ints ns)
theorem lt_rows (ns ms : List Int) : PySem.W.dataLt (.tuple (ns.map .int)) (.tuple (ms.map .int)) = HT.lexLt ns ms := by
  rw [PySem.W.dataLt_tuple]
  have := PySem.W.dataLt_ints ns ms
  unfold PySem.W.rowLt at this
  rw [this, lexLt_dec]
theorem alike_rows (ns ms : List Int) : PySem.W.AlikeAll [.tuple (ns.map .int), .tuple (ms.map .int)] := by
  refine ⟨fun x hx y hy => ?_, fun x hx => ?_⟩
  · simp only [List.mem_cons, List.not_mem_nil, or_false] at hx hy
    rcases hx with rfl | rfl <;> rcases hy with rfl | rfl <;> exact PySem.W.alike_ints _ _
  · simp only [List.mem_cons, List.not_mem_nil, or_false] at hx
    rcases hx with rfl | rfl <;> simp
theorem depth_rows2 (ns ms : List Int) : PyData.depthAll [.tuple (ns.map .int), .tuple (ms.map .int)] ≤ 1 := by
  simp [PyData.depthAll, PyData.depth, PySem.W.depth_ints]
theorem cr_maxI (hc : X.calm = true) (hu : X.A.units + 64 < cLine) : CallR X (.builtin "max") (rMaxI X.K) := by
  intro pins s σ H xs us Q I r h
  rcases h with ⟨i, j, rfl, q⟩ | ⟨a, b, ns, ms, rfl, ha, hb, q⟩
  · exact call_max2 hc pins s σ H _ us Q I r ⟨i, j, rfl, q⟩
  · obtain ⟨u, w', rfl, ru, rw'⟩ := vals2 r
    obtain ⟨as, ra⟩ := Dp.reads I (.tuple (ns.map .int)) (.ref a) u (.tup ha (dp_ints ns)) ru
    obtain ⟨bs, rb⟩ := Dp.reads I (.tuple (ms.map .int)) (.ref b) w' (.tup hb (dp_ints ms)) rw'
    have hd := depth_rows2 ns ms
    refine max_two_data (I.ok.hd hc) ra rb (alike_rows ns ms) (by omega) fun h' tk k => ⟨if HT.lexLt ns ms = true then .ref b else .ref a, H, I.kept k, ?_, q⟩
    rw [lt_rows]
    cases HT.lexLt ns ms with
    | true => exact rw'
    | false => exact ru
theorem cr_minI (hc : X.calm = true) (hu : X.A.units + 64 < cLine) : CallR X (.builtin "min") (rMinI X.K) := by
  intro pins s σ H xs us Q I r h
  rcases h with ⟨i, j, rfl, q⟩ | ⟨a, b, ns, ms, rfl, ha, hb, q⟩
  · exact call_min2 hc pins s σ H _ us Q I r ⟨i, j, rfl, q⟩
  · obtain ⟨u, w', rfl, ru, rw'⟩ := vals2 r
    obtain ⟨as, ra⟩ := Dp.reads I (.tuple (ns.map .int)) (.ref a) u (.tup ha (dp_ints ns)) ru
    obtain ⟨bs, rb⟩ := Dp.reads I (.tuple (ms.map .int)) (.ref b) w' (.tup hb (dp_ints ms)) rw'
    have hd := depth_rows2 ns ms
    refine min_two_data (I.ok.hd hc) ra rb (alike_rows ns ms) (by omega) fun h' tk k => ⟨if HT.lexLt ms ns = true then .ref b else .ref a, H, I.kept k, ?_, q⟩
    rw [lt_rows]
    cases HT.lexLt ms ns with
    | true => exact rw'
    | false => exact ru
theorem max_s : CallS K E (rMaxI K) maxR := by
  intro rs vs H0 F H Q s d h
  unfold maxR at h
  split at h
  · obtain ⟨v, w, rfl, d1, d2⟩ := den2 d
    cases d1; cases d2
    exact .inl ⟨_, _, rfl, h.val s (.int _)⟩
  · split at h
    · rename_i xs ys a b e1 e2
      obtain ⟨v, w, rfl, d1, d2⟩ := den2 d
      cases d1 with
      | tup r1 t1 =>
        cases d2 with
        | tup r2 t2 =>
          have t1' := t1
          have t2' := t2
          rw [ints_of e1] at t1'
          rw [ints_of e2] at t2'
          have z1 := dn_ints t1'
          have z2 := dn_ints t2'
          refine .inr ⟨_, _, a, b, rfl, by rw [← z1]; exact same_t s r1, by rw [← z2]; exact same_t s r2, ?_⟩
          cases q : HT.lexLt a b with
          | true => rw [q] at h; exact h.val s (.tup r2 t2)
          | false => rw [q] at h; exact h.val s (.tup r1 t1)
    · exact h.elim
  · exact h.elim
theorem min_s : CallS K E (rMinI K) minR := by
  intro rs vs H0 F H Q s d h
  unfold minR at h
  split at h
  · obtain ⟨v, w, rfl, d1, d2⟩ := den2 d
    cases d1; cases d2
    exact .inl ⟨_, _, rfl, h.val s (.int _)⟩
  · split at h
    · rename_i xs ys a b e1 e2
      obtain ⟨v, w, rfl, d1, d2⟩ := den2 d
      cases d1 with
      | tup r1 t1 =>
        cases d2 with
        | tup r2 t2 =>
          have t1' := t1
          have t2' := t2
          rw [ints_of e1] at t1'
          rw [ints_of e2] at t2'
          have z1 := dn_ints t1'
          have z2 := dn_ints t2'
          refine .inr ⟨_, _, a, b, rfl, by rw [← z1]; exact same_t s r1, by rw [← z2]; exact same_t s r2, ?_⟩
          cases q : HT.lexLt b a with
          | true => rw [q] at h; exact h.val s (.tup r2 t2)
          | false => rw [q] at h; exact h.val s (.tup r1 t1)
    · exact h.elim
  · exact h.elim
theorem bools_of : ∀ {xs : List D} {ns : List Bool}, bools? xs = some ns → xs = ns.map PyData.bool
  | [], ns, h => by cases h; rfl
  | x :: xs, ns, h => by
    cases x with
    | bool i =>
      unfold bools? at h
      split at h
      · rename_i l e
        cases h
        rw [bools_of e]
        rfl
      · cases h
    | _ => cases h
theorem dn_bools {F : Hp} : ∀ {vs : List V} {ns : List Bool}, DnAll K F vs (ns.map PyData.bool) → vs = ns.map V.bl
  | [], [], _ => rfl
  | [], _ :: _, h => by cases h
  | _ :: _, [], h => by cases h
  | v :: vs, n :: ns, h => by
    cases h with
    | cons r t =>
      cases r
      rw [dn_bools t]
      rfl
theorem all_s : CallS K E (rAll K) allR := by
  intro rs vs H0 F H Q s d h
  unfold allR at h
  split at h
  · split at h
    · rename_i e
      split at h
      · rename_i e2
        obtain ⟨v, rfl, d1⟩ := den1 d
        obtain ⟨a, ws, rfl, q, t⟩ := d1.lst s e
        rw [bools_of e2] at t
        rw [dn_bools t] at q
        exact ⟨_, _, rfl, .inl (.inl q), h.val s (.bl _)⟩
      · exact h.elim
    · exact h.elim
  · exact h.elim
theorem any_s : CallS K E (rAny K) anyR := by
  intro rs vs H0 F H Q s d h
  unfold anyR at h
  split at h
  · split at h
    · rename_i e
      split at h
      · rename_i e2
        obtain ⟨v, rfl, d1⟩ := den1 d
        obtain ⟨a, ws, rfl, q, t⟩ := d1.lst s e
        rw [bools_of e2] at t
        rw [dn_bools t] at q
        exact ⟨_, _, rfl, .inl (.inl q), h.val s (.bl _)⟩
      · exact h.elim
    · exact h.elim
  · exact h.elim
theorem sum_s : CallS K E (rSum K) sumR := by
  intro rs vs H0 F H Q s d h
  unfold sumR at h
  split at h
  · split at h
    · rename_i e
      split at h
      · rename_i e2
        obtain ⟨v, rfl, d1⟩ := den1 d
        obtain ⟨a, ws, rfl, q, t⟩ := d1.lst s e
        rw [ints_of e2] at t
        rw [dn_ints t] at q
        exact ⟨_, _, rfl, .inl (.inl q), h.val s (.int _)⟩
      · exact h.elim
    · exact h.elim
  · exact h.elim

/-! ### sorted -/
def rSortA (K : PySem.W.Frag) : List V → Hp → VK → Prop := fun vs H Q => ∃ (a : Addr) (zs : List (V × D)), vs = [.ref a] ∧ SqL K H a (zs.map (·.1)) ∧ (∀ z ∈ zs, Dp K H z.1 z.2) ∧ sortOk (zs.map (·.2)) = true ∧
  ∀ p, H p = none → Q (.ref p) (upd H p (.lst ((zs.mergeSort (PySem.W.dataLe false (·.2))).map (·.1))))
theorem sortOk_alike {xs : List D} (h : sortOk xs = true) : PySem.W.AllAlike xs := by
  unfold sortOk at h
  rw [Bool.and_eq_true, Bool.and_eq_true, Bool.and_eq_true] at h
  intro d hd d' hd'
  exact List.all_eq_true.mp (List.all_eq_true.mp h.1.1.1 d hd) d' hd'
theorem sortOk_depth {xs : List D} (h : sortOk xs = true) : ∀ d ∈ xs, d.depth ≤ 60 := by
  unfold sortOk at h
  rw [Bool.and_eq_true, Bool.and_eq_true, Bool.and_eq_true] at h
  intro d hd
  exact of_decide_eq_true (List.all_eq_true.mp h.1.1.2 d hd)
theorem sortOk_len {xs : List D} (h : sortOk xs = true) : xs.length ≤ lim := by
  unfold sortOk at h
  rw [Bool.and_eq_true, Bool.and_eq_true, Bool.and_eq_true] at h
  exact of_decide_eq_true h.1.2
theorem sortOk_able {xs : List D} (h : sortOk xs = true) : PySem.W.Sortable xs := by
  unfold sortOk at h
  rw [Bool.and_eq_true, Bool.or_eq_true] at h
  rcases h.2 with q | q
  · refine .inl fun d hd => ?_
    have z := List.all_eq_true.mp q d hd
    split at z
    · exact ⟨_, _, rfl⟩
    · cases z
  · refine .inr fun d hd => ?_
    have z := List.all_eq_true.mp q d hd
    split at z
    · cases z
    · cases z
    · rename_i h1 h2
      exact ⟨h2, h1⟩
theorem each_of {pins : List (Addr × Obj)} {σ : L2.St} {H : Hp} {s : Shared} (I : Inv X pins σ H s) : ∀ (zs : List (V × D)) (us : List Value), Vals (zs.map (·.1)) us → (∀ z ∈ zs, Dp X.K H z.1 z.2) →
    PySem.W.EachIs (fun u z => RelV z.1 u) us zs ∧ PySem.W.EachIs (fun v (b : V × D) => ∃ as, Reads s.heap v b.2 as) us zs
  | [], _, .nil, _ => ⟨.nil, .nil⟩
  | z :: zs, _, .cons r t, h => by
    obtain ⟨h1, h2⟩ := each_of I zs _ t fun y hy => h y (List.mem_cons_of_mem _ hy)
    obtain ⟨as, q⟩ := Dp.reads I z.2 z.1 _ (h z List.mem_cons_self) r
    exact ⟨.cons r h1, .cons ⟨as, q⟩ h2⟩
theorem vals_each : ∀ {us : List Value} {zs : List (V × D)}, PySem.W.EachIs (fun u z => RelV z.1 u) us zs → Vals (zs.map (·.1)) us
  | _, _, .nil => .nil
  | _, _, .cons r t => .cons r (vals_each t)
theorem cr_sortA (hu : X.A.units + 64 < cLine) : CallR X (.builtin "sorted") (rSortA X.K) := by
  intro pins s σ H vs us Q I r h
  obtain ⟨a, zs, rfl, hs, hd, ok, q⟩ := h
  obtain ⟨its, rv, hl, hz⟩ := I.list hs
  rw [Vals.ref1 r]
  obtain ⟨e1, e2⟩ := each_of I zs its rv hd
  have hlen : zs.length ≤ sizeLine := by rw [List.length_map] at hz; exact hz
  refine PySem.W.sorted_data (R := fun u (z : V × D) => RelV z.1 u) (enc := fun z : V × D => z.2) (bs := zs) hl.isList e1 e2 (sortOk_alike ok) (sortOk_able ok) hlen (fun b hb => ?_) fun out ho eo => ?_
  · have := sortOk_depth ok b.2 (List.mem_map.mpr ⟨b, hb, rfl⟩)
    omega
  · obtain ⟨ep, he⟩ := PyProof.Rows.sortedAll_at s.heap its out.toArray
    refine ⟨.ref _, upd H (s.heap.objs.size + 1) (.lst ((zs.mergeSort (PySem.W.dataLe false (·.2))).map (·.1))), I.laid (t' := s.toks) (fun _ _ => PyProof.Rows.sortedAll_old) (Nat.le_succ _) ⟨?_, out, ep, vals_each eo, he⟩, rfl, q _ (I.hok.fresh (Nat.le_succ _))⟩
    rw [List.length_map, List.length_mergeSort]
    exact hlen
theorem zip_dn {F : Hp} : ∀ {vs : List V} {ds : List D}, DnAll K F vs ds → (vs.zip ds).map (·.1) = vs ∧ (vs.zip ds).map (·.2) = ds ∧ ∀ z ∈ vs.zip ds, Dn K F z.1 z.2
  | _, _, .nil => ⟨rfl, rfl, fun z h => by cases h⟩
  | _, _, .cons r t => by
    obtain ⟨h1, h2, h3⟩ := zip_dn t
    refine ⟨by simp [h1], by simp [h2], fun z hz => ?_⟩
    rcases List.mem_cons.mp hz with e | hz
    · subst e; exact r
    · exact h3 z hz
theorem dn_zip {F : Hp} : ∀ (zs : List (V × D)), (∀ z ∈ zs, Dn K F z.1 z.2) → DnAll K F (zs.map (·.1)) (zs.map (·.2))
  | [], _ => .nil
  | z :: zs, h => .cons (h z List.mem_cons_self) (dn_zip zs fun y hy => h y (List.mem_cons_of_mem _ hy))
theorem sorted_s : CallS K E (rSortA K) sortedR := by
  intro rs vs H0 F H Q s d h
  unfold sortedR at h
  split at h
  · split at h
    · rename_i xs e
      unfold sortR at h
      split at h
      · rename_i ok
        obtain ⟨v, rfl, d1⟩ := den1 d
        obtain ⟨a, ws, rfl, q, t⟩ := d1.lst s e
        obtain ⟨z1, z2, z3⟩ := zip_dn t
        refine ⟨a, ws.zip xs, rfl, by rw [z1]; exact .inl (.inl q), fun z hz => (Dn.mono s (z3 z hz)).dp, by rw [z2]; exact ok, fun p hp => ?_⟩
        have e2 : sortD xs = ((ws.zip xs).mergeSort (PySem.W.dataLe false (·.2))).map (·.2) := by
          unfold sortD
          have z := PySem.W.sort_maps (r := PySem.W.dataLe false fun z : V × D => z.2) (s := PySem.W.dataLe false id) (fun z : V × D => z.2) (l := ws.zip xs) (fun _ _ _ _ => rfl)
          rw [z2] at z
          exact z.symm
        rw [e2] at h
        exact Ans.newL h s hp (dn_zip _ fun z hz => z3 z ((List.mergeSort_perm _ _).mem_iff.mp hz))
      · exact h.elim
    · exact h.elim
  · exact h.elim
/-! ### min of a list of data -/
def rMinA (K : PySem.W.Frag) : List V → Hp → VK → Prop := fun vs H Q => ∃ (a : Addr) (ws : List V) (x : D) (xs : List D), vs = [.ref a] ∧ SqL K H a ws ∧ DpAll K H ws (x :: xs) ∧ leastOk (x :: xs) = true ∧
  ∀ i v, ws[i]? = some v → (x :: xs).getD i .none = xs.foldl (fun a y => if PySem.W.dataLt y a then y else a) x → Q v H
theorem depthAll_le : ∀ {xs : List D} {k : Nat}, (∀ x ∈ xs, x.depth ≤ k) → PyData.depthAll xs ≤ k
  | [], _, _ => by simp [PyData.depthAll]
  | x :: xs, k, h => by
    have a := h x (List.mem_cons_self ..)
    have b := depthAll_le (xs := xs) (k := k) fun y hy => h y (List.mem_cons_of_mem _ hy)
    simp only [PyData.depthAll]; omega
theorem vals_at : ∀ {ws : List V} {us : List Value} {i : Nat} {u : Value}, Vals ws us → us[i]? = some u → ∃ v, ws[i]? = some v ∧ RelV v u
  | _, _, _, _, .nil, e => by simp at e
  | _, _, 0, _, .cons r _, e => by simp at e; subst e; exact ⟨_, rfl, r⟩
  | _, _, i + 1, _, .cons _ t, e => by
    obtain ⟨v, h1, h2⟩ := vals_at (i := i) t (by simpa using e)
    exact ⟨v, by simpa using h1, h2⟩
theorem cr_minA (hc : X.calm = true) (hu : X.A.units + 64 < cLine) : CallR X (.builtin "min") (rMinA X.K) := by
  intro pins s σ H vs us Q I r h
  obtain ⟨a, ws, x, xs, rfl, hs, hd, ok, q⟩ := h
  obtain ⟨its, rv, hl, hz⟩ := I.list hs
  rw [Vals.ref1 r]
  obtain ⟨as, hr⟩ := Dp.readsAll I (x :: xs) ws its hd rv
  unfold leastOk at ok
  simp only [Bool.and_eq_true, List.all_eq_true, decide_eq_true_eq] at ok
  obtain ⟨⟨o1, o2⟩, o3⟩ := ok
  have hdp := depthAll_le o2
  refine min_list_at (I.ok.hd hc) hl.isList (by simpa using hr) ⟨o1, fun y hy e => by have := o3 y hy; rw [e] at this; simp at this⟩ (by omega) fun i v h' tk hv e k => ?_
  obtain ⟨v', h1, h2⟩ := vals_at rv (by simpa using hv)
  exact ⟨v', H, I.kept k, h2, q i v' h1 e⟩
theorem min1_s : CallS K E (rMinA K) min1R := by
  intro rs vs H0 F H Q s d h
  unfold min1R at h
  split at h
  · split at h
    · rename_i x xs e
      split at h
      · rename_i ok
        obtain ⟨v, rfl, d1⟩ := den1 d
        obtain ⟨a, ws, rfl, q, t⟩ := d1.lst s e
        refine ⟨a, ws, x, xs, rfl, .inl (.inl q), (t.mono s).dp, ok, fun i v hv ei => ?_⟩
        obtain ⟨dd, g1, g2⟩ := t.get hv
        have : (x :: xs).getD i .none = dd := by rw [List.getD_eq_getElem?_getD, g1]; rfl
        rw [← ei, this] at h
        exact h.val s g2
      · exact h.elim
    · exact h.elim
  · exact h.elim
/-! ### isinstance -/
def tyN : Ty → String
  | .int => "int"
  | .bool => "bool"
  | .str => "str"
  | .tuple => "tuple"
  | .list => "list"
  | .none => "NoneType"
/-- the type of a result -/
def R.ty : R → Ty
  | .d .none => .none
  | .d (.bool _) => .bool
  | .d (.int _) => .int
  | .d (.str _) => .str
  | .d (.tuple _) => .tuple
  | _ => .list
theorem ty_of {H0 F H : Hp} {v : V} {r : R} (s : Same F H) (d : Den K H0 F H v r) (hs : ∀ xs, r ≠ .s xs) (hi : r.isD = true) : TyX K H v (.type (tyN r.ty)) := by
  cases r with
  | d x =>
    cases x with
    | none => cases d; exact .base .non
    | bool b => cases d; exact .base (.bl b)
    | int i => cases d; exact .base (.int i)
    | str x => cases d; exact .base (.str x)
    | list ys => cases d with | lst r t => exact .base (.lst (s _ _ r))
    | tuple ys =>
      cases d with
      | tup r t =>
        rcases same_t s r with (q | ⟨o, q⟩) | ⟨o, its, n, q, c, _⟩
        · exact .base (.tup q)
        · exact .fTuple q
        · exact .kTuple q c
    | dict kvs => cases d
  | l xs => obtain ⟨a, vs, rfl, h0, hf, hh, t⟩ := d; exact .base (.lst hh)
  | b xs => obtain ⟨a, vs, rfl, hf, hh, t⟩ := d; exact .base (.lst hh)
  | s xs => exact absurd rfl (hs xs)
  | m xs => cases hi
  | n xs => cases hi
  | q => cases hi
theorem kit_tyN (a b : Ty) : kitB (tyN a) (tyN b) = some (match a, b with
    | .int, .int => true | .bool, .bool => true | .bool, .int => true | .str, .str => true | .tuple, .tuple => true | .list, .list => true | .none, .none => true | _, _ => false) := by
  cases a <;> cases b <;> decide +kernel
theorem tyR_ty {r : R} {t : Ty} (hd : ∀ kvs, r ≠ .d (.dict kvs)) (hi : r.isD = true) : tyR r t = (match r.ty, t with
    | .int, .int => true | .bool, .bool => true | .bool, .int => true | .str, .str => true | .tuple, .tuple => true | .list, .list => true | .none, .none => true | _, _ => false) := by
  cases r with
  | d x =>
    cases x with
    | dict kvs => exact absurd rfl (hd kvs)
    | _ => cases t <;> rfl
  | m xs => cases hi
  | n xs => cases hi
  | q => cases hi
  | _ => cases t <;> rfl
end
end PP

set_option Elab.async false
set_option linter.all false
set_option autoImplicit false
set_option maxRecDepth 100000
set_option maxHeartbeats 1000000
namespace PP
open PySem L2 RZ
/-! ### calls of built-ins -/
section
variable {X : Cx} {E : EX} {C : Nat → List R → Rs R} {pos p : Pos} {e : Expr} {es : List Expr} {xs : Exs}
theorem q_callB {id : String} {x : Str} {r : List V → Hp → VK → Prop} {g : List R → Rs R} (hc : CallR X (.builtin id) r) (hs : CallS X.K E r g) (hg : Gl X x) (hm : X.mg x = none) (hv : bootBuiltins x = some (.builtin id)) (ha : PA X (e :: es) (tOfA X.K E (evs C xs)))
    (hn : x ≠ "__name__") (hdb : (x == ("__debug__" : Str)) = false) (he : starEach (e :: es) X.env = (false, eval e X.env) :: starEach es X.env) (hpl : (backTo pos (starEach es X.env)).any (·.1) = false) :
    PE X (.Call (.Name x p) (e :: es) [] pos) (tOf X.K E fun ρ => evs C xs ρ >>= fun rs => g rs) := by
  refine pe_of (pe_callB hc hg hm hv ha hn hdb he hpl) fun σ H Q h => ?_
  obtain ⟨ρ, F, R, h⟩ := h
  exact ⟨ρ, F, R, AnsA.bind h fun rs hrs vs F1 H1 g1 d1 => hs rs vs H F1 H1 Q g1.sub d1 (hrs.grow g1)⟩
theorem q_callTy {T : String} {x : Str} {r : List V → Hp → VK → Prop} {g : List R → Rs R} (hc : CallR X (.type T) r) (hs : CallS X.K E r g) (hg : Gl X x) (hm : X.mg x = none) (hv : bootBuiltins x = some (.type T)) (ha : PA X (e :: es) (tOfA X.K E (evs C xs)))
    (hn : x ≠ "__name__") (hdb : (x == ("__debug__" : Str)) = false) (he : starEach (e :: es) X.env = (false, eval e X.env) :: starEach es X.env) (hpl : (backTo pos (starEach es X.env)).any (·.1) = false) :
    PE X (.Call (.Name x p) (e :: es) [] pos) (tOf X.K E fun ρ => evs C xs ρ >>= fun rs => g rs) := by
  refine pe_of (pe_callTy hc hg hm hv ha hn hdb he hpl) fun σ H Q h => ?_
  obtain ⟨ρ, F, R, h⟩ := h
  exact ⟨ρ, F, R, AnsA.bind h fun rs hrs vs F1 H1 g1 d1 => hs rs vs H F1 H1 Q g1.sub d1 (hrs.grow g1)⟩
end
/-! ### defs of the program -/
/-- the arguments as they are handed over -/
theorem arg1 {K : PySem.W.Frag} {F0 H0 F F' H : Hp} {v : V} {r q : R} (g : Grow F0 H0 F H) (s : Same F' F) (d : Den K H0 F' H v r) (e : r.arg = .ok q) : ∃ F1, Grow F0 H0 F1 H ∧ Same F F1 ∧ ∀ F2, Same F1 F2 → Den K H F2 H v q := by
  cases r with
  | d y =>
    cases e
    exact ⟨F, g, Same.refl F, fun F2 s2 => Dn.mono (s.trans s2) d⟩
  | l ys =>
    cases e
    obtain ⟨F1, g1, s1, t⟩ := frz1 (x := .list ys) g s d rfl
    exact ⟨F1, g1, s1, fun F2 s2 => Dn.mono s2 t⟩
  | b ys => cases e
  | s ys =>
    cases e
    obtain ⟨a, vs, e1, hh, t⟩ := d
    exact ⟨F, g, Same.refl F, fun F2 s2 => ⟨a, vs, e1, same_l (s.trans s2) hh, t.mono (s.trans s2)⟩⟩
  | m ys =>
    cases e
    obtain ⟨a, vs, e1, hh, t⟩ := d
    exact ⟨F, g, Same.refl F, fun F2 s2 => ⟨a, vs, e1, (s.trans s2) _ _ hh, t.mono (s.trans s2)⟩⟩
  | n ys => cases e
  | q => cases e
theorem argAll_cons {r : R} {rs : List R} {ds : List R} (e : argAll (r :: rs) = .ok ds) : ∃ x xs, r.arg = .ok x ∧ argAll rs = .ok xs ∧ ds = x :: xs := by
  unfold argAll mapR at e
  cases q : r.arg with
  | bad => rw [q] at e; cases e
  | err c => rw [q] at e; cases e
  | ok x =>
    rw [q] at e
    cases q2 : mapR R.arg rs with
    | bad => rw [q2] at e; cases e
    | err c => rw [q2] at e; cases e
    | ok xs => rw [q2] at e; cases e; exact ⟨x, xs, rfl, q2, rfl⟩
theorem argN {K : PySem.W.Frag} {F0 H0 F' H : Hp} : ∀ {vs : List V} {rs as : List R} {F : Hp}, Grow F0 H0 F H → Same F' F → DenAll K H0 F' H vs rs → argAll rs = .ok as → ∃ F1, Grow F0 H0 F1 H ∧ Same F F1 ∧ ∀ F2, Same F1 F2 → DenAll K H F2 H vs as
  | [], [], as, F, g, s, d, e => by cases e; exact ⟨F, g, Same.refl F, fun _ _ => trivial⟩
  | v :: vs, r :: rs, as, F, g, s, ⟨d, ds⟩, e => by
    obtain ⟨x, ys, e1, e2, rfl⟩ := argAll_cons e
    obtain ⟨F1, g1, s1, t1⟩ := arg1 g s d e1
    obtain ⟨F2, g2, s2, t2⟩ := argN g1 (s.trans s1) ds e2
    exact ⟨F2, g2, s1.trans s2, fun F3 s3 => ⟨t1 F3 (s2.trans s3), t2 F3 s3⟩⟩
theorem argAll_len : ∀ {rs as : List R}, argAll rs = .ok as → as.length = rs.length
  | [], as, e => by cases e; rfl
  | r :: rs, as, e => by
    obtain ⟨x, ys, e1, e2, rfl⟩ := argAll_cons e
    simp [argAll_len e2]
theorem Ans.argAll {K : PySem.W.Frag} {E : EX} {F H : Hp} {rs : List R} {k : List R → Rs R} {Q : VK} (h : Ans K E (argAll rs >>= k) F H Q) : ∃ ds, PP.argAll rs = .ok ds ∧ Ans K E (k ds) F H Q := by
  cases q : PP.argAll rs with
  | bad => rw [q] at h; exact h.elim
  | err c =>
    exfalso
    have : ∀ (rs : List R) c, PP.argAll rs ≠ .err c := by
      intro rs
      induction rs with
      | nil => intro c e; cases e
      | cons r rs ih =>
        intro c e
        unfold PP.argAll mapR at e
        cases q2 : mapR R.arg rs with
        | err c2 => exact ih c2 q2
        | bad => cases r <;> simp [R.arg, q2] at e
        | ok xs => cases r <;> simp [R.arg, q2] at e
    exact this rs c q
  | ok ds => rw [q] at h; exact ⟨ds, rfl, h⟩
def argOk (rs : List R) : Bool := rs.all fun r => match r with | .d _ => true | .s _ => true | .m _ => true | _ => false
theorem argAll_ok : ∀ {rs as : List R}, argAll rs = .ok as → argOk as = true
  | [], as, e => by cases e; rfl
  | r :: rs, as, e => by
    obtain ⟨x, ys, e1, e2, rfl⟩ := argAll_cons e
    have ih := argAll_ok e2
    unfold argOk at ih ⊢
    rw [List.all_cons, ih]
    cases r <;> cases e1 <;> rfl
/-- THE PROMISE of a def with the pure meaning g, np parameters; cl: the classes of exceptions -/
def spP (K : PySem.W.Frag) (cl : Nat → Value) (np : Nat) (g : List R → Rs R) : Sp := fun vs H Q E => ∃ F rs, Same F H ∧ DenAll K H F H vs rs ∧ rs.length = np ∧ argOk rs = true ∧ Ans K (fun c H' => E (cl c) none H') (g rs) F H Q
theorem denAll_len {K : PySem.W.Frag} {H0 F H : Hp} : ∀ {vs : List V} {rs : List R}, DenAll K H0 F H vs rs → vs.length = rs.length
  | [], [], _ => rfl
  | _ :: _, _ :: _, ⟨_, b⟩ => by simp [denAll_len b]
section
variable {X : Cx} {CX : CXT} {Ex0 : XK} {cl : Nat → Value} {k np : Nat} {f : Addr} {fd : FuncData} {ps : List Str} {C : Nat → List R → Rs R} {pos p : Pos} {e : Expr} {es : List Expr} {xs : Exs} {x : Str} {n : Nat}
theorem call_of {t : TA} {ρs : Unit} (hlen : ∀ rs r, C n rs = r → r ≠ .bad → rs.length = np) : ∀ σ H Q, tOf X.K (fun c H' => Ex0 (cl c) none H') (ev C (.call n xs)) σ H Q → tCall (spP X.K cl np (C n)) [] Ex0 (tOfA X.K (fun c H' => Ex0 (cl c) none H') (evs C xs)) σ H Q := by
  rintro σ H Q ⟨ρ, F, R, h⟩
  rw [ev.eq_16] at h
  refine ⟨ρ, F, R, AnsA.bind h fun rs hrs vs F1 H1 g1 d1 => ?_⟩
  obtain ⟨as, e1, hk⟩ := Ans.argAll hrs
  obtain ⟨F2, g2, s2, t2⟩ := argN g1 (Same.refl F1) d1 e1
  have hb : C n as ≠ .bad := fun q => by rw [q] at hk; exact hk
  rw [List.append_nil]
  exact ⟨F2, as, g2.sub, t2 F2 (Same.refl F2), hlen as _ rfl hb, argAll_ok e1, hk.grow g2⟩
theorem q_call (F : FnOk X.prog X.w X.K X.mg X.base CX k f fd ps (spP X.K cl np (C n))) (hr : Room k X.A) (hg : Gl X x) (hm : X.mg x = some (.ref f)) (hk : PySem.W.keepIn X.K (.ref f) = true) (hb : Binds X.K fd ps []) (hx : Passes CX X Ex0)
    (ha : PA X (e :: es) (tOfA X.K (fun c H' => Ex0 (cl c) none H') (evs C xs))) (hdb : (x == ("__debug__" : Str)) = false) (he : starEach (e :: es) X.env = (false, eval e X.env) :: starEach es X.env) (hpl : (backTo pos (starEach es X.env)).any (·.1) = false)
    (hlen : ∀ rs r, C n rs = r → r ≠ .bad → rs.length = np) : PE X (.Call (.Name x p) (e :: es) [] pos) (tOf X.K (fun c H' => Ex0 (cl c) none H') (ev C (.call n xs))) :=
  pe_of (pe_call F hr hg hm hk hb .nil hx ha hdb he hpl) (call_of (t := tOfA X.K (fun c H' => Ex0 (cl c) none H') (evs C xs)) (ρs := ()) hlen)
theorem q_call0 (F : FnOk X.prog X.w X.K X.mg X.base CX k f fd ps (spP X.K cl np (C n))) (hr : Room k X.A) (hg : Gl X x) (hm : X.mg x = some (.ref f)) (hk : PySem.W.keepIn X.K (.ref f) = true) (hb : Binds X.K fd ps []) (hx : Passes CX X Ex0)
    (hdb : (x == ("__debug__" : Str)) = false) (hlen : ∀ rs r, C n rs = r → r ≠ .bad → rs.length = np) : PE X (.Call (.Name x p) [] [] pos) (tOf X.K (fun c H' => Ex0 (cl c) none H') (ev C (.call n .nil))) := by
  refine pe_of (pe_call0 F hr hg hm hk hb .nil hx hdb) fun σ H Q h => ?_
  obtain ⟨ρ, F, R, h⟩ := h
  rw [ev.eq_16, evs.eq_1] at h
  have h : Ans X.K (fun c H' => Ex0 (cl c) none H') (C n []) F H Q := h
  have hb : C n [] ≠ .bad := fun q => by rw [q] at h; exact h
  exact ⟨F, [], R.sub, trivial, hlen [] _ rfl hb, rfl, h⟩
end

/-! ### isinstance -/
section
variable {X : Cx} {E : EX} {K : PySem.W.Frag} {C : Nat → List R → Rs R} {pos p q r : Pos} {a : Expr} {xa : Ex}
theorem isi_ty {H0 F H : Hp} {v : V} {x : R} {ts : List Ty} {Q : Bool → Hp → Prop} (s : Same F H) (d : Den K H0 F H v x) (h : AnsT E (isiR ts x) F H Q) : TyX K H v (.type (tyN x.ty)) ∧ Q (ts.any (tyR x)) H ∧ ∀ t, PySem.W.kitOne K (.type (tyN x.ty)) (.type (tyN t)) = some (tyR x t) := by
  have hs : ∀ xs, x ≠ .s xs := fun xs e => by subst e; exact h
  have hd : ∀ kvs, x ≠ .d (.dict kvs) := fun kvs e => by subst e; cases d
  have hi : x.isD = true := by
    cases x with
    | m xs => exact h.elim
    | n xs => exact h.elim
    | q => exact h.elim
    | _ => rfl
  refine ⟨ty_of s d hs hi, ?_, fun t => ?_⟩
  · cases x with
    | s xs => exact absurd rfl (hs xs)
    | m xs => cases hi
    | n xs => cases hi
    | q => cases hi
    | _ => exact AnsT.val h s
  · rw [tyR_ty hd hi]
    exact kit_ty (kit_tyN _ _)
def isiT (ta tb : TE) (K : PySem.W.Frag) : TE := tCB (fun vs H Q => rIsi K vs H Q ∨ rIsiT K vs H Q) (tCons ta (tCons tb tNil))
theorem q_isi1 {t : Ty} {T : Str} (ha : PE X a (tOf X.K E (ev C xa))) (hg : Gl X "isinstance") (hm : X.mg "isinstance" = none) (hgT : Gl X T) (hmT : X.mg T = none) (hvT : bootBuiltins T = some (.type (tyN t))) (hnT : T ≠ "__name__") (hdT : (T == ("__debug__" : Str)) = false)
    (he : starEach [a, .Name T q] X.env = (false, eval a X.env) :: starEach [.Name T q] X.env) : PE X (.Call (.Name "isinstance" p) [a, .Name T q] [] pos) (tOf X.K E (ev C (.isi t xa))) := by
  refine pe_of (pe_callB call_isi hg hm PyProof.Rows.boot_isinstance (pa_cons ha (pa_cons (pe_bltn hgT hmT hvT (v := .ty (tyN t)) rfl hnT hdT) pa_nil rfl) he) (by decide) (by decide) he rfl) fun σ H Q h => ?_
  obtain ⟨ρ, F, R, h⟩ := h
  rw [ev.eq_18] at h
  refine ⟨ρ, F, R, h.bind fun x hx v F1 H1 g1 d1 => ?_⟩
  obtain ⟨h1, h2, h3⟩ := isi_ty g1.sub d1 (AnsT.boolR (hx.grow g1))
  refine ⟨v, .ty (tyN t), _, _, _, rfl, .ty _, h1, h3 t, ?_⟩
  simpa using h2
theorem q_isi2 {t u : Ty} {T U : Str} {k : Nat} {q2 : Pos} (ha : PE X a (tOf X.K E (ev C xa))) (hg : Gl X "isinstance") (hm : X.mg "isinstance" = none) (hgT : Gl X T) (hmT : X.mg T = none) (hvT : bootBuiltins T = some (.type (tyN t))) (hnT : T ≠ "__name__") (hdT : (T == ("__debug__" : Str)) = false)
    (hgU : Gl X U) (hmU : X.mg U = none) (hvU : bootBuiltins U = some (.type (tyN u))) (hnU : U ≠ "__name__") (hdU : (U == ("__debug__" : Str)) = false)
    (he : starEach [a, .Tuple [.Name T q, .Name U q2] k r] X.env = (false, eval a X.env) :: starEach [.Tuple [.Name T q, .Name U q2] k r] X.env) : PE X (.Call (.Name "isinstance" p) [a, .Tuple [.Name T q, .Name U q2] k r] [] pos) (tOf X.K E (ev C (.isi2 t u xa))) := by
  refine pe_of (pe_callB call_isiT hg hm PyProof.Rows.boot_isinstance (pa_cons ha (pa_cons (pe_tup (pa_cons (pe_bltn hgT hmT hvT (v := .ty (tyN t)) rfl hnT hdT) (pa_cons (pe_bltn hgU hmU hvU (v := .ty (tyN u)) rfl hnU hdU) pa_nil rfl) rfl)) pa_nil rfl) he) (by decide) (by decide) he rfl) fun σ H Q h => ?_
  obtain ⟨ρ, F, R, h⟩ := h
  rw [ev.eq_19] at h
  refine ⟨ρ, F, R, h.bind fun x hx v F1 H1 g1 d1 => ?_⟩
  refine ⟨by show 2 ≤ sizeLine; decide, fun tp htp => ?_⟩
  have g2 : Grow F1 H1 F1 (upd H1 tp (.tup [.ty (tyN t), .ty (tyN u)])) := Grow.own g1.sub htp
  obtain ⟨h1, h2, h3⟩ := isi_ty g2.sub (d1.grow g2) (AnsT.boolR (hx.grow (g1.trans g2)))
  refine ⟨v, tp, [.ty (tyN t), .ty (tyN u)], _, [.type (tyN t), .type (tyN u)], tyR x t || tyR x u, rfl, upd_same, .cons (.ty _) (.cons (.ty _) .nil), h1, ?_, ?_⟩
  · refine kitAny_cons (h3 t) (fun e => kitAny_cons (h3 u) (fun e2 => ?_) fun e2 => ?_) fun e => ?_
    · rw [e, e2]; exact kitAny_nil
    · rw [e2]; simp
    · rw [e]; simp
  · simpa using h2
end

/-! ### len(set(..)) of tuples of ints -/
theorem dcount_eq : ∀ (ks vs : List (List Int)), vs.Nodup → (∀ v, v ∈ vs ↔ v ∈ ks) → vs.length = dcount ks
  | [], vs, _, h => by
    have : vs = [] := List.eq_nil_iff_forall_not_mem.mpr fun v hv => by have := (h v).mp hv; cases this
    rw [this]
    rfl
  | k :: ks, vs, nd, h => by
    unfold dcount
    by_cases hk : k ∈ ks
    · rw [if_pos hk]
      refine dcount_eq ks vs nd fun v => (h v).trans ⟨fun q => ?_, List.mem_cons_of_mem _⟩
      rcases List.mem_cons.mp q with e | q
      · rw [e]; exact hk
      · exact q
    · rw [if_neg hk]
      have hv : k ∈ vs := (h k).mpr List.mem_cons_self
      have ih := dcount_eq ks (vs.erase k) (nd.erase k) fun v => by
        rw [nd.mem_erase_iff, h v, List.mem_cons]
        constructor
        · rintro ⟨q1, q2⟩
          exact q2.resolve_left q1
        · exact fun q => ⟨fun e => hk (e ▸ q), .inr q⟩
      rw [List.length_erase_of_mem hv] at ih
      have : 0 < vs.length := List.length_pos_of_mem hv
      omega
def rLenT (K : PySem.W.Frag) (P : Program) (w : World) : List V → Hp → VK → Prop := fun vs H Q => ∃ (a : Addr) (L : List (Addr × List Int)), vs = [.ref a] ∧ H a = some (SetTO P w a L) ∧ (∀ p ∈ L, SqT K H p.1 (p.2.map V.int)) ∧ ((L.map (·.2)).Nodup → Q (.int L.length) H)
theorem cr_lenT {X : Cx} : CallR X (.builtin "len") (rLenT X.K X.prog X.w) := by
  intro pins s σ H vs us Q I r h
  obtain ⟨a, L, rfl, ha, hk, q⟩ := h
  have R0 : SetT0 X.prog X.w s.heap a L := (I.hok a _ ha).1
  obtain ⟨es, ep, t, R⟩ := R0.full fun p hp => I.isT (hk p hp)
  rw [Vals.ref1 r]
  obtain ⟨o, ho, hex, hd⟩ := R.ob
  have hsz := R.size
  have few := R.few
  exact call_len_set ho hex hd R.fits (by omega) ⟨.int L.length, H, I.tok _, ⟨_, by rw [hsz]⟩, q R.nd⟩
theorem tints_of {K : PySem.W.Frag} {F : Hp} : ∀ {ds : List D} {vs : List V} {ks : List (List Int)}, tints? ds = some ks → DnAll K F vs ds → ∃ zs : List (Addr × List Int), vs = zs.map (fun p => V.ref p.1) ∧ zs.map (·.2) = ks ∧ ∀ p ∈ zs, SqT K F p.1 (p.2.map V.int)
  | [], _, ks, e, .nil => by cases e; exact ⟨[], rfl, rfl, fun p h => by cases h⟩
  | d :: ds, _, ks, e, .cons r t => by
    cases d with
    | tuple xs =>
      unfold tints? at e
      split at e
      · rename_i ns l e1 e2
        cases e
        obtain ⟨zs, z1, z2, z3⟩ := tints_of e2 t
        cases r with
        | tup q t2 =>
          rw [ints_of e1] at t2
          rw [dn_ints t2] at q
          refine ⟨(_, ns) :: zs, by rw [z1]; rfl, by rw [← z2]; rfl, fun p hp => ?_⟩
          rcases List.mem_cons.mp hp with e | hp
          · rw [e]; exact q
          · exact z3 p hp
      · cases e
    | _ => cases e
theorem q_lenset {X : Cx} {E : EX} {C : Nat → List R → Rs R} {a : Expr} {xa : Ex} {p p2 q pos : Pos} (hc : X.calm = true) (hu : X.A.units + 64 < cLine) (hg : Gl X "len") (hm : X.mg "len" = none) (hg2 : Gl X "set") (hm2 : X.mg "set" = none) (ha : PE X a (tOf X.K E (ev C xa)))
    (hs : starEach [a] X.env = (false, eval a X.env) :: starEach [] X.env) : PE X (.Call (.Name "len" p) [.Call (.Name "set" p2) [a] [] q] [] pos) (tOf X.K E (ev C (.lenset xa))) := by
  refine pe_of (pe_callB cr_lenT hg hm PySem.boot_len (pa_cons (pe_callTy (cr_setOfT hc hu) hg2 hm2 PyProof.Rows.boot_set (pa_cons ha pa_nil hs) (by decide) (by decide) hs rfl) pa_nil rfl) (by decide) (by decide) rfl rfl) fun σ H Q h => ?_
  obtain ⟨ρ, F, R, h⟩ := h
  rw [ev.eq_22] at h
  refine ⟨ρ, F, R, h.bind fun x hx v F1 H1 g1 d1 => ?_⟩
  have hx := hx.grow g1
  have hx : Ans X.K E (match x.lst? with
    | some xs => match tints? xs with
      | some ks => if ks.length < 64 then .ok (.d (.int (dcount ks : Nat))) else .bad
      | none => .bad
    | none => .bad) F1 H1 Q := hx
  cases e1 : x.lst? with
  | none => rw [e1] at hx; exact hx.elim
  | some xs =>
    simp only [e1] at hx
    cases e2 : tints? xs with
    | none => rw [e2] at hx; exact hx.elim
    | some ks =>
      simp only [e2] at hx
      split at hx
      · rename_i hz
        obtain ⟨l, vs, rfl, q, t⟩ := d1.lst g1.sub e1
        obtain ⟨zs, z1, z2, z3⟩ := tints_of e2 t
        have hl : zs.length = ks.length := by rw [← z2, List.length_map]
        rw [z1] at q
        refine ⟨l, zs, rfl, .inl (.inl q), fun p hp => same_t g1.sub (z3 p hp), by omega, fun b L hb h1 h2 => ?_⟩
        refine ⟨b, L, rfl, upd_same, fun p hp => same_t (g1.sub.trans (same_new hb)) (z3 p (h1 p hp)), fun nd => ?_⟩
        have ec : L.length = dcount ks := by
          have := dcount_eq ks (L.map (·.2)) nd fun v => by
            rw [← z2]
            constructor
            · intro hv
              obtain ⟨p, hp, e⟩ := List.mem_map.mp hv
              exact List.mem_map.mpr ⟨p, h1 p hp, e⟩
            · intro hv
              obtain ⟨p, hp, e⟩ := List.mem_map.mp hv
              rw [← e]
              exact h2 p hp
          rw [List.length_map] at this
          exact this
        rw [ec]
        exact hx _ F1 _ (Grow.own g1.sub hb) (.int _)
      · exact hx.elim
/-! ### what is walked -/
/-- J walks the data ds that stand in G -/
def YD (K : PySem.W.Frag) (G : Hp) (ds : List D) (i : Nat) (H : Hp) (x : V) (H' : Hp) : Prop := ∃ d, ds[i]? = some d ∧ ∀ F, Same G F → Same F H → ∃ F', Grow F H F' H' ∧ Dn K F' x d
def ItD (K : PySem.W.Frag) (G : Hp) (J : L2.It) (ds : List D) : Prop := Walk J ds.length (fun H => Same G H) (YD K G ds)
def AnsI (K : PySem.W.Frag) (E : EX) (m : Rs (List D)) (F H : Hp) (Q : L2.It → Hp → Prop) : Prop :=
  match m with
  | .bad => False
  | .err c => ∀ F' H', Grow F H F' H' → E c H'
  | .ok ds => ∀ J F' H', Grow F H F' H' → ItD K F' J ds → Q J H'
def tOfI (K : PySem.W.Frag) (E : EX) (f : Sto → Rs (List D)) : TI := fun σ H Q => ∃ ρ F, Rel K ρ σ F H ∧ AnsI K E (f ρ) F H Q
section
variable {X : Cx} {E : EX} {K : PySem.W.Frag} {C : Nat → List R → Rs R} {pos p : Pos} {tg a b : Expr} {xa xb : Ex} {F H : Hp}
theorem AnsI.bind {m : Rs R} {k : R → Rs (List D)} {Q : L2.It → Hp → Prop} {Q1 : VK} (h : AnsI K E (m >>= k) F H Q)
    (hk : ∀ x, AnsI K E (k x) F H Q → ∀ v F1 H1, Grow F H F1 H1 → Den K H F1 H1 v x → Q1 v H1) : Ans K E m F H Q1 := by
  cases m with
  | bad => exact h
  | err c => exact h
  | ok r => exact hk r h
theorem AnsI.grow {F' H' : Hp} {m : Rs (List D)} {Q : L2.It → Hp → Prop} (h : AnsI K E m F H Q) (g : Grow F H F' H') : AnsI K E m F' H' Q := by
  cases m with
  | bad => exact h
  | err c => exact fun F2 H2 g2 => h F2 H2 (g.trans g2)
  | ok r => exact fun J F2 H2 g2 => h J F2 H2 (g.trans g2)
theorem itd_list {G : Hp} {l : Addr} {vs : List V} {ds : List D} (h : SqL K G l vs) (t : DnAll K G vs ds) : ItD K G (Itl K l) ds := by
  unfold ItD
  rw [← t.length]
  refine (walk_list (K := K) (a := l) (xs := vs)).mono (fun H s => same_l s h) fun i H x H' hi s y => ?_
  obtain ⟨rfl, e⟩ := y
  obtain ⟨d, e1, q⟩ := t.get e
  exact ⟨d, e1, fun F s1 s2 => ⟨F, Grow.refl s2, q.mono s1⟩⟩
theorem itd_tup {G : Hp} {l : Addr} {vs : List V} {ds : List D} (h : SqT K G l vs) (t : DnAll K G vs ds) : ItD K G (Itt K l) ds := by
  unfold ItD
  rw [← t.length]
  refine (walk_tup (K := K) (a := l) (xs := vs)).mono (fun H s => same_t s h) fun i H x H' hi s y => ?_
  obtain ⟨rfl, e⟩ := y
  obtain ⟨d, e1, q⟩ := t.get e
  exact ⟨d, e1, fun F s1 s2 => ⟨F, Grow.refl s2, q.mono s1⟩⟩
theorem itd_range {G : Hp} {i j : Int} : ItD K G (Itr i (j - i).toNat) (rngL i j) := by
  unfold ItD
  have e : (rngL i j).length = (j - i).toNat := by simp [rngL]
  rw [e]
  refine (walk_range (lo := i) (n := (j - i).toNat)).mono (fun _ _ => trivial) fun k H x H' hi s y => ?_
  obtain ⟨rfl, rfl⟩ := y
  refine ⟨.int (i + k), ?_, fun F s1 s2 => ⟨F, Grow.refl s2, .int _⟩⟩
  simp [rngL, List.getElem?_map, List.getElem?_range hi]
/-- a list or a tuple, frozen for the walk -/
theorem itm_list {F0 H0 F H : Hp} {v : V} {x : R} {ds : List D} (g : Grow F0 H0 F H) (d : Den K H0 F H v x) (e : x.itm = .ok ds) : ∃ F1 a vs, Grow F0 H0 F1 H ∧ v = .ref a ∧ DnAll K F1 vs ds ∧ ((SqL K F1 a vs ∧ ∀ ys, x ≠ .d (.tuple ys)) ∨ (SqT K F1 a vs ∧ x = .d (.tuple ds))) := by
  cases x with
  | d y =>
    cases y with
    | list ys =>
      cases e
      cases d with
      | lst r t => exact ⟨F, _, _, g, rfl, t, .inl ⟨.inl (.inl r), fun _ q => by cases q⟩⟩
    | tuple ys =>
      cases e
      cases d with
      | tup r t => exact ⟨F, _, _, g, rfl, t, .inr ⟨r, rfl⟩⟩
    | _ => cases e
  | l ys =>
    cases e
    obtain ⟨F1, g1, s1, t⟩ := frz1 (x := .list _) g (Same.refl F) d rfl
    cases t with
    | lst r t => exact ⟨F1, _, _, g1, rfl, t, .inl ⟨.inl (.inl r), fun _ q => by cases q⟩⟩
  | b ys => cases e
  | s ys =>
    cases e
    obtain ⟨a, vs, rfl, hh, t⟩ := d
    exact ⟨F, a, vs, g, rfl, t, .inl ⟨hh, fun _ q => by cases q⟩⟩
  | m ys => cases e
  | n ys => cases e
  | q => cases e
theorem q_seq (ha : PE X a (tOf X.K E (ev C xa))) : PI X tg a (tOfI X.K E (evI C (.seq xa))) := by
  refine ⟨fun pins s σ H R I h => ?_⟩
  obtain ⟨ρ, F, Rl, h⟩ := h
  rw [evI.eq_1] at h
  by_cases ht : ∃ ys, ev C xa ρ = .ok (.d (.tuple ys))
  · obtain ⟨ys, e⟩ := ht
    refine (pi_tup ha).run pins s σ H R I ⟨ρ, F, Rl, ?_⟩
    rw [e] at h ⊢
    intro v F1 H1 g1 d1
    have h : AnsI X.K E (.ok ys) F H R := h
    obtain ⟨F2, l, vs, g2, rfl, t, q⟩ := itm_list (x := .d (.tuple ys)) (ds := ys) g1 d1 rfl
    rcases q with ⟨_, q⟩ | ⟨q, _⟩
    · exact absurd rfl (q ys)
    · exact ⟨l, rfl, ⟨vs, same_t g2.sub q⟩, h _ F2 H1 g2 (itd_tup q t)⟩
  · refine (pi_list ha).run pins s σ H R I ⟨ρ, F, Rl, ?_⟩
    cases e : ev C xa ρ with
    | bad => rw [e] at h; exact h
    | err c => rw [e] at h; exact h
    | ok x =>
      rw [e] at h
      intro v F1 H1 g1 d1
      have h : AnsI X.K E x.itm F H R := h
      cases e2 : x.itm with
      | bad => rw [e2] at h; exact h.elim
      | err c => exfalso; cases x with
        | d y => cases y <;> cases e2
        | _ => cases e2
      | ok ds =>
        rw [e2] at h
        obtain ⟨F2, l, vs, g2, rfl, t, q⟩ := itm_list g1 d1 e2
        rcases q with ⟨q, _⟩ | ⟨_, q⟩
        · exact ⟨l, rfl, ⟨vs, same_l g2.sub q⟩, h _ F2 H1 g2 (itd_list q t)⟩
        · subst q; exact absurd ⟨_, e⟩ ht
theorem small_of {i : Int} (h : smallI i = true) : -1000000 ≤ i ∧ i ≤ 1000000 := by
  unfold smallI at h
  rw [Bool.and_eq_true] at h
  exact ⟨of_decide_eq_true h.1, of_decide_eq_true h.2⟩
theorem pi_of {it : Expr} {t t' : TI} (h : PI X tg it t) (w : ∀ σ H Q, t' σ H Q → t σ H Q) : PI X tg it t' := ⟨fun pins s σ H Q I q => h.run pins s σ H Q I (w σ H Q q)⟩
theorem q_rng1 (hg : Gl X "range") (hm : X.mg "range" = none) (ha : PE X a (tOf X.K E (ev C xa))) (hs : starEach [a] X.env = [(false, eval a X.env)]) : PI X tg (.Call (.Name "range" p) [a] [] pos) (tOfI X.K E (evI C (.rng1 xa))) := by
  refine pi_of (pi_range1 hg hm (pa_cons ha pa_nil hs) hs) fun σ H Q h => ?_
  obtain ⟨ρ, F, R, h⟩ := h
  rw [evI.eq_2] at h
  refine ⟨ρ, F, R, AnsI.bind h fun x hx v F1 H1 g1 d1 => ?_⟩
  split at hx
  · split at hx
    · rename_i hz
      have z := small_of hz
      cases d1
      refine ⟨_, rfl, by omega, by omega, ?_⟩
      have w := hx (Itr 0 _) F1 H1 g1 (itd_range (i := 0))
      simpa using w
    · exact hx.elim
  · exact hx.elim
theorem q_rng2 (hg : Gl X "range") (hm : X.mg "range" = none) (ha : PE X a (tOf X.K E (ev C xa))) (hb : PE X b (tOf X.K E (ev C xb))) (hs : starEach [a, b] X.env = [(false, eval a X.env), (false, eval b X.env)]) (hs2 : starEach [b] X.env = [(false, eval b X.env)]) :
    PI X tg (.Call (.Name "range" p) [a, b] [] pos) (tOfI X.K E (evI C (.rng2 xa xb))) := by
  refine pi_of (pi_range2 hg hm (pa_cons ha (pa_cons hb pa_nil hs2) (by rw [hs, hs2])) hs hs2) fun σ H Q h => ?_
  obtain ⟨ρ, F, R, h⟩ := h
  rw [evI.eq_3] at h
  refine ⟨ρ, F, R, AnsI.bind h fun x hx v F1 H1 g1 d1 => ?_⟩
  refine ⟨ρ, F1, R.grow g1, AnsI.bind (hx.grow g1) fun y hy w F2 H2 g2 d2 => ?_⟩
  split at hy
  · split at hy
    · rename_i hz
      rw [Bool.and_eq_true] at hz
      have z1 := small_of hz.1
      have z2 := small_of hz.2
      cases d1
      cases d2
      exact ⟨_, _, rfl, ⟨by omega, by omega, by omega, by omega⟩, hy (Itr _ _) F2 H2 g2 itd_range⟩
    · exact hy.elim
  · exact hy.elim
theorem zipL_get : ∀ {xs ys : List D} {i : Nat} {x y : D}, xs[i]? = some x → ys[i]? = some y → (zipL xs ys)[i]? = some (.tuple [x, y])
  | [], _, _, _, _, e, _ => by simp at e
  | _ :: _, [], _, _, _, _, e => by simp at e
  | a :: xs, b :: ys, 0, x, y, e1, e2 => by simp at e1 e2; subst e1; subst e2; rfl
  | a :: xs, b :: ys, i + 1, x, y, e1, e2 => by
    have := zipL_get (xs := xs) (ys := ys) (i := i) (x := x) (y := y) (by simpa using e1) (by simpa using e2)
    simpa [zipL] using this
theorem zipL_len : ∀ (xs ys : List D), (zipL xs ys).length = min xs.length ys.length
  | [], ys => by simp [zipL]
  | _ :: _, [] => by simp [zipL]
  | a :: xs, b :: ys => by simp [zipL, zipL_len xs ys]
theorem walk_zipT {a b : Addr} {xs ys : List V} {n : Nat} (hn : n = min xs.length ys.length) : Walk (ItzT K a b) n (fun H => SqT K H a xs ∧ SqT K H b ys) (YPair (fun i => xs[i]?) (fun i => ys[i]?)) := by
  refine ⟨fun i H hi h => ?_, fun H h => ?_, fun i H x H' hi h y => ?_⟩
  · have h1 : i < xs.length := by omega
    have h2 : i < ys.length := by omega
    exact ⟨xs, ys, xs[i], ys[i], h.1, h.2, by simp [h1], by simp [h2]⟩
  · refine ⟨xs, ys, h.1, h.2, ?_⟩
    omega
  · obtain ⟨T, x1, y1, e1, e2, e3, e4, e5⟩ := y
    exact ⟨T, x1, y1, e1, e2, e3, e4 xs h.1, e5 ys h.2⟩
theorem ypair_yd {G : Hp} {vs ws : List V} {ds es : List D} (t1 : DnAll K G vs ds) (t2 : DnAll K G ws es) {i : Nat} {H : Hp} {x : V} {H' : Hp} (y : YPair (fun i => vs[i]?) (fun i => ws[i]?) i H x H') : YD K G (zipL ds es) i H x H' := by
  obtain ⟨T, x1, y1, rfl, e2, rfl, e4, e5⟩ := y
  obtain ⟨d1, q1, r1⟩ := t1.get e4
  obtain ⟨d2, q2, r2⟩ := t2.get e5
  refine ⟨_, zipL_get q1 q2, fun F s1 s2 => ⟨_, Grow.new s2 e2, ?_⟩⟩
  have g : Same F (upd F T (.tup [x1, y1])) := same_new (s2.free e2)
  exact .tup (.inl (.inl upd_same)) (.cons (r1.mono (s1.trans g)) (.cons (r2.mono (s1.trans g)) .nil))
theorem q_zip {elts : List Expr} {kk : Nat} {tpos : Pos} (hg : Gl X "zip") (hm : X.mg "zip" = none) (ha : PE X a (tOf X.K E (ev C xa))) (hb : PE X b (tOf X.K E (ev C xb))) (hs : starEach [a, b] X.env = (false, eval a X.env) :: starEach [b] X.env) (hs2 : starEach [b] X.env = [(false, eval b X.env)]) :
    PI X (.Tuple elts kk tpos) (.Call (.Name "zip" p) [a, b] [] pos) (tOfI X.K E (evI C (.zip xa xb))) := by
  refine pi_of (pi_zipA hg hm (pa_cons ha (pa_cons hb pa_nil hs2) hs) hs (by rw [hs2]; rfl)) fun σ H Q h => ?_
  obtain ⟨ρ, F, R, h⟩ := h
  rw [evI.eq_5] at h
  refine ⟨ρ, F, R, AnsI.bind h fun x hx v F1 H1 g1 d1 => ?_⟩
  refine ⟨ρ, F1, R.grow g1, AnsI.bind (hx.grow g1) fun y hy w F2 H2 g2 d2 => ?_⟩
  have d1 := d1.grow g2
  have hy := hy.grow g2
  unfold zipR at hy
  split at hy
  · cases d1 with
    | tup r1 t1 =>
      cases d2 with
      | tup r2 t2 =>
        refine ⟨_, _, _, _, rfl, .inr ⟨same_t g2.sub r1, same_t g2.sub r2, hy _ F2 H2 (Grow.refl g2.sub) ?_⟩⟩
        unfold ItD
        rw [zipL_len, ← t1.length, ← t2.length]
        exact (walk_zipT rfl).mono (fun H s => ⟨same_t s r1, same_t s r2⟩) fun i H x H' hi s y => ypair_yd t1 t2 y
  · cases d1 with
    | lst r1 t1 =>
      cases d2 with
      | lst r2 t2 =>
        refine ⟨_, _, _, _, rfl, .inl ⟨.inl (.inl (g2.sub _ _ r1)), .inl (.inl (g2.sub _ _ r2)), hy _ F2 H2 (Grow.refl g2.sub) ?_⟩⟩
        unfold ItD
        rw [zipL_len, ← t1.length, ← t2.length]
        exact (walk_zip rfl).mono (fun H s => ⟨.inl (.inl (s _ _ r1)), .inl (.inl (s _ _ r2))⟩) fun i H x H' hi s y => ypair_yd t1 t2 y
  · exact hy.elim
end
end PP

set_option Elab.async false
set_option linter.all false
set_option autoImplicit false
set_option maxRecDepth 100000
set_option maxHeartbeats 1000000
namespace PP
open PySem L2
/-! ### enumerate of a tuple -/
theorem enumNewT (l : Addr) (items : Array Value) :
    Meets (Builtin.«enumerate.__new__» ⟨[.type "enumerate", .ref l], []⟩) (fun _ R s => s.heap.IsTuple l items ∧
      R (.ok (.ret (.ref (s.heap.push { cls := .type "tuple_iterator", data := .fields #[.ref l, .int 0 0] }).objs.size)))
        { s with heap := (s.heap.push { cls := .type "tuple_iterator", data := .fields #[.ref l, .int 0 0] }).push { cls := .type "enumerate", data := .fields #[.none, .bool false, .ref s.heap.objs.size, rawInt 0, .none, .none] } }) :=
  .of_wp fun prog w A R s h => by
    obtain ⟨hp, g, d, tk, os⟩ := s; obtain ⟨h1, h⟩ := h
    have hsub := sub_enumerate
    have q1 : ∀ {A' : Around} {E : Value → Shared → Prop} {Q : Value → Shared → Prop}, Q (.ref hp.objs.size) ⟨hp.push { cls := .type "tuple_iterator", data := .fields #[.ref l, .int 0 0] }, g, d, tk, os⟩ → wpAny (model prog w) A' (pyIter (.ref l)) Q E ⟨hp, g, d, tk, os⟩ :=
      fun q => (begins_tuple l items).iter prog w _ _ ⟨hp, g, d, tk, os⟩ _ h1 q
    wp_walk using q1
    refine wpAny_stack_any fun st => wpAny_pure ?_
    split
    · rename_i c _ _ _ _ _
      cases (c == Value.type "enumerate")
      · wp_walk using q1
        exact ⟨_, rfl, h⟩
      · wp_walk using q1
        exact ⟨_, rfl, h⟩
    · wp_walk using q1
      exact ⟨_, rfl, h⟩
section
variable {prog : Program} {w : World} {A : Around} {E : Value → Shared → Prop} {s : Shared}
theorem callEnumT {l : Addr} {items : Array Value} {Q : Value → Shared → Prop} (hL : s.heap.IsTuple l items)
    (h : ∀ h', IsEnum h' (s.heap.objs.size + 1) s.heap.objs.size 0 .none → h'.IsTupleIter s.heap.objs.size l 0 → h'.objs.size = s.heap.objs.size + 2 →
      (∀ b o, s.heap.get? b = some o → h'.get? b = some o) → Q (.ref (s.heap.objs.size + 1)) { s with heap := h' }) :
    wpAny (model prog w) A (PySem.call (.type "enumerate") [.ref l]) Q E s := by
  refine callType_new F.called_enumerate (by decide) (F.typeCall_enumerate_1 _) (F.newCall_enumerate_1 _) (fun obj => F.args_object_init_2 obj _) F.entry_enumerate_new
    (enumNewT l items) ⟨hL, ?_⟩
  have hz : (s.heap.push { cls := .type "tuple_iterator", data := .fields #[.ref l, .int 0 0] }).objs.size = s.heap.objs.size + 1 := Heap.size_push ..
  show _ ∧ _
  rw [hz]
  have he : IsEnum ((s.heap.push { cls := .type "tuple_iterator", data := .fields #[.ref l, .int 0 0] }).push
      { cls := .type "enumerate", data := .fields #[.none, .bool false, .ref s.heap.objs.size, rawInt 0, .none, .none] }) (s.heap.objs.size + 1) s.heap.objs.size 0 .none := by
    have := Heap.get?_push_size (s.heap.push { cls := .type "tuple_iterator", data := .fields #[.ref l, .int 0 0] })
      (o := { cls := .type "enumerate", data := .fields #[.none, .bool false, .ref s.heap.objs.size, rawInt 0, .none, .none] }) rfl
    rw [hz] at this; exact this
  refine ⟨⟨_, he, rfl⟩, h _ he ⟨_, Heap.get?_push_of_some _ (Heap.get?_push_size _ rfl), rfl, rfl⟩ (by rw [Heap.size_push, hz]) fun b o x => Heap.get?_push_of_some _ (Heap.get?_push_of_some _ x)⟩
end
/-- the tuple at a, each item in a new pair -/
def IteT (K : PySem.W.Frag) (a : Addr) : L2.It :=
  ⟨fun i H => ∃ (xs : List V) (x : V), SqT K H a xs ∧ xs[i]? = some x, fun i H v H' => ∃ T x, v = .ref T ∧ H T = none ∧ H' = upd H T (.tup [.int (i : Nat), x]) ∧ ∀ xs, SqT K H a xs → xs[i]? = some x, fun i H => ∃ xs : List V, SqT K H a xs ∧ xs.length ≤ i⟩
theorem turn_enumT {P : Program} {w : World} {K : PySem.W.Frag} {elts : List Expr} {kk : Nat} {tpos : Pos} (a e it : Addr) (hai : a ≠ it) (hae : a ≠ e) :
    Turn P w K (.Tuple elts kk tpos) (IteT K a) [e, it] e (fun i h => (∃ old, IsEnum h e it ((i : Nat) : Int) old) ∧ h.IsTupleIter it a i ∧ e ≠ it) where
  mem := by simp
  obj := fun i h st b hb => by
    obtain ⟨⟨old, he⟩, ⟨o, ho, hc, hd⟩, _⟩ := st
    have e' : b = e ∨ b = it := by simpa using hb
    rcases e' with z | z
    · rw [z]; exact ⟨_, he, fun v q => nomatch q⟩
    · rw [z]; exact ⟨o, ho, fun v q => by rw [hd] at q; cases q⟩
  keep := fun i h h' st k => let ⟨⟨old, he⟩, hi, hne⟩ := st; ⟨⟨old, k e (by simp) _ he⟩, hi.at fun o q => k it (by simp) o q, hne⟩
  item := by
    intro X hP hw hK hc i pins s σ H E I hf st hg
    subst hP hw hK
    obtain ⟨⟨old, he⟩, hit, hne⟩ := st
    obtain ⟨xs, x, hq, hx⟩ := hg
    obtain ⟨its, rv, p, hz⟩ := I.tuple hq
    obtain ⟨u, hu, ru⟩ := rv.get hx
    have hel : e < s.heap.objs.size := Heap.lt_size he
    have hil : it < s.heap.objs.size := by obtain ⟨_, q, _⟩ := hit; exact Heap.lt_size q
    have hui : its.toArray[i]? = some u := by simpa using hu
    have hlt : i < its.toArray.size := by
      rcases Nat.lt_or_ge i its.toArray.size with z | z
      · exact z
      · rw [Array.getElem?_eq_none z] at hui; cases hui
    refine wpAny_pyNext_enum_itemD (Draws.tuple (A := X.A.in1) (I.ok.hd hc) it a hai its.toArray) he ⟨hit, (show s.heap.IsTuple a its.toArray from p)⟩ hlt hne (by simp; exact ⟨hne, Ne.symm hae⟩) fun u' h' tk hP ho hst hT hsz hk => ?_
    obtain rfl : u = u' := by rw [hui] at hP; exact Option.some.inj hP
    refine ⟨_, rfl, wpAny_letOwnedTupleGo_enum (s := { s with heap := h', toks := tk + 1 }) ho fun h'' he' sb => ?_⟩
    have hT2 : h''.get? s.heap.objs.size = some { cls := .type "tuple", data := .seq #[.int i tk, u] } := (sb.2 _ (Nat.ne_of_gt hel)).trans hT
    have new : ObjOk X.prog X.w (upd H s.heap.objs.size (.tup [.int (i : Nat), x])) h'' s.heap.objs.size (.tup [.int (i : Nat), x]) :=
      ⟨by show 2 ≤ sizeLine; decide, [.int i tk, u], .cons ⟨_, rfl⟩ (.cons ru .nil), ⟨_, hT2, rfl, _, rfl⟩⟩
    have I1 : Inv X pins σ (upd H s.heap.objs.size (.tup [.int (i : Nat), x])) { s with heap := h'', toks := tk + 1 } :=
      I.turnedNew (ch := [e, it]) (fun b ob hb q => (sb.2 b (fun z => hb (by simp [z]))).trans (hk b ob (fun z => hb (by simp [z])) (fun z => hb (by simp [z])) q)) hf (Nat.le_refl _) new
    refine ⟨.ref s.heap.objs.size, _, I1, rfl, ⟨_, x, rfl, I.hok.fresh (Nat.le_refl _), rfl, fun ys hy => by rw [I.tuple_inj hy hq]; exact hx⟩, ⟨⟨u, ?_⟩, hst.1.at fun o q => (sb.2 it (Ne.symm hne)).trans q, hne⟩, fun b hb => ?_⟩
    · have e1 : ((i + 1 : Nat) : Int) = (i : Int) + 1 := by omega
      rw [e1]; exact he'
    · have hb' : b < s.heap.objs.size := by
        have e' : b = e ∨ b = it := by simpa using hb
        rcases e' with z | z
        · rw [z]; exact hel
        · rw [z]; exact hil
      rw [upd_ne (Nat.ne_of_lt hb')]
      exact (hf b hb).1
  done := by
    intro X hP hw hK hc i pins s σ H E I hf st hg
    subst hP hw hK
    obtain ⟨⟨old, he⟩, hit, hne⟩ := st
    obtain ⟨xs, hq, hx⟩ := hg
    obtain ⟨its, rv, p, hz⟩ := I.tuple hq
    obtain ⟨f0, f1, f2, f3, f4, f5⟩ := hf it (by simp)
    have hl := rv.length
    have hT : s.TypeIs (.ref e) "enumerate" := ⟨_, he, rfl⟩
    unfold pyNext
    refine wpAny_bind (wpAny_attempt (wpAny_callSpecial?_slot (name := Str.ofString "__next__") hT F.slot_enumerate_next
      (wpAny_call_entry F.slot_enumerate_next hT F.entry_enumerate_next ?_ (F.args_enumerate_next_1 _))))
    show wpAny _ _ (field (.ref e) 2 >>= _) _ _ _
    refine wpAny_bind (wpAny_field he rfl (x := .ref it) rfl ?_)
    refine wpAny_bind (wpAny_nextOf_tuple_end (I.ok.hd hc) hit (show s.heap.IsTuple a its.toArray from p) (by simp; omega) fun h' x he' hx' => ?_)
    obtain ⟨o, ho, hc⟩ := hx'
    refine wpAny_bind (wpAny_isInstance (T := "StopIteration") (b := true) ⟨o, ho, hc⟩ isSubtype_stop ?_)
    exact wpAny_pure ⟨rfl, I.turned (t' := s.toks) (fun b o hb q => he' b o hb q) f0 f1 f3 f4 f5⟩
  self := fun A i s Q E st h => let ⟨⟨_, he⟩, _⟩ := st; wpAny_pyIter_enum he h
def iEnumT (K : PySem.W.Frag) (ta : TA) : TI := fun σ H R => ta σ H fun vs H1 => ∃ a xs, vs = [.ref a] ∧ SqT K H1 a xs ∧ R (IteT K a) H1
theorem pi_enumT {X : Cx} {e : Expr} {ta : TA} {p pos tpos : Pos} {elts : List Expr} {kk : Nat} (hg : Gl X "enumerate") (hm : X.mg "enumerate" = none) (ha : PA X [e] ta) (hs : starEach [e] X.env = [(false, eval e X.env)]) :
    PI X (.Tuple elts kk tpos) (.Call (.Name "enumerate" p) [e] [] pos) (iEnumT X.K ta) := by
  refine ⟨fun pins s σ H R I h => ?_⟩
  refine PyProof.Rows.Call_ (ld_blt I hg hm PyProof.Rows.boot_enumerate (PyProof.Rows.callWith_type1 (thn (ha.run pos pins s σ H _ I h) fun us s1 ⟨vs, H1, I1, r1, q1⟩ => ?_) hs rfl))
  obtain ⟨a, xs, ex, hq, q⟩ := q1
  subst ex
  cases r1 with
  | cons r rr =>
    cases rr
    cases r
    obtain ⟨its, rv, p', hz⟩ := I1.tuple hq
    obtain ⟨o1, ho1, _⟩ := id p'
    have hal := Heap.lt_size ho1
    refine callEnumT (show s1.heap.IsTuple a its.toArray from p') fun h' he hit hsz hk => wpAny_pyIter_enum he ?_
    have I2 : Inv X pins σ H1 { s1 with heap := h' } := I1.kept (t' := s1.toks) hk
    refine ⟨s1.heap.objs.size + 1, [s1.heap.objs.size + 1, s1.heap.objs.size], _, _, H1, rfl, I2, turn_enumT a (s1.heap.objs.size + 1) s1.heap.objs.size (Nat.ne_of_lt hal) (Nat.ne_of_lt (Nat.lt_succ_of_lt hal)), ⟨⟨.none, he⟩, hit, Nat.succ_ne_self _⟩, fun b hb => ?_, q⟩
    have e' : b = s1.heap.objs.size + 1 ∨ b = s1.heap.objs.size := by simpa using hb
    have hle : s1.heap.objs.size ≤ b := by
      rcases e' with z | z
      · rw [z]; exact Nat.le_add_right _ _
      · rw [z]; exact Nat.le_refl _
    exact I1.fpOk hle (I1.hok.fresh hle)
theorem walk_enumT {K : PySem.W.Frag} {a : Addr} {xs : List V} : Walk (IteT K a) xs.length (fun H => SqT K H a xs) (YPair (fun i => some (.int (i : Nat))) (fun i => xs[i]?)) := by
  refine ⟨fun i _ hi q => ⟨xs, xs[i], q, by simp [hi]⟩, fun _ q => ⟨xs, q, Nat.le_refl _⟩, fun i H v H' _ q y => ?_⟩
  obtain ⟨T, x, h1, h2, h3, h4⟩ := y
  exact ⟨T, .int (i : Nat), x, h1, h2, h3, rfl, h4 xs q⟩
end PP

set_option Elab.async false
set_option linter.all false
set_option autoImplicit false
set_option maxRecDepth 100000
set_option maxHeartbeats 1000000
namespace PP
open PySem L2
/-! ### stores that change -/
section
variable {K : PySem.W.Frag} {ρ : Sto} {σ : L2.St} {F H : Hp}
theorem get_set_some {α : Type} {l : List (Option α)} {i j : Nat} {x y : α} (h : (l.set i (some x))[j]? = some (some y)) : (j = i ∧ y = x) ∨ (j ≠ i ∧ l[j]? = some (some y)) := by
  by_cases e : i = j
  · subst e
    by_cases hl : i < l.length
    · rw [List.getElem?_set_self hl] at h; cases h; exact .inl ⟨rfl, rfl⟩
    · rw [List.getElem?_eq_none (by simpa using hl)] at h; cases h
  · rw [List.getElem?_set_ne e] at h
    exact .inr ⟨fun q => e q.symm, h⟩
theorem get_set_none {α : Type} {l : List (Option α)} {i j : Nat} {y : α} (h : (l.set i none)[j]? = some (some y)) : j ≠ i ∧ l[j]? = some (some y) := by
  by_cases e : i = j
  · subst e
    by_cases hl : i < l.length
    · rw [List.getElem?_set_self hl] at h; cases h
    · rw [List.getElem?_eq_none (by simpa using hl)] at h; cases h
  · rw [List.getElem?_set_ne e] at h
    exact ⟨fun q => e q.symm, h⟩
theorem set_at {α : Type} {l : List (Option α)} {i n : Nat} {x : α} (hl : l.length = n) (hi : i < n) : (l.set i (some x))[i]? = some (some x) := List.getElem?_set_self (by rw [hl]; exact hi)
/-- a datum stored -/
theorem Rel.setD {i : Nat} {v : V} {x : D} (R : Rel K ρ σ F H) (d : Dn K F v x) : Rel K (ρ.set i (some (.d x))) (σ.set i (some v)) F H := by
  have hl := R.len
  refine ⟨by rw [List.length_set, List.length_set]; exact hl, R.sub, fun j r e => ?_, fun j k a xs ys e1 e2 o1 o2 e3 e4 => ?_⟩
  · rcases get_set_some e with ⟨rfl, rfl⟩ | ⟨hj, e⟩
    · have hi : j < ρ.length := by
        have := (List.getElem?_eq_some_iff.mp e).1
        simpa using this
      exact ⟨v, List.getElem?_set_self (by omega), d⟩
    · obtain ⟨w, q1, q2⟩ := R.slot j r e
      exact ⟨w, by rw [List.getElem?_set_ne (Ne.symm hj)]; exact q1, q2⟩
  · rcases get_set_some e1 with ⟨rfl, q⟩ | ⟨hj, e1⟩
    · subst q; cases o1
    · rcases get_set_some e2 with ⟨rfl, q⟩ | ⟨hk, e2⟩
      · subst q; cases o2
      · rw [List.getElem?_set_ne (Ne.symm hj)] at e3
        rw [List.getElem?_set_ne (Ne.symm hk)] at e4
        exact R.apart j k a xs ys e1 e2 o1 o2 e3 e4
/-- a name forgotten -/
theorem Rel.setN {i : Nat} (R : Rel K ρ σ F H) : Rel K (ρ.set i none) (σ.set i none) F H := by
  refine ⟨by rw [List.length_set, List.length_set]; exact R.len, R.sub, fun j r e => ?_, fun j k a xs ys e1 e2 o1 o2 e3 e4 => ?_⟩
  · obtain ⟨hj, e⟩ := get_set_none e
    obtain ⟨w, q1, q2⟩ := R.slot j r e
    exact ⟨w, by rw [List.getElem?_set_ne (Ne.symm hj)]; exact q1, q2⟩
  · obtain ⟨hj, e1⟩ := get_set_none e1
    obtain ⟨hk, e2⟩ := get_set_none e2
    rw [List.getElem?_set_ne (Ne.symm hj)] at e3
    rw [List.getElem?_set_ne (Ne.symm hk)] at e4
    exact R.apart j k a xs ys e1 e2 o1 o2 e3 e4
theorem Rel.wipe (R : Rel K ρ σ F H) : ∀ vs : List Nat, Rel K (wipeS ρ vs) (L2.wipe σ vs) F H
  | [] => R
  | v :: vs => (Rel.wipe R vs).setN
theorem wipeS_length (ρ : Sto) : ∀ vs : List Nat, (wipeS ρ vs).length = ρ.length
  | [] => rfl
  | v :: vs => by unfold wipeS; rw [List.length_set, wipeS_length ρ vs]
/-! ### targets -/
/-- the slots of a target -/
def setV : List Nat → List V → L2.St → L2.St
  | i :: is, v :: vs, σ => setV is vs (σ.set i (some v))
  | _, _, σ => σ
theorem setV_length : ∀ (is : List Nat) (vs : List V) (σ : L2.St), (setV is vs σ).length = σ.length
  | [], _, _ => by unfold setV; rfl
  | _ :: _, [], _ => by unfold setV; rfl
  | i :: is, v :: vs, σ => by unfold setV; rw [setV_length is vs, List.length_set]
theorem setAll_length : ∀ (is : List Nat) (xs : List D) (ρ : Sto), (setAll is xs ρ).length = ρ.length
  | [], _, _ => by unfold setAll; rfl
  | _ :: _, [], _ => by unfold setAll; rfl
  | i :: is, v :: vs, σ => by unfold setAll; rw [setAll_length is vs, List.length_set]
theorem Rel.setAll : ∀ {is : List Nat} {vs : List V} {xs : List D} {ρ : Sto} {σ : L2.St}, Rel K ρ σ F H → DnAll K F vs xs → Rel K (setAll is xs ρ) (setV is vs σ) F H
  | [], vs, xs, ρ, σ, R, _ => by unfold PP.setAll setV; exact R
  | i :: is, _, _, ρ, σ, R, .nil => by unfold PP.setAll setV; exact R
  | i :: is, _, _, ρ, σ, R, .cons d t => by
    unfold PP.setAll setV
    exact Rel.setAll (R.setD d) t
end
/-- the reading of a target -/
def gNames (K : PySem.W.Frag) : Tg → TG
  | .nm i => gName i
  | .tp is => fun v σ H Q => ∃ a vs, v = .ref a ∧ SqT K H a vs ∧ vs.length = is.length ∧ Q (setV is vs σ) H
section
variable {X : Cx} {pos : Pos}
theorem pg_of {tg : Expr} {t t' : TG} (h : PG X tg t) (w : ∀ v σ H Q, t' v σ H Q → t v σ H Q) : PG X tg t' := ⟨fun pins s σ H v u Q I r q => h.run pins s σ H v u Q I r (w v σ H Q q)⟩
theorem pgs_of {ts : List Expr} {t t' : TGs} (h : PGs X ts t) (w : ∀ v σ H Q, t' v σ H Q → t v σ H Q) : PGs X ts t' := ⟨fun pins s σ H v u Q I r q => h.run pins s σ H v u Q I r (w v σ H Q q)⟩
def gAll (is : List Nat) : TGs := fun vs σ H Q => vs.length = is.length ∧ Q (setV is vs σ) H
theorem pgs_names_nil : PGs X [] (gAll []) := by
  refine pgs_of pgs_nil fun vs σ H Q h => ?_
  obtain ⟨h1, h2⟩ := h
  have e : vs = [] := List.length_eq_zero_iff.mp h1
  subst e
  exact ⟨rfl, by unfold setV at h2; exact h2⟩
theorem pgs_names_cons {i : Nat} {is : List Nat} {e : Expr} {es : List Expr} (h1 : PG X e (gName i)) (h2 : PGs X es (gAll is)) (hs : (assignEach (e :: es) X.env).map (·.2) = assign e X.env :: (assignEach es X.env).map (·.2)) : PGs X (e :: es) (gAll (i :: is)) := by
  refine pgs_of (pgs_cons h1 h2 hs) fun vs σ H Q h => ?_
  obtain ⟨e1, e2⟩ := h
  cases vs with
  | nil => cases e1
  | cons v vs => exact ⟨v, vs, rfl, by simpa using e1, by unfold setV at e2; exact e2⟩
theorem pg_names {is : List Nat} {es : List Expr} {k : Nat} (hc : X.calm = true) (h : PGs X es (gAll is)) (hn : (assignEach es X.env).length = is.length) (hst : (assignEach es X.env).findIdx? (·.1) = none) : PG X (.Tuple es k pos) (gNames X.K (.tp is)) := by
  refine pg_of (pg_tup (n := is.length) hc h hn hst) fun v σ H Q h => ?_
  obtain ⟨a, vs, e, s, l, q⟩ := h
  exact ⟨a, vs, e, s, l, l, q⟩
end

/-! ### comprehensions -/
theorem wipe_get (σ : L2.St) (j : Nat) : ∀ vs : List Nat, (L2.wipe σ vs)[j]? = if j ∈ vs ∧ j < σ.length then some none else σ[j]?
  | [] => by simp [L2.wipe]
  | v :: vs => by
    unfold L2.wipe
    by_cases e : v = j
    · subst e
      by_cases h : v < σ.length
      · rw [List.getElem?_set_self (by rw [wipe_length]; exact h), if_pos ⟨List.mem_cons_self, h⟩]
      · rw [if_neg (fun q => h q.2), List.getElem?_eq_none (by rw [List.length_set, wipe_length]; omega), List.getElem?_eq_none (by omega)]
    · rw [List.getElem?_set_ne e, wipe_get σ j vs]
      have : (j ∈ v :: vs) ↔ j ∈ vs := by simp [Ne.symm e]
      simp only [this]
theorem setV_get (j : Nat) : ∀ (is : List Nat) (vs : List V) (σ : L2.St), j ∉ is → (setV is vs σ)[j]? = σ[j]?
  | [], _, _, _ => by unfold setV; rfl
  | _ :: _, [], _, _ => by unfold setV; rfl
  | i :: is, v :: vs, σ, h => by
    unfold setV
    rw [setV_get j is vs _ (fun q => h (List.mem_cons_of_mem _ q)), List.getElem?_set_ne (fun q => h (by rw [q]; exact List.mem_cons_self))]
theorem wipe_setV (is : List Nat) (vs : List V) (σ : L2.St) : L2.wipe (setV is vs (L2.wipe σ is)) is = L2.wipe σ is := by
  apply List.ext_getElem?
  intro j
  rw [wipe_get, setV_length, wipe_length]
  by_cases h : j ∈ is ∧ j < σ.length
  · rw [if_pos h, wipe_get, if_pos h]
  · rw [if_neg h]
    by_cases hj : j ∈ is
    · rw [List.getElem?_eq_none (by rw [setV_length, wipe_length]; exact Nat.le_of_not_lt fun q => h ⟨hj, q⟩), List.getElem?_eq_none (by rw [wipe_length]; exact Nat.le_of_not_lt fun q => h ⟨hj, q⟩)]
    · rw [setV_get j is vs _ hj]
theorem setV_one (i : Nat) (v : V) (σ : L2.St) : setV [i] [v] σ = σ.set i (some v) := by unfold setV; unfold setV; rfl
section
variable {K : PySem.W.Frag} {ρ ρ1 : Sto} {σ : L2.St} {F H : Hp}
/-- a target takes a datum -/
theorem g_names {t : Tg} {x : V} {d : D} {Q : L2.St → Hp → Prop} (R : Rel K ρ σ F H) (dn : Dn K F x d) (e : setT t d ρ = .ok ρ1)
    (k : ∀ σ1, Rel K ρ1 σ1 F H → (∃ vs, σ1 = setV t.own vs σ) → Q σ1 H) : gNames K t x σ H Q := by
  cases t with
  | nm i =>
    cases e
    exact k _ (R.setD dn) ⟨[x], (setV_one i x σ).symm⟩
  | tp is =>
    cases d with
    | tuple xs =>
      replace e : (if xs.length = is.length then Rs.ok (PP.setAll is xs ρ) else Rs.bad) = Rs.ok ρ1 := e
      by_cases hx : xs.length = is.length
      · rw [if_pos hx] at e
        cases e
        cases dn with
        | tup r t =>
          exact ⟨_, _, rfl, same_t R.sub r, t.length.trans hx, k _ (R.setAll t) ⟨_, rfl⟩⟩
      · rw [if_neg hx] at e; cases e
    | _ => cases e
theorem setT_length {t : Tg} {d : D} (e : setT t d ρ = .ok ρ1) : ρ1.length = ρ.length := by
  cases t with
  | nm i => cases e; rw [List.length_set]
  | tp is =>
    cases d with
    | tuple xs =>
      replace e : (if xs.length = is.length then Rs.ok (PP.setAll is xs ρ) else Rs.bad) = Rs.ok ρ1 := e
      by_cases hx : xs.length = is.length
      · rw [if_pos hx] at e; cases e; rw [setAll_length]
      · rw [if_neg hx] at e; cases e
    | _ => cases e
/-- what stands between two turns of a comprehension -/
def LcInv (K : PySem.W.Frag) (F1 H1 : Hp) (D : Addr) (ys : List PP.D) (rest : Nat → Rs (List PP.D)) (i : Nat) (H : Hp) : Prop :=
  ∃ F acc ys1 ys2, Grow F1 H1 F H ∧ F D = none ∧ H D = some (.lst acc) ∧ DnAll K F acc ys1 ∧ rest i = .ok ys2 ∧ ys = ys1 ++ ys2 ∧ acc.length ≤ i
theorem lcL_cons {t : Tg} {c : Sto → Rs Bool} {e : Sto → Rs R} {x : D} {xs ys : List D} (h : lcL t c e ρ (x :: xs) = .ok ys) :
    ∃ ρ1 k, setT t x ρ = .ok ρ1 ∧ c ρ1 = .ok k ∧ ((k = false ∧ lcL t c e ρ xs = .ok ys) ∨ (k = true ∧ ∃ r y zs, e ρ1 = .ok r ∧ r.frz = .ok y ∧ lcL t c e ρ xs = .ok zs ∧ ys = y :: zs)) := by
  unfold lcL at h
  cases e1 : setT t x ρ with
  | bad => rw [e1] at h; cases h
  | err c => rw [e1] at h; cases h
  | ok ρ1 =>
    rw [e1] at h
    cases e2 : c ρ1 with
    | bad => simp [e2] at h
    | err c => simp [e2] at h
    | ok k =>
      simp only [bind_ok, e2] at h
      refine ⟨ρ1, k, rfl, e2, ?_⟩
      cases k with
      | false => exact .inl ⟨rfl, by simpa using h⟩
      | true =>
        simp only [if_true] at h
        cases e3 : e ρ1 with
        | bad => simp [e3] at h
        | err c => simp [e3] at h
        | ok r =>
          cases e4 : r.frz with
          | bad => simp [e3, e4] at h
          | err c => simp [e3, e4] at h
          | ok y =>
            cases e5 : lcL t c e ρ xs with
            | bad => simp [e3, e4, e5] at h
            | err c => simp [e3, e4, e5] at h
            | ok zs =>
              simp [e3, e4, e5] at h
              exact .inr ⟨rfl, r, y, zs, rfl, e4, rfl, h.symm⟩
end
abbrev E0 : EX := fun _ _ => False
section
variable {X : Cx} {E : EX} {K : PySem.W.Frag} {t : Tg} {c : Sto → Rs Bool} {e : Sto → Rs R} {fi : Sto → Rs (List D)}
/-- a comprehension's reading -/
theorem lc_of (tt : TT) (htt : ∀ ρ1 σ1 F H k Q, Rel K ρ1 σ1 F H → c ρ1 = .ok k → (∀ F' H', Grow F H F' H' → Q k H') → tt σ1 H Q) (n : Nat) :
    ∀ σ H Q, (∃ ρ F, Rel K ρ σ F H ∧ Ans K E (fi ρ >>= fun xs => fit xs.length (noErr (lcL t c e (wipeS ρ t.own) xs) >>= fun ys => .ok (.l ys))) F H Q) → tLc (tOfI K E fi) (gNames K t) tt (tOf K E0 e) t.own σ H Q := by
  rintro σ H Q ⟨ρ, F, R, h⟩
  refine ⟨ρ, F, R, ?_⟩
  cases e1 : fi ρ with
  | bad => rw [e1] at h; exact h
  | err c => rw [e1] at h; exact h
  | ok ds =>
    rw [e1] at h
    intro J F1 H1 g1 it D hD
    have h : Ans K E (fit ds.length (noErr (lcL t c e (wipeS ρ t.own) ds) >>= fun ys => .ok (.l ys))) F H Q := h
    obtain ⟨hz, h⟩ := h.fit
    cases e2 : lcL t c e (wipeS ρ t.own) ds with
    | bad => rw [e2] at h; exact h.elim
    | err c => rw [e2] at h; exact h.elim
    | ok ys =>
      rw [e2] at h
      have h : Ans K E (.ok (.l ys)) F H Q := h
      refine lc_it it (LcInv K F1 H1 D ys fun i => lcL t c e (wipeS ρ t.own) (ds.drop i)) ?_ (fun i H' _ p => ?_) (fun i x H' H2 hi p y => ?_) fun H' p => ?_
      · exact ⟨F1, [], [], ys, Grow.own g1.sub hD, g1.sub.free hD, upd_same, .nil, e2, rfl, Nat.le_refl _⟩
      · obtain ⟨F2, _, _, _, g, _⟩ := p
        exact g.fr.trans g.sub
      · obtain ⟨F2, acc, ys1, ys2, g2, fD, hD2, t2, er, ey, hacc⟩ := p
        obtain ⟨d, ed, hd⟩ := y
        obtain ⟨F3, g3, dn⟩ := hd F2 g2.fr g2.sub
        have edrop : ds.drop i = d :: ds.drop (i + 1) := by
          obtain ⟨hi', e'⟩ := List.getElem?_eq_some_iff.mp ed
          rw [List.drop_eq_getElem_cons hi', e']
        simp only [edrop] at er
        obtain ⟨ρ1, k, q1, q2, q3⟩ := lcL_cons er
        have R1 : Rel K (wipeS ρ t.own) (L2.wipe σ t.own) F3 H2 := (((R.grow g1).grow g2).grow g3).wipe t.own
        refine g_names R1 dn q1 fun σ1 R2 hσ => ⟨?_, ?_⟩
        · obtain ⟨vs, rfl⟩ := hσ
          exact wipe_setV _ _ _
        · have fD3 : F3 D = none := (g3.old D _ hD2).trans fD
          have hD3 : H2 D = some (.lst acc) := g3.hp _ _ hD2
          refine htt ρ1 σ1 F3 H2 k _ R2 q2 fun F4 H4 g4 => ?_
          have fD4 : F4 D = none := (g4.old D _ hD3).trans fD3
          have hD4 : H4 D = some (.lst acc) := g4.hp _ _ hD3
          have gA : Grow F1 H1 F4 H4 := (g2.trans g3).trans g4
          rcases q3 with ⟨rfl, er2⟩ | ⟨rfl, r, z, zs, e3, e4, e5, e6⟩
          · exact ⟨F4, acc, ys1, ys2, gA, fD4, hD4, t2.mono (g3.fr.trans g4.fr), er2, ey, by omega⟩
          · refine ⟨ρ1, F4, R2.grow g4, ?_⟩
            rw [e3]
            intro v F5 H5 g5 d5
            obtain ⟨F6, g6, s6, dn6⟩ := frz1 g5 (Same.refl F5) d5 e4
            have fD6 : F6 D = none := (g6.old D _ hD4).trans fD4
            have hD6 : H5 D = some (.lst acc) := g6.hp _ _ hD4
            have gB := gA.trans g6
            refine ⟨acc, hD6, by have := hz; have : lim < sizeLine := by decide
                                 omega, F6, acc ++ [v], ys1 ++ [z], zs, ⟨gB.fr, fun b o q => ?_, fun b o q => ?_, gB.old⟩, fD6, upd_same, ((t2.mono (g3.fr.trans g4.fr)).mono g6.fr).append (.cons dn6 .nil), e5, by rw [ey, e6]; simp, by rw [List.length_append]; simp; omega⟩
            · rw [upd_ne (ne_of_none q hD)]; exact gB.hp b o q
            · rw [upd_ne (fun z => by rw [z, fD6] at q; cases q)]; exact gB.sub b o q
      · obtain ⟨F2, acc, ys1, ys2, g2, fD, hD2, t2, er, ey, hacc⟩ := p
        simp only [List.drop_length] at er
        cases er
        rw [List.append_nil] at ey
        subst ey
        exact h _ F2 H' (g1.trans g2) ⟨D, acc, rfl, g1.hp.free hD, fD, hD2, t2⟩
end
end PP

set_option Elab.async false
set_option linter.all false
set_option autoImplicit false
set_option maxRecDepth 100000
set_option maxHeartbeats 1000000
namespace PP
open PySem L2
/-! ### comprehensions as expressions -/
section
variable {X : Cx} {E : EX} {C : Nat → List R → Rs R} {t : Tg} {it : It} {xe xc : Ex} {elt tg iter cnd : Expr} {scope : Scope} {own : List (Str × Nat)} {pos : Pos}
theorem tLc_of : ∀ σ H Q, tOf X.K E (ev C (.lc t it xe)) σ H Q → tLc (tOfI X.K E (evI C it)) (gNames X.K t) tYes (tOf X.K E0 (ev C xe)) t.own σ H Q := by
  rintro σ H Q ⟨ρ, F, R, h⟩
  rw [ev.eq_20] at h
  exact lc_of (c := fun _ => .ok true) tYes (fun ρ1 σ1 F H k Q R e h => by cases e; exact h F H (Grow.refl R.sub)) 0 σ H Q ⟨ρ, F, R, h⟩
theorem tLcf_of : ∀ σ H Q, tOf X.K E (ev C (.lcf t it xc xe)) σ H Q → tLc (tOfI X.K E (evI C it)) (gNames X.K t) (tOfT X.K E0 (evT C xc)) (tOf X.K E0 (ev C xe)) t.own σ H Q := by
  rintro σ H Q ⟨ρ, F, R, h⟩
  rw [ev.eq_21] at h
  exact lc_of (c := evT C xc) (tOfT X.K E0 (evT C xc)) (fun ρ1 σ1 F H k Q R e h => ⟨ρ1, F, R, by rw [e]; exact h⟩) 0 σ H Q ⟨ρ, F, R, h⟩
theorem q_lc (hc : X.calm = true) (hN : X.N.Nodup) (hi : PI X tg iter (tOfI X.K E (evI C it))) (ok : BlkOk X.N X.env.scope scope own) (ho : own.map (·.2) = t.own)
    (hg : ∀ (s : Shared) (H : Hp) (C : Addr) (cl : List (Str × Addr)) (fp : List Addr), PG (X.blk s H scope (compEnvC scope cl C X.env) fp) tg (gNames X.K t))
    (he : ∀ (s : Shared) (H : Hp) (A : Addr) (cl : List (Str × Addr)) (fp : List Addr), PE (X.blk s H scope (compEnvC scope cl A X.env) fp) elt (tOf X.K E0 (ev C xe))) (hs : ∀ x, foldedSetIterable iter X.env x = pure x) :
    PE X (.ListComp elt [⟨tg, iter, [], 0⟩] scope pos) (tOf X.K E (ev C (.lc t it xe))) := by
  refine pe_of (pe_lc hc hN hi ok hg (fun _ _ _ _ _ => pts_nil) he hs) fun σ H Q h => ?_
  rw [ho]
  exact tLc_of σ H Q h
theorem q_lcf (hc : X.calm = true) (hN : X.N.Nodup) (hi : PI X tg iter (tOfI X.K E (evI C it))) (ok : BlkOk X.N X.env.scope scope own) (ho : own.map (·.2) = t.own)
    (hg : ∀ (s : Shared) (H : Hp) (C : Addr) (cl : List (Str × Addr)) (fp : List Addr), PG (X.blk s H scope (compEnvC scope cl C X.env) fp) tg (gNames X.K t))
    (hcn : ∀ (s : Shared) (H : Hp) (A : Addr) (cl : List (Str × Addr)) (fp : List Addr), PT (X.blk s H scope (compEnvC scope cl A X.env) fp) cnd (tOfT X.K E0 (evT C xc)))
    (he : ∀ (s : Shared) (H : Hp) (A : Addr) (cl : List (Str × Addr)) (fp : List Addr), PE (X.blk s H scope (compEnvC scope cl A X.env) fp) elt (tOf X.K E0 (ev C xe))) (hs : ∀ x, foldedSetIterable iter X.env x = pure x) :
    PE X (.ListComp elt [⟨tg, iter, [cnd], 0⟩] scope pos) (tOf X.K E (ev C (.lcf t it xc xe))) := by
  refine pe_of (pe_lc hc hN hi ok hg (fun s H A cl fp => pts_one (hcn s H A cl fp)) he hs) fun σ H Q h => ?_
  rw [ho]
  exact tLcf_of σ H Q h
theorem ps_of {st : Stmt} {t t' : TS} (h : PS X st t) (w : ∀ D σ H, t' D σ H → t D σ H) : PS X st t' := ⟨fun pins s σ H D I q => h.run pins s σ H D I (w D σ H q)⟩
theorem pss_of {st : List Stmt} {t t' : TS} (h : PSs X st t) (w : ∀ D σ H, t' D σ H → t D σ H) : PSs X st t' := ⟨fun pins s σ H D I q => h.run pins s σ H D I (w D σ H q)⟩
/-- y = [..] -/
theorem q_setLc {i : Nat} {y : Str} {py spos : Pos} (hc : X.calm = true) (hN : X.N.Nodup) (hy : X.N[i]? = some y) (hyl : X.env.scope.names.lookup y = some .local) (hsw : swapsWith (.ListComp elt [⟨tg, iter, [], 0⟩] scope pos) (some (.Name y py)) spos.line X.env = pure true)
    (hi : PI X tg iter (tOfI X.K E (evI C it))) (ok : BlkOk X.N X.env.scope scope own) (ho : own.map (·.2) = t.own)
    (hg : ∀ (s : Shared) (H : Hp) (C : Addr) (cl : List (Str × Addr)) (fp : List Addr), PG (X.blk s H scope (compEnvC scope cl C X.env) fp) tg (gNames X.K t))
    (he : ∀ (s : Shared) (H : Hp) (A : Addr) (cl : List (Str × Addr)) (fp : List Addr), PE (X.blk s H scope (compEnvC scope cl A X.env) fp) elt (tOf X.K E0 (ev C xe))) (hs : ∀ x, foldedSetIterable iter X.env x = pure x) :
    PS X (.Assign [.Name y py] (.ListComp elt [⟨tg, iter, [], 0⟩] scope pos) spos) (tAsg (tOf X.K E (ev C (.lc t it xe))) (gName i)) := by
  refine ps_of (ps_setLc hc hN hy hyl hsw hi ok hg (fun _ _ _ _ _ => pts_nil) he hs) fun D σ H h => ?_
  rw [ho]
  exact tLc_of σ H _ h
theorem q_setLcf {i : Nat} {y : Str} {py spos : Pos} (hc : X.calm = true) (hN : X.N.Nodup) (hy : X.N[i]? = some y) (hyl : X.env.scope.names.lookup y = some .local) (hsw : swapsWith (.ListComp elt [⟨tg, iter, [cnd], 0⟩] scope pos) (some (.Name y py)) spos.line X.env = pure true)
    (hi : PI X tg iter (tOfI X.K E (evI C it))) (ok : BlkOk X.N X.env.scope scope own) (ho : own.map (·.2) = t.own)
    (hg : ∀ (s : Shared) (H : Hp) (C : Addr) (cl : List (Str × Addr)) (fp : List Addr), PG (X.blk s H scope (compEnvC scope cl C X.env) fp) tg (gNames X.K t))
    (hcn : ∀ (s : Shared) (H : Hp) (A : Addr) (cl : List (Str × Addr)) (fp : List Addr), PT (X.blk s H scope (compEnvC scope cl A X.env) fp) cnd (tOfT X.K E0 (evT C xc)))
    (he : ∀ (s : Shared) (H : Hp) (A : Addr) (cl : List (Str × Addr)) (fp : List Addr), PE (X.blk s H scope (compEnvC scope cl A X.env) fp) elt (tOf X.K E0 (ev C xe))) (hs : ∀ x, foldedSetIterable iter X.env x = pure x) :
    PS X (.Assign [.Name y py] (.ListComp elt [⟨tg, iter, [cnd], 0⟩] scope pos) spos) (tAsg (tOf X.K E (ev C (.lcf t it xc xe))) (gName i)) := by
  refine ps_of (ps_setLc hc hN hy hyl hsw hi ok hg (fun s H A cl fp => pts_one (hcn s H A cl fp)) he hs) fun D σ H h => ?_
  rw [ho]
  exact tLcf_of σ H _ h
end

/-! ### statements: what stands between two of them -/
structure RelS (K : PySem.W.Frag) (B F0 : Hp) (ρ : Sto) (σ : L2.St) (F H : Hp) : Prop where
  rel : Rel K ρ σ F H
  grow : Grow F0 B F H
  own : ∀ (i : Nat) r a, ρ[i]? = some (some r) → r.isOwn = true → σ[i]? = some (some (.ref a)) → B a = none
def AnsS (K : PySem.W.Frag) (E : EX) (m : Rs Out) (F0 B : Hp) (D : Ends) : Prop :=
  match m with
  | .bad => False
  | .err c => ∀ F' H', Grow F0 B F' H' → E c H'
  | .ok (.nx ρ) => ∀ σ F H, RelS K B F0 ρ σ F H → D.nx σ H
  | .ok (.rt r) => ∀ v F H, Grow F0 B F H → Den K B F H v r → D.rt v H
def tOfS (K : PySem.W.Frag) (E : EX) (f : Sto → Rs Out) : TS := fun D σ H => ∃ ρ F B F0, RelS K B F0 ρ σ F H ∧ AnsS K E (f ρ) F0 B D
section
variable {K : PySem.W.Frag} {E : EX} {B F0 F H F' H' : Hp} {ρ : Sto} {σ : L2.St} {D : Ends}
theorem RelS.more (R : RelS K B F0 ρ σ F H) (g : Grow F H F' H') : RelS K B F0 ρ σ F' H' := ⟨R.rel.grow g, R.grow.trans g, R.own⟩
theorem AnsS.bindE {m : Rs R} {k : R → Rs Out} {Q1 : VK} (h : AnsS K E (m >>= k) F0 B D) (g : Grow F0 B F H)
    (hk : ∀ x, AnsS K E (k x) F0 B D → ∀ v F1 H1, Grow F H F1 H1 → Den K H F1 H1 v x → Q1 v H1) : Ans K E m F H Q1 := by
  cases m with
  | bad => exact h
  | err c => exact fun F' H' g' => h F' H' (g.trans g')
  | ok r => exact hk r h
theorem AnsS.bindT {m : Rs Bool} {k : Bool → Rs Out} {Q1 : Bool → Hp → Prop} (h : AnsS K E (m >>= k) F0 B D) (g : Grow F0 B F H)
    (hk : ∀ x, AnsS K E (k x) F0 B D → ∀ F1 H1, Grow F H F1 H1 → Q1 x H1) : AnsT E m F H Q1 := by
  cases m with
  | bad => exact h
  | err c => exact fun F' H' g' => h F' H' (g.trans g')
  | ok r => exact hk r h
theorem AnsS.bindA {m : Rs (List R)} {k : List R → Rs Out} {Q1 : List V → Hp → Prop} (h : AnsS K E (m >>= k) F0 B D) (g : Grow F0 B F H)
    (hk : ∀ x, AnsS K E (k x) F0 B D → ∀ vs F1 H1, Grow F H F1 H1 → DenAll K H F1 H1 vs x → Q1 vs H1) : AnsA K E m F H Q1 := by
  cases m with
  | bad => exact h
  | err c => exact fun F' H' g' => h F' H' (g.trans g')
  | ok r => exact hk r h
theorem AnsS.bindI {m : Rs (List PP.D)} {k : List PP.D → Rs Out} {Q1 : L2.It → Hp → Prop} (h : AnsS K E (m >>= k) F0 B D) (g : Grow F0 B F H)
    (hk : ∀ x, AnsS K E (k x) F0 B D → ∀ J F1 H1, Grow F H F1 H1 → ItD K F1 J x → Q1 J H1) : AnsI K E m F H Q1 := by
  cases m with
  | bad => exact h
  | err c => exact fun F' H' g' => h F' H' (g.trans g')
  | ok r => exact hk r h
theorem AnsS.okD {α : Type} {m : Rs α} {k : α → Rs Out} (h : AnsS K E (m >>= k) F0 B D) (ne : ∀ c, m ≠ .err c) : ∃ x, m = .ok x ∧ AnsS K E (k x) F0 B D := by
  cases m with
  | bad => exact h.elim
  | err c => exact absurd rfl (ne c)
  | ok x => exact ⟨x, rfl, h⟩
theorem frz_ne (r : R) (c : Nat) : r.frz ≠ .err c := by cases r <;> intro e <;> cases e
theorem setT_ne (t : Tg) (x : PP.D) (ρ : Sto) (c : Nat) : setT t x ρ ≠ .err c := by
  cases t with
  | nm i => intro e; cases e
  | tp is =>
    cases x with
    | tuple xs =>
      intro e
      replace e : (if xs.length = is.length then Rs.ok (setAll is xs ρ) else Rs.bad) = Rs.err c := e
      split at e <;> cases e
    | _ => intro e; cases e
theorem own_setR {i : Nat} {x : R} (hx : x.isOwn = false) (R : ∀ (i : Nat) r a, ρ[i]? = some (some r) → r.isOwn = true → σ[i]? = some (some (.ref a)) → B a = none) (v : V) : ∀ (j : Nat) r a, (ρ.set i (some x))[j]? = some (some r) → r.isOwn = true → (σ.set i (some v))[j]? = some (some (.ref a)) → B a = none := by
  intro j xs a e1 o1 e2
  rcases get_set_some e1 with ⟨_, q⟩ | ⟨hj, e1⟩
  · subst q; rw [hx] at o1; cases o1
  · rw [List.getElem?_set_ne (Ne.symm hj)] at e2
    exact R j xs a e1 o1 e2
theorem own_set {i : Nat} {x : PP.D} (R : ∀ (i : Nat) r a, ρ[i]? = some (some r) → r.isOwn = true → σ[i]? = some (some (.ref a)) → B a = none) (v : V) : ∀ (j : Nat) r a, (ρ.set i (some (.d x)))[j]? = some (some r) → r.isOwn = true → (σ.set i (some v))[j]? = some (some (.ref a)) → B a = none := own_setR rfl R v
theorem own_setAll : ∀ {is : List Nat} {vs : List V} {xs : List PP.D} {ρ : Sto} {σ : L2.St}, vs.length = xs.length → (∀ (i : Nat) r a, ρ[i]? = some (some r) → r.isOwn = true → σ[i]? = some (some (.ref a)) → B a = none) →
    ∀ (j : Nat) r a, (setAll is xs ρ)[j]? = some (some r) → r.isOwn = true → (setV is vs σ)[j]? = some (some (.ref a)) → B a = none
  | [], vs, xs, ρ, σ, _, R => by unfold setAll setV; exact R
  | i :: is, [], [], ρ, σ, _, R => by unfold setAll setV; exact R
  | i :: is, v :: vs, x :: xs, ρ, σ, hl, R => by
    unfold setAll setV
    exact own_setAll (by simpa using hl) (own_set R v)
  | i :: is, [], x :: xs, ρ, σ, hl, R => by cases hl
  | i :: is, v :: vs, [], ρ, σ, hl, R => by cases hl
/-- a target takes a datum, between statements -/
theorem gs_names {t : Tg} {x : V} {d : PP.D} {ρ1 : Sto} {Q : L2.St → Hp → Prop} (R : RelS K B F0 ρ σ F H) (dn : Dn K F x d) (e : setT t d ρ = .ok ρ1) (k : ∀ σ1, RelS K B F0 ρ1 σ1 F H → Q σ1 H) : gNames K t x σ H Q := by
  cases t with
  | nm i =>
    cases e
    exact k _ ⟨R.rel.setD dn, R.grow, own_set R.own x⟩
  | tp is =>
    cases d with
    | tuple xs =>
      replace e : (if xs.length = is.length then Rs.ok (PP.setAll is xs ρ) else Rs.bad) = Rs.ok ρ1 := e
      by_cases hx : xs.length = is.length
      · rw [if_pos hx] at e
        cases e
        cases dn with
        | tup r t => exact ⟨_, _, rfl, same_t R.rel.sub r, t.length.trans hx, k _ ⟨R.rel.setAll t, R.grow, own_setAll t.length R.own⟩⟩
      · rw [if_neg hx] at e; cases e
    | _ => cases e
/-- what an own thing is made of -/
def OwnOk (K : PySem.W.Frag) (F : Hp) : R → HO → Prop
  | .l xs, o => ∃ vs, o = .lst vs ∧ DnAll K F vs xs
  | .n kvs, o => ∃ ps, o = .dT ps ∧ KD K F ps kvs
  | _, _ => False
theorem OwnOk.own {r : R} {o : HO} (h : OwnOk K F r o) : r.isOwn = true := by
  cases r <;> first | rfl | exact h.elim
theorem OwnOk.sl {r : R} {o : HO} {a : Addr} (h : OwnOk K F r o) (hf : F a = none) (hh : H a = some o) : SlOk K F H r (.ref a) := by
  cases r with
  | l xs => obtain ⟨vs, rfl, t⟩ := h; exact ⟨a, vs, rfl, hf, hh, t⟩
  | n xs => obtain ⟨vs, rfl, t⟩ := h; exact ⟨a, vs, rfl, hf, hh, t⟩
  | _ => exact h.elim
theorem SlOk.ownAt {r : R} {v : V} (h : SlOk K F H r v) (ho : r.isOwn = true) : ∃ a o, v = .ref a ∧ F a = none ∧ H a = some o ∧ OwnOk K F r o := by
  cases r with
  | l xs => obtain ⟨a, vs, e, hf, hh, t⟩ := h; exact ⟨a, _, e, hf, hh, vs, rfl, t⟩
  | n xs => obtain ⟨a, vs, e, hf, hh, t⟩ := h; exact ⟨a, _, e, hf, hh, vs, rfl, t⟩
  | _ => cases ho
theorem SlOk.still {r : R} {v : V} (h : SlOk K F H r v) (ho : r.isOwn = false) : SlOk K F H' r v := by
  cases r with
  | l xs => cases ho
  | n xs => cases ho
  | _ => exact h
theorem OwnOk.mono (e : Same F F') {r : R} {o : HO} (h : OwnOk K F r o) : OwnOk K F' r o := by
  cases r with
  | l xs => obtain ⟨vs, rfl, t⟩ := h; exact ⟨vs, rfl, t.mono e⟩
  | n xs => obtain ⟨vs, rfl, t⟩ := h; exact ⟨vs, rfl, t.mono e⟩
  | _ => exact h.elim
theorem SlOk.monoF {r : R} {v : V} (s : Same F F') (h : SlOk K F H r v) (ho : r.isOwn = false) : SlOk K F' H r v := by
  cases r with
  | d x => exact Dn.mono s h
  | l xs => cases ho
  | n xs => cases ho
  | b xs => exact h
  | q => exact h
  | s us => obtain ⟨b, vs2, rfl, h2, t2⟩ := h; exact ⟨b, vs2, rfl, same_l s h2, t2.mono s⟩
  | m us => obtain ⟨b, vs2, rfl, h2, t2⟩ := h; exact ⟨b, vs2, rfl, s _ _ h2, t2.mono s⟩
/-- a slot gets a thing of its own -/
theorem RelS.setO {i : Nat} {a : Addr} {x : R} {o : HO} (R : RelS K B F0 ρ σ F H) (hb : B a = none) (hf : F a = none) (hh : H a = some o) (t : OwnOk K F x o)
    (hne : ∀ (j : Nat) r, j ≠ i → ρ[j]? = some (some r) → r.isOwn = true → σ[j]? ≠ some (some (.ref a))) : RelS K B F0 (ρ.set i (some x)) (σ.set i (some (.ref a))) F H := by
  have hl := R.rel.len
  by_cases hi : i < ρ.length
  rotate_left
  · rw [List.set_eq_of_length_le (by omega), List.set_eq_of_length_le (by omega)]
    exact R
  refine ⟨⟨by rw [List.length_set, List.length_set]; exact hl, R.rel.sub, fun j r e => ?_, fun j k b ys zs e1 e2 o1 o2 e3 e4 => ?_⟩, R.grow, fun j ys b e1 o1 e2 => ?_⟩
  · rcases get_set_some e with ⟨rfl, rfl⟩ | ⟨hj, e⟩
    · exact ⟨.ref a, List.getElem?_set_self (by omega), t.sl hf hh⟩
    · obtain ⟨w, q1, q2⟩ := R.rel.slot j r e
      exact ⟨w, by rw [List.getElem?_set_ne (Ne.symm hj)]; exact q1, q2⟩
  · rcases get_set_some e1 with ⟨rfl, _⟩ | ⟨hj, f1⟩
    · rcases get_set_some e2 with ⟨rfl, _⟩ | ⟨hk, e2⟩
      · rfl
      · rw [List.getElem?_set_self (by omega)] at e3
        rw [List.getElem?_set_ne (Ne.symm hk)] at e4
        cases e3
        exact absurd e4 (hne k zs hk e2 o2)
    · rcases get_set_some e2 with ⟨rfl, _⟩ | ⟨hk, e2⟩
      · rw [List.getElem?_set_self (by omega)] at e4
        rw [List.getElem?_set_ne (Ne.symm hj)] at e3
        cases e4
        exact absurd e3 (hne j ys hj f1 o1)
      · rw [List.getElem?_set_ne (Ne.symm hj)] at e3
        rw [List.getElem?_set_ne (Ne.symm hk)] at e4
        exact R.rel.apart j k b ys zs f1 e2 o1 o2 e3 e4
  · rcases get_set_some e1 with ⟨rfl, _⟩ | ⟨hj, e1⟩
    · rw [List.getElem?_set_self (by omega)] at e2
      cases e2
      exact hb
    · rw [List.getElem?_set_ne (Ne.symm hj)] at e2
      exact R.own j ys b e1 o1 e2
theorem RelS.setL {i : Nat} {a : Addr} {vs : List V} {xs : List PP.D} (R : RelS K B F0 ρ σ F H) (hb : B a = none) (hf : F a = none) (hh : H a = some (.lst vs)) (t : DnAll K F vs xs)
    (hne : ∀ (j : Nat) r, j ≠ i → ρ[j]? = some (some r) → r.isOwn = true → σ[j]? ≠ some (some (.ref a))) : RelS K B F0 (ρ.set i (some (.l xs))) (σ.set i (some (.ref a))) F H :=
  R.setO hb hf hh (x := .l xs) ⟨vs, rfl, t⟩ hne
/-- an own thing changes -/
theorem RelS.mutO {i : Nat} {a : Addr} {o : HO} {x y : R} (R : RelS K B F0 ρ σ F H) (e : ρ[i]? = some (some x)) (ox : x.isOwn = true) (es : σ[i]? = some (some (.ref a))) (hf : F a = none) (t : OwnOk K F y o) :
    RelS K B F0 (ρ.set i (some y)) σ F (upd H a o) := by
  have hb := R.own i x a e ox es
  have sub : Same F (upd H a o) := fun b o q => by rw [upd_ne (fun z => by rw [z, hf] at q; cases q)]; exact R.rel.sub b o q
  have hi : i < ρ.length := (List.getElem?_eq_some_iff.mp e).1
  refine ⟨⟨by rw [List.length_set]; exact R.rel.len, sub, fun j r ej => ?_, fun j k b us zs e1 e2 o1 o2 e3 e4 => ?_⟩, ⟨R.grow.fr, fun b o q => by rw [upd_ne (fun z => by rw [z, hb] at q; cases q)]; exact R.grow.hp b o q, sub, R.grow.old⟩, fun j us b e1 o1 e2 => ?_⟩
  · rcases get_set_some ej with ⟨rfl, rfl⟩ | ⟨hj, ej⟩
    · exact ⟨.ref a, es, t.sl hf upd_same⟩
    · obtain ⟨w, q1, q2⟩ := R.rel.slot j r ej
      refine ⟨w, q1, ?_⟩
      cases or : r.isOwn with
      | false => exact q2.still or
      | true =>
        obtain ⟨b, o2, rfl, f2, h2, t2⟩ := q2.ownAt or
        have ne : b ≠ a := fun z => by subst z; exact hj (R.rel.apart j i b r x ej e or ox q1 es)
        exact t2.sl f2 (by rw [upd_ne ne]; exact h2)
  · have g1 : ∃ us', ρ[j]? = some (some us') ∧ us'.isOwn = true := by
      rcases get_set_some e1 with ⟨rfl, _⟩ | ⟨_, q⟩
      · exact ⟨x, e, ox⟩
      · exact ⟨us, q, o1⟩
    have g2 : ∃ zs', ρ[k]? = some (some zs') ∧ zs'.isOwn = true := by
      rcases get_set_some e2 with ⟨rfl, _⟩ | ⟨_, q⟩
      · exact ⟨x, e, ox⟩
      · exact ⟨zs, q, o2⟩
    obtain ⟨_, g1, p1⟩ := g1
    obtain ⟨_, g2, p2⟩ := g2
    exact R.rel.apart j k b _ _ g1 g2 p1 p2 e3 e4
  · rcases get_set_some e1 with ⟨rfl, _⟩ | ⟨_, q⟩
    · exact R.own j x b e ox e2
    · exact R.own j us b q o1 e2
theorem RelS.mut {i : Nat} {a : Addr} {vs ws : List V} {xs ys : List PP.D} (R : RelS K B F0 ρ σ F H) (e : ρ[i]? = some (some (.l xs))) (es : σ[i]? = some (some (.ref a))) (hf : F a = none) (hh : H a = some (.lst vs)) (t : DnAll K F ws ys) :
    RelS K B F0 (ρ.set i (some (.l ys))) σ F (upd H a (.lst ws)) := R.mutO e rfl es hf (y := .l ys) ⟨ws, rfl, t⟩
/-- an own thing is frozen -/
theorem RelS.freezeO {i : Nat} {x y : R} (R : RelS K B F0 ρ σ F H) (e : ρ[i]? = some (some x)) (ox : x.isOwn = true) (oy : y.isOwn = false)
    (hy : ∀ (F' : Hp) a o, Same F F' → F' a = some o → OwnOk K F x o → SlOk K F' H y (.ref a)) : ∃ F', RelS K B F0 (ρ.set i (some y)) σ F' H := by
  obtain ⟨v, es, q0⟩ := R.rel.slot i _ e
  obtain ⟨a, o, rfl, hf, hh, t⟩ := q0.ownAt ox
  have hb := R.own i x a e ox es
  have g : Grow F0 B (upd F a o) H := R.grow.freeze hb hf hh
  have s : Same F (upd F a o) := same_new hf
  refine ⟨upd F a o, ⟨by rw [List.length_set]; exact R.rel.len, g.sub, fun j r ej => ?_, fun j k b us zs e1 e2 o1 o2 e3 e4 => ?_⟩, g, fun j us b e1 o1 e2 => ?_⟩
  · rcases get_set_some ej with ⟨rfl, rfl⟩ | ⟨hj, ej⟩
    · exact ⟨.ref a, es, hy _ a o s upd_same t⟩
    · obtain ⟨w, q1, q2⟩ := R.rel.slot j r ej
      refine ⟨w, q1, ?_⟩
      cases or : r.isOwn with
      | false => exact q2.monoF s or
      | true =>
        obtain ⟨b, o2, rfl, f2, h2, t2⟩ := q2.ownAt or
        have ne : b ≠ a := fun z => by subst z; exact hj (R.rel.apart j i b r x ej e or ox q1 es)
        exact (t2.mono s).sl (by rw [upd_ne ne]; exact f2) h2
  · rcases get_set_some e1 with ⟨rfl, q⟩ | ⟨_, q1⟩
    · subst q; rw [oy] at o1; cases o1
    · rcases get_set_some e2 with ⟨rfl, q⟩ | ⟨_, q2⟩
      · subst q; rw [oy] at o2; cases o2
      · exact R.rel.apart j k b us zs q1 q2 o1 o2 e3 e4
  · rcases get_set_some e1 with ⟨rfl, q⟩ | ⟨_, q⟩
    · subst q; rw [oy] at o1; cases o1
    · exact R.own j us b q o1 e2
theorem RelS.freeze {i : Nat} {xs : List PP.D} (R : RelS K B F0 ρ σ F H) (e : ρ[i]? = some (some (.l xs))) : ∃ F', RelS K B F0 (ρ.set i (some (.d (.list xs)))) σ F' H :=
  R.freezeO e rfl rfl fun F' a o s h t => by obtain ⟨vs, rfl, t⟩ := t; exact .lst h (t.mono s)
theorem RelS.freezeM {i : Nat} {xs : List (List Int × PP.D)} (R : RelS K B F0 ρ σ F H) (e : ρ[i]? = some (some (.n xs))) : ∃ F', RelS K B F0 (ρ.set i (some (.m xs))) σ F' H :=
  R.freezeO e rfl rfl fun F' a o s h t => by obtain ⟨vs, rfl, t⟩ := t; exact ⟨a, vs, rfl, h, t.mono s⟩
end
end PP

set_option Elab.async false
set_option linter.all false
set_option autoImplicit false
set_option maxRecDepth 100000
set_option maxHeartbeats 1000000
namespace PP
open PySem L2
section
variable {X : Cx} {E : EX} {C : Nat → List R → Rs R} {t : Tg} {it : It} {x xc : Ex} {pos : Pos} {st : Stmt}
/-! ### the statements -/
theorem s_asg {g : TG} (h : PS X st (tAsg (tOf X.K E (ev C x)) g)) (hg : ∀ v σ H Q, gNames X.K t v σ H Q → g v σ H Q) : PS X st (tOfS X.K E (x1 C (.asg t x))) := by
  refine ps_of h fun D σ H h => ?_
  obtain ⟨ρ, F, B, F0, R, h⟩ := h
  rw [x1.eq_1] at h
  refine ⟨ρ, F, R.rel, AnsS.bindE h R.grow fun r hr v F1 H1 g1 d1 => ?_⟩
  obtain ⟨d, e1, h⟩ := AnsS.okD hr (frz_ne r)
  obtain ⟨ρ1, e2, h⟩ := AnsS.okD h (setT_ne t d ρ)
  obtain ⟨F2, g2, s2, dn⟩ := frz1 g1 (Same.refl F1) d1 e1
  exact hg v σ H1 _ (gs_names (R.more g2) dn e2 fun σ1 R1 => h σ1 F2 H1 R1)
theorem s_own {i : Nat} (h : PS X st (tAsg (tOf X.K E (ev C x)) (gName i))) : PS X st (tOfS X.K E (x1 C (.own i x))) := by
  refine ps_of h fun D σ H h => ?_
  obtain ⟨ρ, F, B, F0, R, h⟩ := h
  rw [x1.eq_2] at h
  refine ⟨ρ, F, R.rel, AnsS.bindE h R.grow fun r hr v F1 H1 g1 d1 => ?_⟩
  unfold ownS at hr
  split at hr
  · obtain ⟨a, vs, rfl, h0, hf, hh, t⟩ := d1
    refine hr _ F1 H1 ((R.more g1).setL (R.grow.hp.free h0) hf hh t fun j ys _ ej oj es => ?_)
    obtain ⟨w, q1, qq⟩ := R.rel.slot j _ ej
    obtain ⟨b, o2, rfl, f2, h2, t2⟩ := qq.ownAt oj
    rw [q1] at es
    cases es
    rw [h2] at h0
    cases h0
  · exact hr.elim
theorem frzAll_ne : ∀ (rs : List R) (c : Nat), frzAll rs ≠ .err c
  | [], c => by intro e; cases e
  | r :: rs, c => by
    intro e
    unfold frzAll mapR at e
    have ih := frzAll_ne rs
    unfold frzAll at ih
    cases q : mapR R.frz rs with
    | err d => exact ih d q
    | bad => cases r <;> simp [R.frz, q] at e
    | ok ys => cases r <;> simp [R.frz, q] at e
/-- a, b = e1, e2 -/
theorem s_par2 {i j : Nat} {y : Ex} (h : PS X st (tPar i j (tOfA X.K E (evs C (.cons x (.cons y .nil)))))) : PS X st (tOfS X.K E (x1 C (.par i j x y))) := by
  refine ps_of h fun D σ H h => ?_
  obtain ⟨ρ, F, B, F0, R, h⟩ := h
  rw [x1.eq_3] at h
  have ee : evs C (.cons x (.cons y .nil)) ρ = (ev C x ρ >>= fun a => ev C y ρ >>= fun b => .ok [a, b]) := by
    rw [evs.eq_2, evs.eq_2, evs.eq_1]
    cases ev C x ρ with
    | bad => rfl
    | err c => rfl
    | ok a => cases ev C y ρ <;> rfl
  rw [← ee] at h
  refine ⟨ρ, F, R.rel, AnsS.bindA h R.grow fun rs hr vs F1 H1 g1 d1 => ?_⟩
  obtain ⟨ds, e1, h⟩ := AnsS.okD hr (frzAll_ne rs)
  obtain ⟨F2, g2, s2, dn⟩ := frzN g1 (Same.refl F1) d1 e1
  split at h
  · rename_i hlen
    have R2 := R.more g2
    have hl : vs.length = 2 := dn.length.trans hlen
    match vs, hl with
    | [v, w], _ =>
      refine ⟨v, w, rfl, ?_⟩
      have := h _ F2 H1 ⟨R2.rel.setAll (is := [i, j]) dn, R2.grow, own_setAll dn.length R2.own⟩
      unfold setV setV setV at this
      exact this
  · exact h.elim
/-! lists of one's own -/
theorem slot_own {K : PySem.W.Frag} {B F0 F H : Hp} {ρ : Sto} {σ : L2.St} {i : Nat} {xs : List PP.D} (R : RelS K B F0 ρ σ F H) (e : ρ[i]? = some (some (.l xs))) : ∃ a vs, σ[i]? = some (some (.ref a)) ∧ F a = none ∧ H a = some (.lst vs) ∧ DnAll K F vs xs := by
  obtain ⟨v, es, a, vs, rfl, hf, hh, t⟩ := R.rel.slot i _ e
  exact ⟨a, vs, es, hf, hh, t⟩
theorem ownX_get {ρ : Sto} {i : Nat} {k : List PP.D → Rs Out} {K : PySem.W.Frag} {F0 B : Hp} {D : Ends} (h : AnsS K E (ownX ρ i k) F0 B D) : ∃ xs, ρ[i]? = some (some (.l xs)) ∧ AnsS K E (k xs) F0 B D := by
  unfold ownX at h
  split at h
  · rename_i xs e; exact ⟨xs, e, h⟩
  · exact h.elim
theorem AnsS.fit {n : Nat} {m : Rs Out} {K : PySem.W.Frag} {F0 B : Hp} {D : Ends} (h : AnsS K E (PP.fit n m) F0 B D) : n ≤ lim ∧ AnsS K E m F0 B D := fit_of (P := fun m => AnsS K E m F0 B D) h id
theorem lim_lt : lim < sizeLine := by decide
theorem s_app {i : Nat} (h : PS X st (tDrop (tBM X.K "list" rAppend (tVar i) (tCons (tOf X.K E (ev C x)) tNil)))) : PS X st (tOfS X.K E (x1 C (.app i x))) := by
  refine ps_of h fun D σ H h => ?_
  obtain ⟨ρ, F, B, F0, R, h⟩ := h
  rw [x1.eq_4] at h
  obtain ⟨xs, e, h⟩ := ownX_get h
  obtain ⟨a, vs, es, hf, hh, t⟩ := slot_own R e
  refine ⟨_, es, .inl ⟨rfl, _, .inl (.inl hh)⟩, ρ, F, R.rel, AnsS.bindE h R.grow fun r hr v F1 H1 g1 d1 => ?_⟩
  obtain ⟨d, e1, h⟩ := AnsS.okD hr (frz_ne r)
  obtain ⟨F2, g2, s2, dn⟩ := frz1 g1 (Same.refl F1) d1 e1
  obtain ⟨hz, h⟩ := AnsS.fit h
  refine ⟨a, _, _, rfl, rfl, g2.hp _ _ hh, ?_, h σ F2 _ ((R.more g2).mut e es ((g2.old a _ hh).trans hf) (g2.hp _ _ hh) ((t.mono g2.fr).append (.cons dn .nil)))⟩
  rw [t.length]
  have := lim_lt
  simp at hz
  omega
theorem s_ext {i : Nat} (h : PS X st (tDrop (tBM X.K "list" rExtend (tVar i) (tCons (tOf X.K E (ev C x)) tNil)))) : PS X st (tOfS X.K E (x1 C (.ext i x))) := by
  refine ps_of h fun D σ H h => ?_
  obtain ⟨ρ, F, B, F0, R, h⟩ := h
  rw [x1.eq_5] at h
  obtain ⟨xs, e, h⟩ := ownX_get h
  obtain ⟨a, vs, es, hf, hh, t⟩ := slot_own R e
  refine ⟨_, es, .inl ⟨rfl, _, .inl (.inl hh)⟩, ρ, F, R.rel, AnsS.bindE h R.grow fun r hr v F1 H1 g1 d1 => ?_⟩
  split at hr
  · rename_i ys ey
    obtain ⟨hz, h⟩ := AnsS.fit hr
    obtain ⟨b, ws, rfl, hb, tb⟩ := d1.lst g1.sub ey
    refine ⟨a, b, _, _, rfl, rfl, g1.hp _ _ hh, hb, ?_, h σ F1 _ ((R.more g1).mut e es ((g1.old a _ hh).trans hf) (g1.hp _ _ hh) ((t.mono g1.fr).append tb))⟩
    rw [t.length, tb.length]
    have := lim_lt
    omega
  · exact hr.elim
theorem dn_set {K : PySem.W.Frag} {F : Hp} {v : V} {d : PP.D} : ∀ {vs : List V} {ds : List PP.D}, DnAll K F vs ds → Dn K F v d → ∀ n, DnAll K F (vs.set n v) (ds.set n d)
  | _, _, .nil, _, _ => .nil
  | _, _, .cons r t, q, 0 => .cons q t
  | _, _, .cons r t, q, n + 1 => .cons r (dn_set t q n)
theorem s_put {i : Nat} {xk : Ex} (h : PS X st (tAsg (tOf X.K E (ev C x)) (gSub (tVar i) (tOf X.K E (ev C xk)) rSetL))) : PS X st (tOfS X.K E (x1 C (.put i xk x))) := by
  refine ps_of h fun D σ H h => ?_
  obtain ⟨ρ, F, B, F0, R, h⟩ := h
  rw [x1.eq_6] at h
  obtain ⟨xs, e, h⟩ := ownX_get h
  obtain ⟨a, vs, es, hf, hh, t⟩ := slot_own R e
  refine ⟨ρ, F, R.rel, AnsS.bindE h R.grow fun r hr v F1 H1 g1 d1 => ?_⟩
  obtain ⟨d, e1, h⟩ := AnsS.okD hr (frz_ne r)
  obtain ⟨F2, g2, s2, dn⟩ := frz1 g1 (Same.refl F1) d1 e1
  have R2 := R.more g2
  refine ⟨_, es, ρ, F2, R2.rel, AnsS.bindE h R2.grow fun k hk w F3 H3 g3 d3 => ?_⟩
  unfold putS at hk
  split at hk
  · split at hk
    · rename_i hj
      have gA := g2.trans g3
      cases d3
      have hlen : vs.length = xs.length := t.length
      refine ⟨a, vs, _, _, rfl, rfl, gA.hp _ _ hh, by unfold ixN; rw [if_pos hj.1, if_pos (by rw [hlen]; exact hj.2)], hk σ F3 _ ((R2.more g3).mut e es ((gA.old a _ hh).trans hf) (gA.hp _ _ hh) ?_)⟩
      exact dn_set (t.mono gA.fr) (dn.mono g3.fr) _
    · exact hk.elim
  · exact hk.elim
/-! blocks, branches, ends -/
variable {ss : Sms} {s : Sm} {rest : List Stmt}
theorem b_nil : PSs X [] (tOfS X.K E (xs C .nil)) := by
  refine pss_of pss_nil fun D σ H h => ?_
  obtain ⟨ρ, F, B, F0, R, h⟩ := h
  rw [xs.eq_1] at h
  exact h σ F H R
theorem AnsS.bindS {K : PySem.W.Frag} {m : Rs Out} {k : Sto → Rs Out} {F0 B : Hp} {D : Ends} (h : AnsS K E (m >>= fun o => match o with | .nx ρ1 => k ρ1 | .rt r => .ok (.rt r)) F0 B D) {N : L2.St → Hp → Prop}
    (hn : ∀ ρ1, AnsS K E (k ρ1) F0 B D → ∀ σ F H, RelS K B F0 ρ1 σ F H → N σ H) : AnsS K E m F0 B { D with nx := N } := by
  cases m with
  | bad => exact h
  | err c => exact h
  | ok o =>
    cases o with
    | nx ρ1 => exact hn ρ1 h
    | rt r => exact h
theorem b_cons (h1 : PS X st (tOfS X.K E (x1 C s))) (h2 : PSs X rest (tOfS X.K E (xs C ss))) : PSs X (st :: rest) (tOfS X.K E (xs C (.cons s ss))) := by
  refine pss_of (pss_cons h1 h2) fun D σ H h => ?_
  obtain ⟨ρ, F, B, F0, R, h⟩ := h
  rw [xs.eq_2] at h
  exact ⟨ρ, F, B, F0, R, AnsS.bindS h fun ρ1 h1 σ1 F1 H1 R1 => ⟨ρ1, F1, B, F0, R1, h1⟩⟩
theorem b_frz {i : Nat} (h2 : PSs X rest (tOfS X.K E (xs C ss))) : PSs X rest (tOfS X.K E (xs C (.cons (.frz i) ss))) := by
  refine pss_of h2 fun D σ H h => ?_
  obtain ⟨ρ, F, B, F0, R, h⟩ := h
  rw [xs.eq_2, x1.eq_7] at h
  unfold frzS at h
  split at h
  · rename_i ys e
    obtain ⟨F', R'⟩ := R.freeze e
    exact ⟨_, F', B, F0, R', h⟩
  · exact h.elim
theorem s_if {c : Expr} {p q : List Stmt} {sp sq : Sms} (hc : PT X c (tOfT X.K E (evT C xc))) (hp : PSs X p (tOfS X.K E (xs C sp))) (hq : PSs X q (tOfS X.K E (xs C sq))) : PS X (.If c p q pos) (tOfS X.K E (x1 C (.ifs xc sp sq))) := by
  refine ps_of (ps_if hc hp hq) fun D σ H h => ?_
  obtain ⟨ρ, F, B, F0, R, h⟩ := h
  rw [x1.eq_8] at h
  refine ⟨ρ, F, R.rel, AnsS.bindT h R.grow fun k hk F1 H1 g1 => ?_⟩
  cases k with
  | true => exact ⟨ρ, F1, B, F0, R.more g1, hk⟩
  | false => exact ⟨ρ, F1, B, F0, R.more g1, hk⟩
theorem s_ret {a : Expr} (ha : PE X a (tOf X.K E (ev C x))) : PS X (.Return (some a) pos) (tOfS X.K E (x1 C (.ret x))) := by
  refine ps_of (ps_ret ha) fun D σ H h => ?_
  obtain ⟨ρ, F, B, F0, R, h⟩ := h
  rw [x1.eq_11] at h
  refine ⟨ρ, F, R.rel, AnsS.bindE h R.grow fun r hr v F1 H1 g1 d1 => ?_⟩
  unfold retR at hr
  split at hr
  · exact hr.elim
  · exact hr.elim
  · exact hr.elim
  · exact hr v F1 H1 (R.grow.trans g1) (d1.back R.grow.hp)
theorem s_rtl {i : Nat} {a : Expr} (ha : PE X a (tVar i)) : PS X (.Return (some a) pos) (tOfS X.K E (x1 C (.rtl i))) := by
  refine ps_of (ps_ret ha) fun D σ H h => ?_
  obtain ⟨ρ, F, B, F0, R, h⟩ := h
  rw [x1.eq_12] at h
  unfold rtlS at h
  split at h
  · rename_i ys e
    obtain ⟨a, vs, es, hf, hh, t⟩ := slot_own R e
    exact ⟨_, es, h _ F H R.grow ⟨a, vs, rfl, R.own i _ a e rfl es, hf, hh, t⟩⟩
  · exact h.elim
theorem s_pass : PS X (.Pass pos) (tOfS X.K E (x1 C .pas)) := by
  refine ps_of ps_pass fun D σ H h => ?_
  obtain ⟨ρ, F, B, F0, R, h⟩ := h
  rw [x1.eq_14] at h
  exact h σ F H R
theorem s_doc {z : Str} {j : Nat} {p : Pos} : PS X (.Expr (.Constant (.str z) j p) pos) (tOfS X.K E (x1 C .pas)) := by
  refine ps_of ps_doc fun D σ H h => ?_
  obtain ⟨ρ, F, B, F0, R, h⟩ := h
  rw [x1.eq_14] at h
  exact h σ F H R
/-! loops -/
theorem Grow.debase {F0 B F1 H1 F H : Hp} (g : Grow F0 B F1 H1) (k : Grow F1 B F H) : Grow F0 B F H := ⟨g.fr.trans k.fr, k.hp, k.sub, fun a o e => (k.old a o e).trans (g.old a o e)⟩
theorem RelS.rebase {K : PySem.W.Frag} {B F0 F H : Hp} {ρ : Sto} {σ : L2.St} (R : RelS K B F0 ρ σ F H) : RelS K B F ρ σ F H := ⟨R.rel, ⟨Same.refl F, R.grow.hp, R.grow.sub, fun _ _ _ => rfl⟩, R.own⟩
theorem RelS.debase {K : PySem.W.Frag} {B F0 F1 H1 F H : Hp} {ρ : Sto} {σ : L2.St} (g : Grow F0 B F1 H1) (R : RelS K B F1 ρ σ F H) : RelS K B F0 ρ σ F H := ⟨R.rel, Grow.debase g R.grow, R.own⟩
theorem AnsS.imp {K : PySem.W.Frag} {F0 B F1 H1 : Hp} {m : Rs Out} {D : Ends} {N : L2.St → Hp → Prop} (g : Grow F0 B F1 H1) (h : AnsS K E (m >>= fun o => match o with | .nx ρ1 => .ok (.nx ρ1) | .rt r => .ok (.rt r)) F0 B D) (hn : ∀ ρ1, m = .ok (.nx ρ1) → ∀ σ F H, RelS K B F1 ρ1 σ F H → N σ H) :
    AnsS K E m F1 B { D with nx := N, ct := N, bk := D.nx } := by
  cases m with
  | bad => exact h
  | err c => exact fun F' H' k => h F' H' (Grow.debase g k)
  | ok o =>
    cases o with
    | nx ρ1 => exact hn ρ1 rfl
    | rt r => exact fun v F H k => h v F H (Grow.debase g k)
theorem s_for {tg iter : Expr} {body : List Stmt} {sb : Sms} (hp : PassesOwn (model X.prog X.w) X.A X.env X.xe) (hc : X.calm = true) (hi : PI X tg iter (tOfI X.K E (evI C it))) (hg : PG X tg (gNames X.K t)) (hb : PSs X body (tOfS X.K E (xs C sb)))
    (hs : ∀ x, foldedSetIterable iter X.env x = pure x) : PS X (.For tg iter body [] pos) (tOfS X.K E (x1 C (.for_ t it sb))) := by
  refine ps_of (ps_for hp hc hi hg hb hs) fun D σ H h => ?_
  obtain ⟨ρ, F, B, F0, R, h⟩ := h
  rw [x1.eq_9] at h
  refine ⟨ρ, F, R.rel, AnsS.bindI h R.grow fun ds hd J F1 H1 g1 itd => ?_⟩
  refine for_it itd (fun i σ1 H2 => ∃ ρ1 F2, RelS X.K B F0 ρ1 σ1 F2 H2 ∧ Same F1 F2 ∧ AnsS X.K E (forL t (fun ρ1 => xs C sb ρ1) (ds.drop i) ρ1) F0 B D) ?_ ?_ ?_ ?_
  · exact ⟨ρ, F1, R.more g1, Same.refl F1, hd⟩
  · rintro i σ1 H2 _ ⟨ρ1, F2, R2, s2, _⟩
    exact s2.trans R2.rel.sub
  · rintro i x σ1 H2 H3 hi ⟨ρ1, F2, R2, s2, h2⟩ ⟨d, ed, hy⟩
    obtain ⟨F3, g3, dn⟩ := hy F2 s2 R2.rel.sub
    have edrop : ds.drop i = d :: ds.drop (i + 1) := by
      obtain ⟨hi', e'⟩ := List.getElem?_eq_some_iff.mp ed
      rw [List.drop_eq_getElem_cons hi', e']
    rw [edrop] at h2
    unfold forL at h2
    obtain ⟨ρ2, e2, h2⟩ := AnsS.okD h2 (setT_ne t d ρ1)
    refine gs_names (R2.more g3) dn e2 fun σ2 R3 => ?_
    refine ⟨ρ2, F3, B, F3, R3.rebase, ?_⟩
    have s3 : Same F1 F3 := s2.trans g3.fr
    cases e3 : xs C sb ρ2 with
    | bad => simp only [e3, bind_bad] at h2; exact h2
    | err c => simp only [e3, bind_err] at h2; exact fun F' H' k => h2 F' H' (Grow.debase R3.grow k)
    | ok o =>
      simp only [e3, bind_ok] at h2
      cases o with
      | rt r => exact fun v F' H' k => h2 v F' H' (Grow.debase R3.grow k)
      | nx ρ3 =>
        intro σ3 F4 H4 R4
        exact ⟨ρ3, F4, R4.debase R3.grow, s3.trans R4.grow.fr, h2⟩
  · rintro σ1 H2 ⟨ρ1, F2, R2, s2, h2⟩
    rw [List.drop_length] at h2
    unfold forL at h2
    exact h2 σ1 F2 H2 R2
theorem s_while {c : Expr} {body : List Stmt} {sb : Sms} (hp : PassesOwn (model X.prog X.w) X.A X.env X.xe) (hc : PT X c (tOfT X.K E (evT C xc))) (hb : PSs X body (tOfS X.K E (xs C sb))) : PS X (.While c body [] pos) (tOfS X.K E (x1 C (.whl xc sb))) := by
  refine ps_of (ps_while hp hc hb) fun D σ H h => ?_
  obtain ⟨ρ, F, B, F0, R, h⟩ := h
  rw [x1.eq_10] at h
  refine ⟨fun m σ1 H1 => ∃ ρ1 F1, RelS X.K B F0 ρ1 σ1 F1 H1 ∧ AnsS X.K E (whlL (fun ρ1 => evT C xc ρ1) (fun ρ1 => xs C sb ρ1) m ρ1) F0 B D, ⟨5000, ρ, F, R, h⟩, ?_⟩
  rintro m σ1 H1 ⟨ρ1, F1, R1, h1⟩
  cases m with
  | zero => unfold whlL at h1; exact h1.elim
  | succ m =>
    unfold whlL at h1
    refine ⟨ρ1, F1, R1.rel, AnsS.bindT h1 R1.grow fun k hk F2 H2 g2 => ?_⟩
    cases k with
    | false => exact hk σ1 F2 H2 (R1.more g2)
    | true =>
      simp only [if_true] at hk ⊢
      refine ⟨fun σ' H' => ∃ ρ1 F1, RelS X.K B F0 ρ1 σ' F1 H' ∧ AnsS X.K E (whlL (fun ρ1 => evT C xc ρ1) (fun ρ1 => xs C sb ρ1) m ρ1) F0 B D, fun σ' H' q => ⟨m, Nat.lt_succ_self m, q⟩, ?_⟩
      refine ⟨ρ1, F2, B, F0, R1.more g2, ?_⟩
      cases e3 : xs C sb ρ1 with
      | bad => simp only [e3, bind_bad] at hk; exact hk
      | err c => simp only [e3, bind_err] at hk; exact hk
      | ok o =>
        simp only [e3, bind_ok] at hk
        cases o with
        | rt r => exact hk
        | nx ρ3 => exact fun σ3 F4 H4 R4 => ⟨ρ3, F4, R4, hk⟩
end
end PP

set_option Elab.async false
set_option linter.all false
set_option autoImplicit false
set_option maxRecDepth 100000
set_option maxHeartbeats 1000000
namespace PP
open PySem L2
/-! ### enumerate -/
section
variable {X : Cx} {E : EX} {K : PySem.W.Frag} {C : Nat → List R → Rs R} {pos p : Pos} {tg a b : Expr} {xa xb : Ex} {F H : Hp}
theorem enumL_get : ∀ {xs : List D} {i n : Nat} {x : D}, xs[i]? = some x → (enumL n xs)[i]? = some (.tuple [.int ((n + i : Nat) : Int), x])
  | y :: ys, 0, n, x, e => by simp at e; subst e; simp [enumL]
  | y :: ys, i + 1, n, x, e => by
    have := enumL_get (xs := ys) (i := i) (n := n + 1) (x := x) (by simpa using e)
    rw [enumL, List.getElem?_cons_succ, this, show n + 1 + i = n + (i + 1) by omega]
theorem enumL_len : ∀ (n : Nat) (xs : List D), (enumL n xs).length = xs.length
  | _, [] => rfl
  | n, x :: xs => by simp [enumL, enumL_len (n + 1) xs]
theorem yenum_yd {G : Hp} {vs : List V} {ds : List D} (t : DnAll K G vs ds) {i : Nat} {H : Hp} {x : V} {H' : Hp} (y : YPair (fun i => some (.int (i : Nat))) (fun i => vs[i]?) i H x H') : YD K G (enumL 0 ds) i H x H' := by
  obtain ⟨T, x1, y1, rfl, e2, rfl, e4, e5⟩ := y
  cases e4
  obtain ⟨d2, q2, r2⟩ := t.get e5
  refine ⟨_, enumL_get q2, fun F s1 s2 => ⟨_, Grow.new s2 e2, ?_⟩⟩
  have g : Same F (upd F T (.tup [.int (i : Nat), y1])) := same_new (s2.free e2)
  have z : ((0 + i : Nat) : Int) = (i : Int) := by omega
  rw [z]
  exact .tup (.inl (.inl upd_same)) (.cons (.int _) (.cons (r2.mono (s1.trans g)) .nil))
theorem q_enum {elts : List Expr} {kk : Nat} {tpos : Pos} (hg : Gl X "enumerate") (hm : X.mg "enumerate" = none) (ha : PE X a (tOf X.K E (ev C xa))) (hs : starEach [a] X.env = [(false, eval a X.env)]) :
    PI X (.Tuple elts kk tpos) (.Call (.Name "enumerate" p) [a] [] pos) (tOfI X.K E (evI C (.enum xa))) := by
  refine ⟨fun pins s σ H R I h => ?_⟩
  obtain ⟨ρ, F, Rl, h⟩ := h
  rw [evI.eq_4] at h
  by_cases ht : ∃ ys, ev C xa ρ = .ok (.d (.tuple ys))
  · obtain ⟨ys, e⟩ := ht
    refine (pi_enumT hg hm (pa_cons ha pa_nil hs) hs).run pins s σ H R I ⟨ρ, F, Rl, ?_⟩
    rw [e] at h ⊢
    intro v F1 H1 g1 d1
    have h : AnsI X.K E (.ok (enumL 0 ys)) F H R := h
    obtain ⟨F2, l, vs, g2, rfl, t, q⟩ := itm_list (x := .d (.tuple ys)) (ds := ys) g1 d1 rfl
    rcases q with ⟨_, q⟩ | ⟨q, _⟩
    · exact absurd rfl (q ys)
    · refine ⟨l, vs, rfl, same_t g2.sub q, h _ F2 H1 g2 ?_⟩
      unfold ItD
      rw [enumL_len, ← t.length]
      exact walk_enumT.mono (fun H s => same_t s q) fun i H x H' hi s y => yenum_yd t y
  · refine (pi_enum hg hm (pa_cons ha pa_nil hs) hs).run pins s σ H R I ⟨ρ, F, Rl, ?_⟩
    cases e : ev C xa ρ with
    | bad => rw [e] at h; exact h
    | err c => rw [e] at h; exact h
    | ok x =>
      rw [e] at h
      intro v F1 H1 g1 d1
      have h : AnsI X.K E (x.itm >>= fun xs => .ok (enumL 0 xs)) F H R := h
      cases e2 : x.itm with
      | bad => rw [e2] at h; exact h.elim
      | err c => exfalso; cases x with
        | d y => cases y <;> cases e2
        | _ => cases e2
      | ok ds =>
        rw [e2] at h
        have h : AnsI X.K E (.ok (enumL 0 ds)) F H R := h
        obtain ⟨F2, l, vs, g2, rfl, t, q⟩ := itm_list g1 d1 e2
        rcases q with ⟨q, _⟩ | ⟨_, q⟩
        · refine ⟨l, vs, rfl, same_l g2.sub q, h _ F2 H1 g2 ?_⟩
          unfold ItD
          rw [enumL_len, ← t.length]
          exact walk_enum.mono (fun H s => same_l s q) fun i H x H' hi s y => yenum_yd t y
        · subst q; exact absurd ⟨_, e⟩ ht
end
/-! ### maps -/
section
variable {K : PySem.W.Frag} {F F' H : Hp}
theorem kI_inj : ∀ {a b : List Int}, kI a = kI b → a = b
  | [], [], _ => rfl
  | [], _ :: _, h => by cases h
  | _ :: _, [], h => by cases h
  | x :: xs, y :: ys, h => by
    unfold kI at h
    simp only [List.map_cons, List.cons.injEq, Sum.inl.injEq] at h
    rw [h.1, kI_inj (a := xs) (b := ys) h.2]
theorem kI_dec (a b : List Int) : decide (kI a = kI b) = decide (a = b) := by
  by_cases h : a = b
  · subst h; simp
  · have : ¬ kI a = kI b := fun e => h (kI_inj e)
    simp [h, this]
theorem kI_vals (ks : List Int) : (kI ks).map kV = ks.map V.int := by
  simp [kI, kV, Function.comp_def]
theorem KD.val {ps : List (List L2.Key × V)} {kvs : List (List Int × D)} (h : KD K F ps kvs) {k : List Int} {d : D} (e : valM kvs k = some d) : ∃ v, valV ps (kI k) = some v ∧ Dn K F v d := by
  induction h with
  | nil => cases e
  | @cons k' v' d' ps qs r t ih =>
    by_cases hk : k' = k
    · subst hk
      simp [valM] at e
      subst e
      exact ⟨v', valV_pos rfl, r⟩
    · have e2 : valM qs k = some d := by simpa [valM, List.find?_cons, hk] using e
      obtain ⟨v, q1, q2⟩ := ih e2
      exact ⟨v, by rw [valV_neg (fun z => hk (kI_inj z))]; exact q1, q2⟩
theorem KD.any {ps : List (List L2.Key × V)} {kvs : List (List Int × D)} (h : KD K F ps kvs) (k : List Int) : (ps.any fun kv => decide (kv.1 = kI k)) = kvs.any fun kv => decide (kv.1 = k) := by
  induction h with
  | nil => rfl
  | cons r t ih => rw [List.any_cons, List.any_cons, ih, kI_dec]
theorem KD.repl {ps : List (List L2.Key × V)} {kvs : List (List Int × D)} (h : KD K F ps kvs) (k : List Int) {v : V} {d : D} (r : Dn K F v d) :
    KD K F (ps.map fun kv => if kv.1 = kI k then (kv.1, v) else kv) (kvs.map fun kv => if kv.1 = k then (kv.1, d) else kv) := by
  induction h with
  | nil => exact .nil
  | @cons k' v' d' ps qs r' t ih =>
    rw [List.map_cons, List.map_cons]
    by_cases hk : k' = k
    · subst hk
      simp only [if_true]
      exact .cons r ih
    · rw [if_neg (show ¬ kI k' = kI k from fun z => hk (kI_inj z)), if_neg hk]
      exact .cons r' ih
theorem KD.app {ps : List (List L2.Key × V)} {kvs : List (List Int × D)} (h : KD K F ps kvs) (k : List Int) {v : V} {d : D} (r : Dn K F v d) : KD K F (ps ++ [(kI k, v)]) (kvs ++ [(k, d)]) := by
  induction h with
  | nil => exact .cons r .nil
  | cons r' t ih => exact .cons r' ih
theorem KD.put {ps : List (List L2.Key × V)} {kvs : List (List Int × D)} (h : KD K F ps kvs) (k : List Int) {v : V} {d : D} (r : Dn K F v d) : KD K F (putK ps (kI k) v) (putM kvs k d) := by
  unfold putK putM
  rw [h.any k]
  split
  · exact h.repl k r
  · exact h.app k r
theorem KD.len {ps : List (List L2.Key × V)} {kvs : List (List Int × D)} (h : KD K F ps kvs) : ps.length = kvs.length := by
  induction h with
  | nil => rfl
  | cons r t ih => simp [ih]
end
section
variable {X : Cx} {E : EX} {C : Nat → List R → Rs R} {pos p q : Pos} {es : List Expr} {xs : Exs} {x : Str} {i k : Nat}
theorem slotM_get {ρ : Sto} {σ : L2.St} {F H : Hp} {kvs : List (List Int × D)} (R : Rel X.K ρ σ F H) (e : slotM ρ i = some kvs) : ∃ a ps, σ[i]? = some (some (.ref a)) ∧ H a = some (.dT ps) ∧ KD X.K F ps kvs := by
  unfold slotM at e
  split at e
  · rename_i kvs' e'
    cases e
    obtain ⟨v, es, a, ps, rfl, hf, t⟩ := R.slot i _ e'
    exact ⟨a, ps, es, R.sub _ _ hf, t⟩
  · rename_i kvs' e'
    cases e
    obtain ⟨v, es, a, ps, rfl, hf, hh, t⟩ := R.slot i _ e'
    exact ⟨a, ps, es, hh, t⟩
  · cases e
theorem q_mget (hu : X.A.units + 1 < cLine) (hn : PE X (.Name x p) (tVar i)) (ha : PA X es (tOfA X.K E (evs C xs))) : PE X (.Subscript (.Name x p) (.Tuple es k q) pos) (tOf X.K E (ev C (.mget i xs))) := by
  refine pe_of (pe_dget hu hn (pe_tup ha) (fun _ _ => rfl)) fun σ H Q h => ?_
  obtain ⟨ρ, F, R, h⟩ := h
  rw [ev.eq_23] at h
  unfold slotX at h
  split at h
  · rename_i kvs em
    obtain ⟨a, ps, ea, hh, t⟩ := slotM_get R em
    refine ⟨_, ea, ρ, F, R, AnsA.bind h fun rs hrs vs F1 H1 g1 d1 => ?_⟩
    obtain ⟨ds, e, hk⟩ := Ans.frzAll hrs
    obtain ⟨hz, hk⟩ := hk.fit
    obtain ⟨F2, g2, s2, t2⟩ := frzN g1 (Same.refl F1) d1 e
    refine ⟨by rw [t2.length]; exact Nat.le_trans hz lim_le, fun p hp => ?_⟩
    unfold mgetR at hk
    split at hk
    · rename_i ks ek
      split at hk
      · rename_i d ed
        obtain ⟨v, q1, q2⟩ := t.val ed
        have hv := dn_ints (ints_of ek ▸ t2)
        have hne : H1 a = some (.dT ps) := g2.hp _ _ hh
        refine ⟨a, v, rfl, .inr ⟨ps, kI ks, p, .inl ?_, rfl, ?_, q1.symm⟩, ?_⟩
        · rw [upd_ne (ne_of_none hne hp)]; exact hne
        · rw [upd_same, kI_vals, hv]
        · exact hk v F2 _ ⟨g2.fr, g2.hp.trans (same_new hp), g2.sub.trans (same_new hp), g2.old⟩ (q2.mono g2.fr)
      · exact hk.elim
    · exact hk.elim
  · exact h.elim
end
section
variable {X : Cx} {E : EX} {C : Nat → List R → Rs R} {x : Ex} {st : Stmt} {pos p q : Pos} {e : Expr} {i : Nat}
/-! ### statements -/
theorem s_mnew (h : PS X st (tAsg tDNewT (gName i))) : PS X st (tOfS X.K E (x1 C (.mnew i))) := by
  refine ps_of h fun D σ H h => ?_
  obtain ⟨ρ, F, B, F0, R, h⟩ := h
  rw [x1.eq_17] at h
  intro p hp
  have g : Grow F H F (upd H p (.dT [])) := Grow.own R.rel.sub hp
  refine h _ F _ ((R.more g).setO (x := .n []) (o := .dT []) (R.grow.hp.free hp) (R.rel.sub.free hp) upd_same ⟨[], rfl, .nil⟩ fun j r _ ej oj es => ?_)
  obtain ⟨w, q1, qq⟩ := R.rel.slot j _ ej
  obtain ⟨b, o2, rfl, f2, h2, t2⟩ := qq.ownAt oj
  rw [q1] at es
  cases es
  rw [h2] at hp
  cases hp
theorem s_rtm {a : Expr} (ha : PE X a (tVar i)) : PS X (.Return (some a) pos) (tOfS X.K E (x1 C (.rtm i))) := by
  refine ps_of (ps_ret ha) fun D σ H h => ?_
  obtain ⟨ρ, F, B, F0, R, h⟩ := h
  rw [x1.eq_19] at h
  unfold rtmS at h
  split at h
  · rename_i ys e
    obtain ⟨v, es, a, ps, rfl, hf, hh, t⟩ := R.rel.slot i _ e
    have hb := R.own i _ a e rfl es
    have g : Grow F0 B (upd F a (.dT ps)) H := R.grow.freeze hb hf hh
    exact ⟨_, es, h _ _ H g ⟨a, ps, rfl, upd_same, t.mono (same_new hf)⟩⟩
  · exact h.elim
theorem s_mas (h : PS X st (tAsg (tOf X.K E (ev C x)) (gName i))) : PS X st (tOfS X.K E (x1 C (.mas i x))) := by
  refine ps_of h fun D σ H h => ?_
  obtain ⟨ρ, F, B, F0, R, h⟩ := h
  rw [x1.eq_20] at h
  refine ⟨ρ, F, R.rel, AnsS.bindE h R.grow fun r hr v F1 H1 g1 d1 => ?_⟩
  unfold masS at hr
  split at hr
  · rename_i kvs
    have R1 := R.more g1
    have hl := R1.rel.len
    refine hr _ F1 H1 ⟨⟨by rw [List.length_set, List.length_set]; exact hl, R1.rel.sub, fun j r e => ?_, fun j k a xs ys e1 e2 o1 o2 e3 e4 => ?_⟩, R1.grow, own_setR rfl R1.own v⟩
    · rcases get_set_some e with ⟨rfl, rfl⟩ | ⟨hj, e⟩
      · have hi : j < ρ.length := by
          have := (List.getElem?_eq_some_iff.mp e).1
          simpa using this
        exact ⟨v, List.getElem?_set_self (by omega), d1⟩
      · obtain ⟨w, q1, q2⟩ := R1.rel.slot j r e
        exact ⟨w, by rw [List.getElem?_set_ne (Ne.symm hj)]; exact q1, q2⟩
    · rcases get_set_some e1 with ⟨rfl, q⟩ | ⟨hj, e1⟩
      · subst q; cases o1
      · rcases get_set_some e2 with ⟨rfl, q⟩ | ⟨hk, e2⟩
        · subst q; cases o2
        · rw [List.getElem?_set_ne (Ne.symm hj)] at e3
          rw [List.getElem?_set_ne (Ne.symm hk)] at e4
          exact R1.rel.apart j k a xs ys e1 e2 o1 o2 e3 e4
  · exact hr.elim
theorem s_mput {es : List Expr} {ks : Exs} {k : Nat} {y : Str} {a : Expr} {q2 : Pos} (hu : X.A.units + 1 < cLine) (hn : PE X (.Name y p) (tVar i)) (ha : PA X es (tOfA X.K E (evs C ks))) (hv : PE X a (tOf X.K E (ev C x)))
    (hs : swapsWith a (some (.Subscript (.Name y p) (.Tuple es k q) q2)) pos.line X.env = pure false) : PS X (.Assign [.Subscript (.Name y p) (.Tuple es k q) q2] a pos) (tOfS X.K E (x1 C (.mput i ks x))) := by
  refine ps_of (ps_dput hu hn (pe_tup ha) hv hs) fun D σ H h => ?_
  obtain ⟨ρ, F, B, F0, R, h⟩ := h
  rw [x1.eq_18] at h
  unfold mapX at h
  split at h
  · rename_i kvs em
    obtain ⟨v0, es0, a0, ps, rfl, hf, hh, t⟩ := R.rel.slot i _ em
    refine ⟨ρ, F, R.rel, AnsS.bindE h R.grow fun r hr v F1 H1 g1 d1 => ?_⟩
    obtain ⟨d, e1, h⟩ := AnsS.okD hr (frz_ne r)
    obtain ⟨F2, g2, s2, dn⟩ := frz1 g1 (Same.refl F1) d1 e1
    have R2 := R.more g2
    refine ⟨_, es0, ρ, F2, R2.rel, AnsS.bindA h R2.grow fun rs hrs vs F3 H3 g3 d3 => ?_⟩
    obtain ⟨ds, e3, h⟩ := AnsS.okD hrs (frzAll_ne rs)
    obtain ⟨F4, g4, s4, t4⟩ := frzN g3 (Same.refl F3) d3 e3
    obtain ⟨hz, h⟩ := AnsS.fit h
    refine ⟨by rw [t4.length]; exact Nat.le_trans hz lim_le, fun p hp => ?_⟩
    unfold mputS at h
    split at h
    · rename_i kk ek
      obtain ⟨hz2, h⟩ := AnsS.fit h
      have hv := dn_ints (ints_of ek ▸ t4)
      have g5 : Grow F2 H1 F4 (upd H3 p (.tup vs)) := ⟨g4.fr, g4.hp.trans (same_new hp), g4.sub.trans (same_new hp), g4.old⟩
      have R5 := R2.more g5
      have hh1 : H1 a0 = some (.dT ps) := g2.hp _ _ hh
      have hh5 : upd H3 p (.tup vs) a0 = some (.dT ps) := g5.hp _ _ hh1
      have hf5 : F4 a0 = none := (g5.old a0 _ hh1).trans ((g2.old a0 _ hh).trans hf)
      refine ⟨a0, _, rfl, .inr ⟨ps, kI kk, p, hh5, rfl, ?_, ?_, rfl⟩, ?_⟩
      · rw [upd_same, kI_vals, hv]
      · have := lim_lt
        rw [t.len]; omega
      · exact h σ F4 _ (R5.mutO em rfl es0 hf5 (y := .n (putM kvs kk d)) ⟨_, rfl, ((t.mono g2.fr).mono g5.fr).put kk (dn.mono g5.fr)⟩)
    · exact h.elim
  · exact h.elim
theorem s_exp {a : Expr} (h : PS X st (tDrop (tOf X.K E (ev C x)))) : PS X st (tOfS X.K E (x1 C (.exp x))) := by
  refine ps_of h fun D σ H h => ?_
  obtain ⟨ρ, F, B, F0, R, h⟩ := h
  rw [x1.eq_16] at h
  exact ⟨ρ, F, R.rel, AnsS.bindE h R.grow fun r hr v F1 H1 g1 d1 => hr σ F1 H1 (R.more g1)⟩
end
end PP

set_option Elab.async false
set_option linter.all false
set_option autoImplicit false
set_option maxRecDepth 100000
set_option maxHeartbeats 1000000
namespace PP
open PySem L2
/-! ### len(set(..)) of ints -/
theorem icount_eq : ∀ (ks vs : List Int), vs.Nodup → (∀ v, v ∈ vs ↔ v ∈ ks) → vs.length = icount ks
  | [], vs, _, h => by
    have : vs = [] := List.eq_nil_iff_forall_not_mem.mpr fun v hv => by have := (h v).mp hv; cases this
    rw [this]; rfl
  | k :: ks, vs, nd, h => by
    unfold icount
    by_cases hk : k ∈ ks
    · rw [if_pos hk]
      refine icount_eq ks vs nd fun v => (h v).trans ⟨fun q => ?_, List.mem_cons_of_mem _⟩
      rcases List.mem_cons.mp q with e | q
      · rw [e]; exact hk
      · exact q
    · rw [if_neg hk]
      have hv : k ∈ vs := (h k).mpr List.mem_cons_self
      have ih := icount_eq ks (vs.erase k) (nd.erase k) fun v => by
        rw [nd.mem_erase_iff, h v, List.mem_cons]
        constructor
        · rintro ⟨q1, q2⟩; exact q2.resolve_left q1
        · exact fun q => ⟨fun e => hk (e ▸ q), .inr q⟩
      rw [List.length_erase_of_mem hv] at ih
      have : 0 < vs.length := List.length_pos_of_mem hv
      omega
theorem dedup_nd : ∀ (l ks : List Int), ks.Nodup → (l.foldl PyProof.Rows.step_dedup ks).Nodup
  | [], ks, h => h
  | a :: l, ks, h => by
    rw [List.foldl_cons, PySem.W.oss_step]
    refine dedup_nd l _ ?_
    by_cases m : a ∈ ks
    · rw [if_pos m]; exact h
    · rw [if_neg m]
      exact (List.perm_append_singleton a ks).nodup_iff.mpr (List.nodup_cons.mpr ⟨m, h⟩)
theorem oss_nodup (l : List Int) : (PySem.W.ossOf l).Nodup := dedup_nd l [] .nil
theorem oss_icount (l : List Int) : (PySem.W.ossOf l).length = icount l := icount_eq l _ (oss_nodup l) fun v => PySem.W.oss_has
def tLenI (K : PySem.W.Frag) (ta : TE) : TE := fun σ H Q => ta σ H fun x H1 => ∃ (l : Addr) (ns : List Int), x = .ref l ∧ SqL K H1 l (ns.map V.int) ∧ ns.length ≤ 4000 ∧ Q (.int (icount ns : Nat)) H1
theorem pe_lenI {X : Cx} {a : Expr} {ta : TE} {p p2 q pos : Pos} (hc : X.calm = true) (hg : Gl X "len") (hm : X.mg "len" = none) (hg2 : Gl X "set") (hm2 : X.mg "set" = none) (ha : PE X a ta)
    (na : starEach [a] X.env = (false, eval a X.env) :: starEach [] X.env) : PE X (.Call (.Name "len" p) [.Call (.Name "set" p2) [a] [] q] [] pos) (tLenI X.K ta) := by
  constructor
  intro pins s σ H Q I h
  refine PyProof.Rows.Call_ (ld_blt I hg hm boot_len (PyProof.Rows.callWith_builtin1 (PyProof.Rows.args_cons ?_ rfl) rfl rfl))
  refine PyProof.Rows.Call_ (ld_blt I hg2 hm2 PyProof.Rows.boot_set ?_)
  refine PyProof.Rows.callWith_type1 (PyProof.Rows.args_cons (thn (ha.run pins s σ H _ I h) ?_) na) na rfl
  rintro v s1 ⟨x, H1, I1, r1, q1⟩
  refine PyProof.Rows.args_nil ?_
  obtain ⟨l, ns, rfl, hq, hl, q1⟩ := q1
  cases r1
  obtain ⟨its, r, pl, hz⟩ := I1.list hq
  have hln : its.toArray.size = ns.length := by rw [List.size_toArray, ← r.length, List.length_map]
  refine PySem.call_set_list (I1.ok.hd hc) pl.isList (by simpa using RZ.intsAre_vals r) (by rw [hln]; unfold scanBound; omega) ?_
  intro h' tk hS hk
  refine PyProof.Rows.args_nil ?_
  rw [hln, PySem.W.oss_met] at hS
  obtain ⟨o, es, ep, t, ho, hex, hd, _, _, _, hf, hn⟩ := hS
  have I2 : Inv X pins σ H1 { s1 with heap := h', toks := tk } := I1.kept fun b o e => hk b o (Heap.lt_size e) e
  have hle : (PySem.W.ossOf ns).length ≤ ns.length := PySem.W.oss_len ns
  exact call_len_set ho hex hd hf (by rw [hn]; omega) ⟨.int (icount ns : Nat), H1, I2.tok _, ⟨_, by rw [hn, oss_icount]⟩, q1⟩
theorem q_lensi {X : Cx} {E : EX} {C : Nat → List R → Rs R} {a : Expr} {xa : Ex} {p p2 q pos : Pos} (hc : X.calm = true) (hg : Gl X "len") (hm : X.mg "len" = none) (hg2 : Gl X "set") (hm2 : X.mg "set" = none) (ha : PE X a (tOf X.K E (ev C xa)))
    (hs : starEach [a] X.env = (false, eval a X.env) :: starEach [] X.env) : PE X (.Call (.Name "len" p) [.Call (.Name "set" p2) [a] [] q] [] pos) (tOf X.K E (ev C (.lensi xa))) := by
  refine pe_of (pe_lenI hc hg hm hg2 hm2 ha hs) fun σ H Q h => ?_
  obtain ⟨ρ, F, R, h⟩ := h
  rw [ev] at h
  refine ⟨ρ, F, R, h.bind fun x hx v F1 H1 g1 d1 => ?_⟩
  have hx : Ans X.K E (match x.lst? with
    | some xs => match ints? xs with
      | some ks => if ks.length < 64 then .ok (.d (.int (icount ks : Nat))) else .bad
      | none => .bad
    | none => .bad) F1 H1 Q := hx.grow g1
  cases e1 : x.lst? with
  | none => rw [e1] at hx; exact hx.elim
  | some xs =>
    simp only [e1] at hx
    cases e2 : ints? xs with
    | none => rw [e2] at hx; exact hx.elim
    | some ks =>
      simp only [e2] at hx
      split at hx
      · rename_i hz
        obtain ⟨l, vs, rfl, q, t⟩ := d1.lst g1.sub e1
        rw [ints_of e2] at t
        rw [dn_ints t] at q
        exact ⟨l, ks, rfl, .inl (.inl q), by omega, hx _ F1 H1 (Grow.refl g1.sub) (.int _)⟩
      · exact hx.elim
end PP

set_option Elab.async false
set_option linter.all false
set_option autoImplicit false
set_option maxRecDepth 100000
set_option maxHeartbeats 1000000
namespace PP
open PySem L2
/-! ### x[::-1] -/
section
open PyProof.Rows PySem.SeqAt
variable {prog : Program} {w : World} {A : Around} {E : Value → Shared → Prop} {s : Shared}
theorem applied_rev {sl : Addr} {vs : Value} {n : Nat} {Q : Int × Int × Nat → Shared → Prop} (hs : s.heap.IsSliceOf sl .none .none vs) (p : IsPart vs (some (-1)))
    (h : Q ((n : Int) - 1, -1, n) s) : wpAny (model prog w) A (Builtin.Slice.sliceApplied (.ref sl) (pure (n : Int))) Q E s := by
  obtain ⟨os, hos, hcs, hds⟩ := id hs
  unfold Builtin.Slice.sliceApplied Builtin.Slice.sliceFields
  refine wpAny_bind (wpAny_bind (wpAny_field hos hds (x := .none) rfl (wpAny_bind (wpAny_field hos hds (x := .none) rfl (wpAny_bind (wpAny_field hos hds (x := vs) rfl (wpAny_pure ?_)))))))
  refine wpAny_bind (HT.slicePart_ p ?_)
  show wpAny _ _ (if ((-1 : Int) == 0) = true then _ else _) _ _ s
  rw [if_neg (by decide)]
  refine wpAny_bind (HT.slicePart_ .none (wpAny_bind (HT.slicePart_ .none (wpAny_bind (wpAny_pure ?_)))))
  show wpAny _ _ (pure ((n : Int) - 1, (-1 : Int), Builtin.Slice.slicePlaces ((n : Int) - 1) (-1) (-1))) _ _ s
  have e : Builtin.Slice.slicePlaces ((n : Int) - 1) (-1) (-1) = n := by
    unfold Builtin.Slice.slicePlaces
    rw [if_neg (by decide)]
    by_cases hn : n = 0
    · subst hn; rfl
    · rw [if_pos (by omega), show -(-1 : Int) = 1 by decide, Int.ediv_one]; omega
  rw [e]
  exact wpAny_pure h
theorem fm_congr {α β : Type} {f g : α → Option β} : ∀ {l : List α}, (∀ x ∈ l, f x = g x) → l.filterMap f = l.filterMap g
  | [], _ => rfl
  | a :: l, h => by
    rw [List.filterMap_cons, List.filterMap_cons, h a (List.mem_cons_self ..), fm_congr fun x hx => h x (List.mem_cons_of_mem _ hx)]
theorem pick_rev (xs : Array Value) : ((List.range xs.size).filterMap fun (m : Nat) => xs[((xs.size : Int) - 1 + (m : Int) * (-1)).toNat]?).toArray = xs.toList.reverse.toArray := by
  have e : (List.range xs.size).filterMap (fun (m : Nat) => xs[((xs.size : Int) - 1 + (m : Int) * (-1)).toNat]?) = ((List.range xs.size).map (fun k => xs.size - 1 - k)).filterMap (xs[·]?) := by
    rw [List.filterMap_map]
    refine fm_congr fun m hm => ?_
    have := List.mem_range.mp hm
    have q : ((xs.size : Int) - 1 + (m : Int) * (-1)).toNat = xs.size - 1 - m := by omega
    rw [q]; rfl
  rw [e, PySem.W.krv_range, List.filterMap_reverse, PySem.W.krv_all]
theorem getItem_tup_rev {t sl : Addr} {items : Array Value} {vs : Value} {Q : Value → Shared → Prop} (ht : IsTup s.heap t items) (hs : s.heap.IsSliceOf sl .none .none vs) (p : IsPart vs (some (-1)))
    (h : Q (.ref s.heap.objs.size) { s with heap := s.heap.push { cls := .type "tuple", data := .seq items.toList.reverse.toArray } })
    (hsz : items.size ≤ sizeLine) : wpAny (model prog w) A (getItem (.ref t) (.ref sl)) Q E s := by
  have hfit : sizeOk (.seq items.toList.reverse.toArray) := by
    show items.toList.reverse.toArray.size ≤ sizeLine
    rw [List.size_toArray, List.length_reverse, Array.length_toList]; exact hsz
  obtain ⟨os, hos, hcs, hds⟩ := id hs
  have hTs : s.TypeIs (.ref sl) "slice" := ⟨os, hos, hcs⟩
  unfold getItem
  try with_reducible refine wpAny_holding ?_
  first | refine wpAny_bind (wpAny_pure ?_) | skip
  refine wpAny_bind (wpAny_sequenceKey ht.typeIs (by decide) ?_)
  refine wpAny_bind (wpAny_callSpecial?_slot (name := Str.ofString "__getitem__") ht.typeIs PyProof.Rows.slot_tuple_getitem (wpAny_call_entry PyProof.Rows.slot_tuple_getitem ht.typeIs PyProof.Rows.entry_tuple_getitem ?_ (PyProof.Rows.args_tuple_getitem _ _)))
  show wpAny _ _ (Builtin.Tuple.tupleItemsOf (.ref t) >>= _) _ _ s
  refine wpAny_bind (PyProof.Rows.tupleItemsOf_ ht (wpAny_bind (wpAny_typeOf hTs ?_)))
  rw [if_pos (by decide)]
  refine wpAny_bind (applied_rev hs p ?_)
  show wpAny _ _ (if (((items.size : Int) - 1 == 0) && ((-1 : Int) == 1) && (items.size == items.size)) = true then _ else _) _ _ s
  rw [if_neg (by simp), pick_rev]
  first
    | exact wpAny_bind (m := Builtin.Tuple.tupleExact _) (wpAny_newObj_type (wpAny_pure ⟨_, rfl, wpAny_pure h⟩) hfit)
    | exact wpAny_bind (m := Builtin.Tuple.tupleExact _) (wpAny_newObj_type (wpAny_bind (wpAny_pure (wpAny_pure ⟨_, rfl, wpAny_pure h⟩))) hfit)
    | exact wpAny_bind (wpAny_bind (m := Builtin.Tuple.tupleExact _) (wpAny_newObj_type (wpAny_pure (wpAny_pure ⟨_, rfl, wpAny_pure h⟩)) hfit))
    | exact wpAny_bind (wpAny_bind (m := Builtin.Tuple.tupleExact _) (wpAny_newObj_type (wpAny_pure ⟨_, rfl, wpAny_pure h⟩) hfit))
end
def tRev (K : PySem.W.Frag) (te : TE) : TE := fun σ H Q => te σ H fun x H1 => ∃ a xs, x = .ref a ∧ ((SqL K H1 a xs ∧ ∀ p, H1 p = none → Q (.ref p) (upd H1 p (.lst xs.reverse))) ∨ (SqT K H1 a xs ∧ ∀ p, H1 p = none → Q (.ref p) (upd H1 p (.tup xs.reverse))))
theorem pe_rev {X : Cx} {e : Expr} {te : TE} {k : Nat} {p1 p2 p3 pos : Pos} (he : PE X e te) : PE X (.Subscript e (.Slice none none (some (.UnaryOp .USub (.Constant (.int 1) k p1) p2)) p3) pos) (tRev X.K te) := by
  constructor
  intro pins s σ H Q I h
  refine PyProof.Rows.Subscript_ (thn (he.run pins s σ H _ I h) ?_)
  rintro v s1 ⟨x, H1, I1, r1, a, xs, ex, q1⟩
  subst ex
  cases r1
  have hst : PO X (some (.UnaryOp .USub (.Constant (.int 1) k p1) p2)) (tPart (tUn (rU fun i => .int (-i)) (tC (.int 1)))) := po_some (pe_un un_neg pe_int)
  refine wpAny_Slice (thn (po_none.run pins s1 σ H1 (fun o H2 => o = none ∧ H2 = H1) I1 ⟨rfl, rfl⟩) ?_)
  rintro vl s2 ⟨l, H2, I2, pl, el, e2⟩
  subst el e2
  refine thn (po_none.run pins s2 σ H2 (fun o H3 => o = none ∧ H3 = H2) I2 ⟨rfl, rfl⟩) ?_
  rintro vu s3 ⟨u, H3, I3, pu, eu, e3⟩
  subst eu e3
  refine thn (hst.run pins s3 σ H3 (fun o H4 => o = some (-1) ∧ H4 = H3) I3 ⟨1, rfl, -1, rfl, rfl, rfl⟩) ?_
  rintro vs s4 ⟨o, H4, I4, ps, eo, e4⟩
  subst eo e4
  have I5 : Inv X pins σ H4 { s4 with heap := s4.heap.push { cls := .type "slice", data := .fields #[vl, vu, vs] } } := I4.kept (t' := s4.toks) fun b ob q => Heap.get?_push_of_some _ q
  show wpAny (model X.prog X.w) X.A (PyProof.Rows.subscriptTail e (.Slice none none (some (.UnaryOp .USub (.Constant (.int 1) k p1) p2)) p3) (.ref a) (.ref s4.heap.objs.size)) (EP X pins σ Q) X.xe { s4 with heap := s4.heap.push { cls := .type "slice", data := .fields #[vl, vu, vs] } }
  rcases q1 with ⟨hx, q⟩ | ⟨hx, q⟩
  · obtain ⟨its, r, ht, hz⟩ := I5.list hx
    have hlen := r.length
    refine PyProof.Rows.tail_any (ops := [.ref a, .ref s4.heap.objs.size]) ht.isList.typeIs (PySem.slot_list_getitem.lookup) ?_ (by with_unfolding_all rfl)
    refine wpAny_getItem_list_slice ht.isList (Heap.IsSliceOf.new _ vl vu vs) pl pu ps (by decide) ?_ (by rw [List.size_toArray]; omega)
    rw [PySem.W.krv_pick]
    refine ⟨.ref _, _, I5.laid (t' := s4.toks) (o := .lst xs.reverse) (fun b ob q => Heap.get?_push_of_some _ q) (Nat.le_refl _) ?_, rfl, q _ (I5.hok.fresh (Nat.le_refl _))⟩
    exact ⟨by rw [List.length_reverse]; exact hz, _, 0, r.reverse, Heap.get?_push_size _ rfl⟩
  · obtain ⟨its, r, ht, hz⟩ := I5.tuple hx
    have hlen := r.length
    have el : vl = .none := by cases pl; rfl
    have eu : vu = .none := by cases pu; rfl
    subst el eu
    refine PyProof.Rows.tail_any (ops := [.ref a, .ref s4.heap.objs.size]) ht.typeIs PyProof.Rows.slot_tuple_getitem.lookup ?_ (by with_unfolding_all rfl)
    refine getItem_tup_rev ht (Heap.IsSliceOf.new _ .none .none vs) ps ?_ (by rw [List.size_toArray]; omega)
    refine ⟨.ref _, _, I5.laid (t' := s4.toks) (o := .tup xs.reverse) (fun b ob q => Heap.get?_push_of_some _ q) (Nat.le_refl _) ?_, rfl, q _ (I5.hok.fresh (Nat.le_refl _))⟩
    exact ⟨by rw [List.length_reverse]; exact hz, _, r.reverse, PyProof.Rows.IsTup.new _ _⟩
theorem q_rev {X : Cx} {E : EX} {C : Nat → List R → Rs R} {a : Expr} {xa : Ex} {k : Nat} {p1 p2 p3 pos : Pos} (ha : PE X a (tOf X.K E (ev C xa))) :
    PE X (.Subscript a (.Slice none none (some (.UnaryOp .USub (.Constant (.int 1) k p1) p2)) p3) pos) (tOf X.K E (ev C (.rev xa))) := by
  refine pe_of (pe_rev ha) fun σ H Q h => ?_
  obtain ⟨ρ, F, R, h⟩ := h
  rw [ev] at h
  refine ⟨ρ, F, R, h.bind fun x hx v F1 H1 g1 d1 => ?_⟩
  have hx := hx.grow g1
  unfold revR at hx
  split at hx
  · rename_i xs
    cases d1 with
    | tup r t =>
      refine ⟨_, _, rfl, .inr ⟨same_t g1.sub r, fun p hp => ?_⟩⟩
      exact hx (.ref p) _ _ (Grow.new g1.sub hp) (.tup (.inl (.inl upd_same)) (t.reverse.mono (same_new (g1.sub.free hp))))
  · split at hx
    · rename_i xs e
      obtain ⟨l, vs, rfl, q, t⟩ := d1.lst g1.sub e
      exact ⟨l, vs, rfl, .inl ⟨.inl (.inl q), fun p hp => Ans.newL hx g1.sub hp t.reverse⟩⟩
    · exact hx.elim
end PP

set_option Elab.async false
set_option linter.all false
set_option autoImplicit false
set_option maxRecDepth 100000
set_option maxHeartbeats 1000000
namespace PP
open PySem L2
/-! ### constant dicts with text keys -/
section
variable {X : Cx} {E : EX} {C : Nat → List R → Rs R} {b : Expr} {xb : Ex} {x : Str} {d : Addr} {p pos : Pos} {kvs : List (Str × D)}
def DctK (K : PySem.W.Frag) (w : World) (d : Addr) (kvs : List (Str × D)) : Prop :=
  ∃ es n, K.lookup d = some ⟨.type "dict", none, .dict es n, #[]⟩ ∧ PySem.W.KeysLit w.params es.toList ∧ (d == sysModules) = false ∧ (es.size = kvs.length ∧ ∀ (i : Nat) x dv, kvs[i]? = some (x, dv) → ∃ (en : DictEntry) (t : Tok), es[i]? = some en ∧ en.key = Value.str x t) ∧ ∀ z, ∃ r, PySem.W.nsIn K d z = some r ∧ r.isSome = (kvs.lookup z).isSome ∧ ∀ dv, kvs.lookup z = some dv → ∃ u v, r = some u ∧ RelV v u ∧ ∀ F, Dn K F v dv
theorem q_dget (hn : PE X (.Name x p) (tC (.ref d))) (hk : DctK X.K X.w d kvs) (hb : PE X b (tOf X.K E (ev C xb))) (hs : PlainIx b) : PE X (.Subscript (.Name x p) b pos) (tOf X.K E (ev C (.dget kvs xb))) := by
  refine pe_of (pe_ix ix_kdict hn hb hs) fun σ H Q h => ?_
  obtain ⟨ρ, F, R, h⟩ := h
  rw [ev] at h
  refine ⟨ρ, F, R, h.bind fun y hy v F1 H1 g1 d1 => ?_⟩
  have hy := hy.grow g1
  cases y with
  | d y =>
    cases y with
    | str z =>
      have hy : Ans X.K E (match kvs.lookup z with
        | some d => .ok (.d d)
        | none => .bad) F1 H1 Q := hy
      cases e : kvs.lookup z with
      | none => rw [e] at hy; exact hy.elim
      | some dv =>
        rw [e] at hy
        cases d1 with
        | str _ hz =>
          obtain ⟨es, n, h1, h2, _, _, h3⟩ := hk
          obtain ⟨r, r1, _, r3⟩ := h3 z
          obtain ⟨u, v, rfl, rv, dn⟩ := r3 dv e
          exact ⟨d, z, v, rfl, rfl, ⟨es, n, u, h1, h2, r1, rv⟩, hy.val g1.sub (dn F1)⟩
    | _ => exact hy.elim
  | _ => exact hy.elim
/-! ### {..}[k], the keys written texts -/
theorem lookup_zip {α : Type} : ∀ {ks : List Str} {vs : List α} {z : Str} {v : α}, (ks.zip vs).lookup z = some v → ∃ i : Nat, ks[i]? = some z ∧ vs[i]? = some v ∧ ∀ j, j < i → ks[j]? ≠ some z
  | [], _, _, _, e => by cases e
  | _ :: _, [], _, _, e => by cases e
  | k :: ks, w :: vs, z, v, e => by
    rw [List.zip_cons_cons, List.lookup_cons] at e
    by_cases q : z == k
    · rw [q] at e
      cases e
      exact ⟨0, by rw [beq_iff_eq.mp q]; rfl, rfl, fun j hj => absurd hj (Nat.not_lt_zero j)⟩
    · rw [Bool.eq_false_iff.mpr q] at e
      obtain ⟨i, h1, h2, h3⟩ := lookup_zip e
      refine ⟨i + 1, by simpa using h1, by simpa using h2, fun j hj => ?_⟩
      cases j with
      | zero =>
        intro e
        simp at e
        exact q (beq_iff_eq.mpr e.symm)
      | succ j => simpa using h3 j (by omega)
theorem merge_nodup : ∀ (more acc : List (Key × V)), (more.map (·.1)).Nodup → (∀ kv ∈ more, ∀ a ∈ acc, ¬ a.1 = kv.1) → mergeK acc more = acc ++ more
  | [], acc, _, _ => by simp [mergeK]
  | kv :: more, acc, nd, h => by
    rw [List.map_cons, List.nodup_cons] at nd
    have e : putK acc kv.1 kv.2 = acc ++ [kv] := by
      unfold putK
      rw [if_neg]
      rw [List.any_eq_true]
      rintro ⟨a, ha, q⟩
      exact h kv (List.mem_cons_self ..) a ha (of_decide_eq_true q)
    show mergeK (putK acc kv.1 kv.2) more = _
    rw [e, merge_nodup more (acc ++ [kv]) nd.2 (fun x hx a ha => ?_)]
    · simp
    · rcases List.mem_append.mp ha with q | q
      · exact h x (List.mem_cons_of_mem _ hx) a q
      · simp at q
        subst q
        exact fun z => nd.1 (by rw [z]; exact List.mem_map.mpr ⟨x, hx, rfl⟩)
theorem valV_zip : ∀ {ks : List Str} {vs : List V} {i : Nat} {z : Str} {v : V}, ks[i]? = some z → vs[i]? = some v → (∀ j, j < i → ks[j]? ≠ some z) → valV ((ks.map Sum.inr : List Key).zip vs) (.inr z) = some v
  | [], _, _, _, _, e, _, _ => by simp at e
  | _ :: _, [], _, _, _, _, e, _ => by simp at e
  | k :: ks, w :: vs, 0, z, v, e1, e2, _ => by
    simp at e1 e2
    subst e1; subst e2
    rw [List.map_cons, List.zip_cons_cons]
    exact valV_pos rfl
  | k :: ks, w :: vs, i + 1, z, v, e1, e2, h => by
    have hne : ¬ k = z := fun e => h 0 (by omega) (by rw [e]; rfl)
    rw [List.map_cons, List.zip_cons_cons]
    rw [valV_neg (fun e => hne (by cases e; rfl))]
    exact valV_zip (i := i) (by simpa using e1) (by simpa using e2) (fun j hj => by have := h (j + 1) (by omega); simpa using this)
/-- pairs of written texts and values -/
def PairsOk (X : Cx) (E : EX) (C : Nat → List R → Rs R) (pos : Pos) (ks : List Str) (xs : Exs) (keys : List (Option Expr)) (values : List Expr) : Prop :=
  ∃ trs, PPs X pos keys values trs ∧ ∀ σ H Q, tOfA X.K E (evs C xs) σ H (fun vs H' => Q ((ks.map V.str).zip vs) H') → tPairs trs σ H Q
theorem pairs_nil {pos : Pos} : PairsOk X E C pos [] .nil [] [] := by
  refine ⟨[], pps_nil, fun σ H Q h => ?_⟩
  obtain ⟨ρ, F, R, h⟩ := h
  rw [evs] at h
  exact h [] F H (Grow.refl R.sub) trivial
theorem pairs_cons {pos kp : Pos} {k : Str} {kk : Nat} {v : Expr} {xv : Ex} {ks : List Str} {xs : Exs} {keys : List (Option Expr)} {values : List Expr} (hv : PE X v (tOf X.K E (ev C xv))) (hr : PairsOk X E C pos ks xs keys values) :
    PairsOk X E C pos (k :: ks) (.cons xv xs) (some (.Constant (.str k) kk kp) :: keys) (v :: values) := by
  obtain ⟨trs, h1, h2⟩ := hr
  refine ⟨_, pps_cons pe_str hv h1, fun σ H Q h => ?_⟩
  obtain ⟨ρ, F, R, h⟩ := h
  rw [evs] at h
  show tOf X.K E (ev C xv) σ H _
  refine ⟨ρ, F, R, Ans.bindA h fun x hx v F1 H1 g1 d1 => ?_⟩
  refine h2 σ H1 _ ⟨ρ, F1, R.grow g1, ?_⟩
  cases q : evs C xs ρ with
  | bad => rw [q] at hx; exact hx
  | err c => rw [q] at hx; exact fun F' H' g => hx F' H' (g1.trans g)
  | ok rs => rw [q] at hx; exact fun vs F2 H2 g2 d2 => hx (v :: vs) F2 H2 (g1.trans g2) ⟨d1.grow g2, d2.back g1.hp⟩
theorem zip_fst {α β : Type} : ∀ (l : List α) (r : List β), (l.zip r).map (·.1) = l.take r.length
  | [], _ => by simp
  | _ :: _, [] => by simp
  | a :: l, b :: r => by
    rw [List.zip_cons_cons, List.map_cons, zip_fst l r]; rfl
theorem zip_kV : ∀ (ks : List Str) (vs : List V), (ks.map V.str).zip vs = ((ks.map Sum.inr : List Key).zip vs).map (fun kv => (kV kv.1, kv.2))
  | [], _ => rfl
  | _ :: _, [] => rfl
  | k :: ks, v :: vs => by
    rw [List.map_cons, List.zip_cons_cons, zip_kV ks vs, List.map_cons, List.zip_cons_cons]; rfl
theorem q_dsel {ks : List Str} {xs : Exs} {keys : List (Option Expr)} {values : List Expr} {dp : Pos} (hu : X.A.units + 1 < cLine) (hp : PairsOk X E C dp ks xs keys values) (hall : keys.all (·.isSome) = true) (hl : keys.length = values.length) (h0 : keys ≠ []) (h15 : keys.length ≤ 15)
    (nd : ks.Nodup) (hk15 : ks.length ≤ 15) (hb : PE X b (tOf X.K E (ev C xb))) (hs : NoSl b) : PE X (.Subscript (.Dict keys values dp) b pos) (tOf X.K E (ev C (.dsel ks xs xb))) := by
  obtain ⟨trs, pp, hq⟩ := hp
  refine pe_of (pe_dget hu (pe_disp pp hall hl h0 h15) hb hs) fun σ H Q h => ?_
  obtain ⟨ρ, F, R, h⟩ := h
  rw [ev] at h
  intro p hp
  have g0 : Grow F H F (upd H p (.dK [])) := Grow.own R.sub hp
  refine hq σ _ _ ⟨ρ, F, R.grow g0, ?_⟩
  cases q : evs C xs ρ with
  | bad => rw [q] at h; exact h.elim
  | err c => rw [q] at h; exact fun F' H' g => h F' H' (g0.trans g)
  | ok rs =>
    rw [q] at h
    intro vs F1 H1 g1 d1
    obtain ⟨ds, e, hk⟩ := Ans.frzAll h
    obtain ⟨F2, g2, s2, t2⟩ := frzN g1 (Same.refl F1) d1 e
    have hF2 : F2 p = none := (g2.old p _ upd_same).trans (R.sub.free hp)
    have hH1 : H1 p = some (.dK []) := g2.hp _ _ upd_same
    refine ⟨hH1, (ks.map Sum.inr : List Key).zip vs, zip_kV ks vs, ?_, ?_⟩
    · rw [List.length_zip, List.length_map]; omega
    · have em : mergeK [] ((ks.map Sum.inr : List Key).zip vs) = (ks.map Sum.inr : List Key).zip vs := by
        have hnd : (((ks.map Sum.inr : List Key).zip vs).map (·.1)).Nodup := by
          have hm : ((ks.map Sum.inr : List Key).zip vs).map (·.1) = (ks.map Sum.inr : List Key).take vs.length := by
            exact zip_fst _ _
          rw [hm]
          refine List.Pairwise.sublist (List.take_sublist _ _) ?_
          exact List.pairwise_map.mpr (nd.imp fun a e => a (by cases e; rfl))
        rw [merge_nodup _ [] hnd (fun _ _ a ha => by cases ha), List.nil_append]
      rw [em]
      have g3 : Grow F H F2 (upd H1 p (.dK ((ks.map Sum.inr : List Key).zip vs))) := by
        refine ⟨g2.fr, fun a o ea => ?_, fun a o ea => ?_, (g0.trans g2).old⟩
        · have hne : a ≠ p := fun z => by rw [z, hp] at ea; cases ea
          rw [upd_ne hne]
          exact (g0.trans g2).hp a o ea
        · have hne : a ≠ p := fun z => by rw [z, hF2] at ea; cases ea
          rw [upd_ne hne]
          exact g2.sub a o ea
      refine ⟨ρ, F2, R.grow g3, (hk.grow g3).bind fun y hy v F4 H4 g4 d4 => ?_⟩
      have hy := hy.grow g4
      cases y with
      | d y =>
        cases y with
        | str z =>
          have hy : Ans X.K E (match (ks.zip ds).lookup z with
            | some d => .ok (.d d)
            | none => .bad) F4 H4 Q := hy
          cases ez : (ks.zip ds).lookup z with
          | none => rw [ez] at hy; exact hy.elim
          | some dv =>
            rw [ez] at hy
            obtain ⟨i, i1, i2, i3⟩ := lookup_zip ez
            obtain ⟨w, w1, w2⟩ := t2.getD i2
            cases d4 with
            | str _ hz =>
              exact ⟨p, w, rfl, .inl ⟨_, .inr z, .inl (g4.hp _ _ upd_same), rfl, (valV_zip i1 w1 i3).symm⟩, hy.val g4.sub (w2.mono g4.fr)⟩
        | _ => exact hy.elim
      | _ => exact hy.elim
/-! ### for k in D -/
def Itw (ks : List Str) : L2.It := ⟨fun i _ => i < ks.length, fun i H x H' => H' = H ∧ ∃ k, ks[i]? = some k ∧ x = .str k, fun i _ => ks.length ≤ i⟩
theorem turn_w {P : Program} {w : World} {K : PySem.W.Frag} {tg : Expr} {d : Addr} {es : Array DictEntry} {ep : Nat} {ks : List Str} (it : Addr) (hl : K.lookup d = some ⟨.type "dict", none, .dict es ep, #[]⟩) (hsz : es.size = ks.length)
    (hk : ∀ (i : Nat) k, ks[i]? = some k → ∃ en t, es[i]? = some en ∧ en.key = Value.str k t) : Turn P w K tg (Itw ks) [it] it (fun i h => h.IsKeyIter it d i ks.length ep) where
  mem := by simp
  obj := by
    intro i h st b hb
    have e : b = it := by simpa using hb
    subst e
    obtain ⟨oi, e, c, dd⟩ := st
    exact ⟨oi, e, fun v z => by rw [dd] at z; cases z⟩
  keep := fun i h h' st k => st.at fun oi e => k it (by simp) oi e
  item := by
    intro X hP hw hK hc i pins s σ H E I hf st hi
    subst hP hw hK
    have hi : i < ks.length := hi
    obtain ⟨f0, f1, f2, f3, f4, f5⟩ := hf it (by simp)
    obtain ⟨en, t, e1, e2⟩ := hk i ks[i] (List.getElem?_eq_getElem hi)
    refine next_key_item st (I.kIn _ _ hl) rfl hsz e1 ?_
    intro h' st' sb
    have I1 : Inv X pins σ H { s with heap := h' } := I.turned (t' := s.toks) (fun b ob hb e => (sb.2 b hb).trans e) f0 f1 f3 f4 f5
    obtain ⟨oi, e, c, dd⟩ := id st'
    exact ⟨en.key, rfl, go_of (s := { s with heap := h' }) e c dd (by decide) ⟨.str ks[i], H, I1, ⟨t, e2⟩, ⟨rfl, ks[i], List.getElem?_eq_getElem hi, rfl⟩, st', fun b hb => (hf b hb).1⟩⟩
  done := by
    intro X hP hw hK hc i pins s σ H E I hf st hi
    subst hP hw hK
    obtain ⟨f0, f1, f2, f3, f4, f5⟩ := hf it (by simp)
    exact next_key_end (I.ok.hd hc) st (I.kIn _ _ hl) rfl hsz hi fun h' eb => ⟨rfl, I.turned (t' := s.toks) (fun b ob hb e => eb b ob hb e) f0 f1 f3 f4 f5⟩
  self := fun A i s Q E st h => wpAny_pyIter_keyiter st h
theorem itd_w {K : PySem.W.Frag} {G : Hp} {kvs : List (Str × D)} (ok : kvs.all (fun p => PyData.strOk p.1) = true) : ItD K G (Itw (kvs.map (·.1))) (kvs.map fun p => PyData.str p.1) := by
  unfold ItD
  rw [List.length_map]
  refine ⟨fun i H hi _ => by show i < (kvs.map (·.1)).length; rw [List.length_map]; exact hi, fun H _ => by show (kvs.map (·.1)).length ≤ _; rw [List.length_map]; exact Nat.le_refl _, fun i H x H' hi hG y => ?_⟩
  obtain ⟨rfl, k, e, rfl⟩ := y
  rw [List.getElem?_map] at e
  cases q : kvs[i]? with
  | none => rw [q] at e; cases e
  | some p =>
    rw [q] at e
    cases e
    refine ⟨.str p.1, by rw [List.getElem?_map, q]; rfl, fun F s1 s2 => ⟨F, Grow.refl s2, .str _ ?_⟩⟩
    exact List.all_eq_true.mp ok p (List.mem_of_getElem? q)
theorem q_dks {tg : Expr} (hn : PE X (.Name x p) (tC (.ref d))) (hk : DctK X.K X.w d kvs) (ok : kvs.all (fun p => PyData.strOk p.1) = true) : PI X tg (.Name x p) (tOfI X.K E (evI C (.dks kvs))) := by
  constructor
  intro pins s σ H Q I h
  obtain ⟨ρ, F, R, h⟩ := h
  rw [evI] at h
  obtain ⟨es, n, h1, h2, low, ⟨h4, h5⟩, h3⟩ := hk
  have hq := h (Itw (kvs.map (·.1))) F H (Grow.refl R.sub) (itd_w ok)
  refine thn (hn.run pins s σ H (fun v H' => v = .ref d ∧ H' = H) I ⟨rfl, rfl⟩) ?_
  rintro u s1 ⟨y, H1, I1, rx, ey, eH⟩
  subst ey
  subst eH
  obtain rfl : u = Value.ref d := rx
  refine iter_keys low (I1.kIn _ _ h1) ⟨rfl, rfl, rfl⟩ rfl (pi_one (tk := s1.toks) I1 _ (turn_w _ h1 (by rw [List.length_map]; exact h4) ?_) ⟨_, Heap.get?_push_size _ rfl, rfl, ?_⟩ hq)
  · intro i k e
    rw [List.getElem?_map] at e
    cases q : kvs[i]? with
    | none => rw [q] at e; cases e
    | some p =>
      rw [q] at e
      cases e
      obtain ⟨y, dv⟩ := p
      exact h5 i y dv q
  · rw [List.length_map, ← h4]; rfl
end
end PP

set_option Elab.async false
set_option linter.all false
set_option autoImplicit false
set_option maxRecDepth 100000
set_option maxHeartbeats 1000000
namespace PP
open PySem L2
/-! ### texts: x.upper(), 'z'.find(x) -/
section
variable {X : Cx} {E : EX} {C : Nat → List R → Rs R} {a : Expr} {xa : Ex}
theorem upp_eq {x : Str} (h : (x.cps.all fun c => decide (c < 128)) = true) : Txt.upper x = ⟨x.cps.map up1⟩ := by
  rw [PyProof.Rows.upper_ascii (fun c hc => by
    have := Array.all_eq_true'.mp h c (by simpa using hc)
    exact of_decide_eq_true this)]
  rfl
theorem upp_ok {x : Str} (h : (x.cps.all fun c => decide (c < 128)) = true) : PyData.strOk ⟨x.cps.map up1⟩ = true := by
  unfold PyData.strOk
  rw [Array.all_eq_true'] at h ⊢
  intro c hc
  obtain ⟨d, hd, rfl⟩ := Array.mem_map.mp hc
  have := of_decide_eq_true (h d hd)
  unfold up1
  split <;> exact decide_eq_true (by omega)
theorem q_upp {ap cp : Pos} (hb : attributeBase a "upper" X.env (eval a X.env) = eval a X.env) (hp : (ap.endLine == cp.line) = true) (ha : PE X a (tOf X.K E (ev C xa))) : PE X (.Call (.Attribute a "upper" ap) [] [] cp) (tOf X.K E (ev C (.upp xa))) := by
  refine pe_of (pe_bm0 PySem.F.plainAttrs_str PySem.F.slot_str_upper PySem.F.type_str_upper mt_upper ha hb hp) fun σ H Q h => ?_
  obtain ⟨ρ, F, R, h⟩ := h
  rw [ev] at h
  refine ⟨ρ, F, R, h.bind fun x hx v F1 H1 g1 d1 => ?_⟩
  have hx := hx.grow g1
  unfold uppR at hx
  split at hx
  · split at hx
    · rename_i hz
      obtain ⟨hl, hx⟩ := hx.fit
      cases d1 with
      | str _ _ =>
        refine ⟨rfl, _, rfl, rfl, Nat.le_trans hl (by unfold lim; decide), ?_⟩
        rw [upp_eq hz]
        exact hx.val g1.sub (.str _ (upp_ok hz))
    · exact hx.elim
  · exact hx.elim
theorem q_fnd {z : Str} {k : Nat} {p ap cp : Pos} (hp : (ap.endLine == cp.line) = true) (hs : starEach [a] X.env = (false, eval a X.env) :: starEach [] X.env) (ha : PE X a (tOf X.K E (ev C xa))) : PE X (.Call (.Attribute (.Constant (.str z) k p) "find" ap) [a] [] cp) (tOf X.K E (ev C (.fnd z xa))) := by
  refine pe_of (pe_bm PySem.F.plainAttrs_str PySem.F.slot_str_find PySem.F.type_str_find mt_find pe_str (pa_cons ha pa_nil hs) rfl (by rw [hs]; rfl) hp hs rfl) fun σ H Q h => ?_
  obtain ⟨ρ, F, R, h⟩ := h
  rw [ev] at h
  refine ⟨rfl, ρ, F, R, h.bind fun x hx v F1 H1 g1 d1 => ?_⟩
  have hx := hx.grow g1
  unfold fndR at hx
  split at hx
  · cases d1 with
    | str _ _ => exact ⟨z, _, rfl, rfl, hx.val g1.sub (.int _)⟩
  · exact hx.elim
end
end PP

set_option Elab.async false
set_option linter.all false
set_option autoImplicit false
set_option maxRecDepth 100000
set_option maxHeartbeats 1000000
namespace PP
open PySem L2
/-! ### is this Python text that expression? -/
/-- what the module's names stand for: constants; defs (name, number, parameters) -/
structure Gi where
  csts : List (Str × D)
  dcts : List (Str × List (Str × D))
  fns : List (Str × Nat × Nat)
  xns : List (Str × Nat)
  word : Bool
mutual
def eqD : D → D → Bool
  | .none, .none => true
  | .bool a, .bool b => decide (a = b)
  | .int a, .int b => decide (a = b)
  | .str a, .str b => decide (a = b)
  | .list a, .list b => eqDs a b
  | .tuple a, .tuple b => eqDs a b
  | _, _ => false
def eqDs : List D → List D → Bool
  | [], [] => true
  | a :: as, b :: bs => eqD a b && eqDs as bs
  | _, _ => false
end
mutual
theorem eqD_eq : ∀ {a b : D}, eqD a b = true → a = b
  | .none, b, h => by cases b <;> first | rfl | (simp [eqD] at h)
  | .bool x, b, h => by cases b <;> first | (simp [eqD] at h; done) | (simp [eqD] at h; rw [h])
  | .int x, b, h => by cases b <;> first | (simp [eqD] at h; done) | (simp [eqD] at h; rw [h])
  | .str x, b, h => by cases b <;> first | (simp [eqD] at h; done) | (simp [eqD] at h; rw [h])
  | .list x, b, h => by
    cases b with
    | list y => simp only [eqD] at h; rw [eqDs_eq h]
    | _ => simp [eqD] at h
  | .tuple x, b, h => by
    cases b with
    | tuple y => simp only [eqD] at h; rw [eqDs_eq h]
    | _ => simp [eqD] at h
  | .dict x, b, h => by cases b <;> simp [eqD] at h
theorem eqDs_eq : ∀ {a b : List D}, eqDs a b = true → a = b
  | [], b, h => by cases b <;> first | rfl | (simp [eqDs] at h)
  | x :: xs, b, h => by
    cases b with
    | nil => simp [eqDs] at h
    | cons y ys =>
      simp only [eqDs, Bool.and_eq_true] at h
      rw [eqD_eq h.1, eqDs_eq h.2]
end
def eqKD : List (Str × D) → List (Str × D) → Bool
  | [], [] => true
  | a :: as, b :: bs => decide (a.1 = b.1) && eqD a.2 b.2 && eqKD as bs
  | _, _ => false
theorem eqKD_eq : ∀ {a b : List (Str × D)}, eqKD a b = true → a = b
  | [], b, h => by cases b <;> first | rfl | cases h
  | x :: xs, b, h => by
    cases b with
    | nil => cases h
    | cons y ys =>
      simp only [eqKD, Bool.and_eq_true] at h
      obtain ⟨⟨h1, h2⟩, h3⟩ := h
      have e1 := of_decide_eq_true h1
      have e2 := eqD_eq h2
      rw [eqKD_eq h3]
      cases x; cases y
      simp only at e1 e2
      rw [e1, e2]
/-- a written constant -/
def cstOk : D → Const → Bool
  | .none, .none => true
  | .bool a, .bool b => decide (a = b)
  | .int a, .int b => decide (a = b)
  | .str a, .str b => decide (a = b) && PyData.strOk a
  | _, _ => false
def visB (sc : Scope) (x : Str) : Bool := match sc.names.lookup x with
  | some .local => true
  | some .cell => true
  | some .free => true
  | _ => false
def glB (sc : Scope) (x : Str) : Bool := decide (sc.names.lookup x = some .globalImplicit) && !(x == ("__debug__" : Str)) && decide (x ≠ "__name__")
def nameOk (x : Str) : Bool := !(x == ("__debug__" : Str)) && !(x == ("__classdict__" : Str))
def notStar : Expr → Bool
  | .Starred .. => false
  | _ => true
def notSet : Expr → Bool
  | .Set .. => false
  | _ => true
def notSlice : Expr → Bool
  | .Slice .. => false
  | _ => true
def isComp : Expr → Bool
  | .ListComp .. => true
  | .SetComp .. => true
  | .DictComp .. => true
  | _ => false
def bfName : Bf → Str
  | .len => "len"
  | .int => "int"
  | .tuple => "tuple"
  | .list => "list"
  | .max => "max"
  | .min => "min"
  | .all => "all"
  | .any => "any"
  | .sum => "sum"
  | .str => "str"
  | .sorted => "sorted"
  | .lenset => "len"
  | .sortset => "sorted"
  | .min1 => "min"
def tyName : Ty → Str
  | .int => "int"
  | .bool => "bool"
  | .str => "str"
  | .tuple => "tuple"
  | .list => "list"
  | .none => "NoneType"
def locB (sc : Scope) (x : Str) : Bool := match sc.names.lookup x with
  | some .local => true
  | some .cell => true
  | _ => false
/-- a name as a target in the block of scope sc; fn: whose cells were made here -/
def tgN (N : List Str) (sc : Scope) (fn : Str → Bool) (i : Nat) : Expr → Bool
  | .Name x _ => decide (N[i]? = some x) && locB sc x && (fn x || decide (sc.names.lookup x = some .local))
  | _ => false
def tgNs (N : List Str) (sc : Scope) (fn : Str → Bool) : List Nat → List Expr → Bool
  | [], [] => true
  | i :: is, e :: es => tgN N sc fn i e && tgNs N sc fn is es
  | _, _ => false
def chkT (N : List Str) (sc : Scope) (fn : Str → Bool) : Tg → Expr → Bool
  | .nm i, e => tgN N sc fn i e
  | .tp is, .Tuple es _ _ => tgNs N sc fn is es
  | _, _ => false
def ownOf (N : List Str) (is : List Nat) : List (Str × Nat) := is.map fun i => (N.getD i "", i)
def isNm : Expr → Bool
  | .Name _ _ => true
  | _ => false
def isTx (z : Str) : Expr → Bool
  | .Constant c _ _ => (match c with
    | .str y => decide (z = y)
    | _ => false)
  | _ => false
theorem isTx_ok {z : Str} {e : Expr} (h : isTx z e = true) : ∃ k p, e = .Constant (.str z) k p := by
  unfold isTx at h
  split at h
  · split at h
    · have := of_decide_eq_true h; subst this; exact ⟨_, _, rfl⟩
    · cases h
  · cases h
theorem isNm_ok {e : Expr} (h : isNm e = true) : ∃ x p, e = .Name x p := by
  unfold isNm at h
  split at h
  · exact ⟨_, _, rfl⟩
  · cases h
mutual
def chkE (G : Gi) (N : List Str) : Scope → Ex → Expr → Bool
  | sc, .var i, .Name x _ => decide (N[i]? = some x) && visB sc x && nameOk x
  | _, .cst d, .Constant c _ _ => cstOk d c
  | sc, .cst d, .Name x _ => glB sc x && (match G.csts.lookup x with | some d' => eqD d d' | none => false)
  | sc, .tup es, .Tuple xs _ _ => chkEs G N sc es xs
  | sc, .lst es, .List xs _ => chkEs G N sc es xs
  | sc, .bin o a b, .BinOp l op r _ => decide (opOf o = op) && chkE G N sc a l && chkE G N sc b r
  | sc, .neg a, .UnaryOp .USub l _ => chkE G N sc a l
  | sc, .cmp o a b, .Compare l [op] [r] _ => decide (cmOf o = op) && chkE G N sc a l && chkE G N sc b r && notSet r
  | sc, .chn o p a b c, .Compare l [op, op'] [r, s] _ => decide (cmOf o = op) && decide (cmOf p = op') && chkE G N sc a l && chkE G N sc b r && chkE G N sc c s && notSet s
  | sc, .and a b, .BoolOp .And [l, r] _ => chkE G N sc a l && chkE G N sc b r
  | sc, .and a b, .BoolOp .And (l :: r :: s :: t) p => chkE G N sc a l && chkE G N sc b (.BoolOp .And (r :: s :: t) p)
  | sc, .or a b, .BoolOp .Or [l, r] _ => chkE G N sc a l && chkE G N sc b r
  | sc, .or a b, .BoolOp .Or (l :: r :: s :: t) p => chkE G N sc a l && chkE G N sc b (.BoolOp .Or (r :: s :: t) p)
  | sc, .not a, .UnaryOp .Not l _ => chkE G N sc a l
  | sc, .ite c a b, .IfExp c' l r _ => chkE G N sc c c' && chkE G N sc a l && chkE G N sc b r
  | sc, .idx a b, .Subscript l r _ => chkE G N sc a l && chkE G N sc b r && notSlice r
  | sc, .slc a lo hi, .Subscript l (.Slice lo' hi' none _) _ => chkE G N sc a l && chkO G N sc lo lo' && chkO G N sc hi hi'
  | sc, .call n es, .Call (.Name x _) xs [] _ => glB sc x && decide ((x, n, xs.length) ∈ G.fns) && chkEs G N sc es xs
  | sc, .blt f es, .Call (.Name x _) (y :: ys) [] _ => decide (bfName f = x) && glB sc x && (match f with | .lenset => false | .sortset => false | .str => false | _ => true) && chkEs G N sc es (y :: ys)
  | sc, .isi t a, .Call (.Name x _) [l, .Name y _] [] _ => decide (x = "isinstance") && glB sc x && decide (tyName t = y) && (match t with | .none => false | _ => true) && glB sc y && notStar l && chkE G N sc a l
  | sc, .isi2 t u a, .Call (.Name x _) [l, .Tuple [.Name y _, .Name z _] _ _] [] _ => decide (x = "isinstance") && glB sc x && decide (tyName t = y) && (match t with | .none => false | _ => true) && glB sc y && decide (tyName u = z) && (match u with | .none => false | _ => true) && glB sc z && notStar l && chkE G N sc a l
  | sc, .lc t it e, .ListComp elt [⟨tg, iter, [], k⟩] scope _ => decide (k = 0) && chkI G N sc it tg iter && blkC N sc scope (ownOf N t.own) && chkT N (relS scope sc) (fun x => scope.names.lookup x == some .cell) t tg && chkE G N (relS scope sc) e elt && notSet iter
  | sc, .lcf t it c e, .ListComp elt [⟨tg, iter, [cnd], k⟩] scope _ => decide (k = 0) && chkI G N sc it tg iter && blkC N sc scope (ownOf N t.own) && chkT N (relS scope sc) (fun x => scope.names.lookup x == some .cell) t tg && chkE G N (relS scope sc) c cnd && chkE G N (relS scope sc) e elt && notSet iter
  | sc, .lenset a, .Call (.Name x _) [.Call (.Name y _) [l] [] _] [] _ => decide (x = "len") && decide (y = "set") && glB sc x && glB sc y && notStar l && chkE G N sc a l
  | sc, .rev a, .Subscript l (.Slice none none (some (.UnaryOp .USub (.Constant (.int 1) _ _) _)) _) _ => chkE G N sc a l
  | sc, .dget kvs a, .Subscript (.Name x _) r _ => glB sc x && (match G.dcts.lookup x with | some kvs' => eqKD kvs kvs' | none => false) && chkE G N sc a r && notSlice r
  | sc, .dsel ks es a, .Subscript (.Dict keys values _) r _ => chkDs G N sc ks es keys values && decide (keys ≠ []) && decide (keys.length ≤ 15) && decide ks.Nodup && chkE G N sc a r && notSlice r
  | sc, .lensi a, .Call (.Name x _) [.Call (.Name y _) [l] [] _] [] _ => decide (x = "len") && decide (y = "set") && glB sc x && glB sc y && notStar l && chkE G N sc a l
  | sc, .mget i es, .Subscript (.Name x _) (.Tuple xs _ _) _ => decide (N[i]? = some x) && visB sc x && nameOk x && chkEs G N sc es xs
  | sc, .upp a, .Call (.Attribute l m ap) [] [] cp => decide (m = "upper") && (ap.endLine == cp.line) && isNm l && chkE G N sc a l
  | sc, .fnd z a, .Call (.Attribute l m ap) [b] [] cp => decide (m = "find") && (ap.endLine == cp.line) && isTx z l && notStar b && chkE G N sc a b
  | _, _, _ => false
def chkEs (G : Gi) (N : List Str) : Scope → Exs → List Expr → Bool
  | _, .nil, [] => true
  | sc, .cons x xs, e :: es => chkE G N sc x e && notStar e && chkEs G N sc xs es
  | _, _, _ => false
def chkDs (G : Gi) (N : List Str) : Scope → List Str → Exs → List (Option Expr) → List Expr → Bool
  | _, [], .nil, [], [] => true
  | sc, k :: ks, .cons x xs, some (.Constant (.str k') _ _) :: es, v :: vs => decide (k = k') && chkE G N sc x v && chkDs G N sc ks xs es vs
  | _, _, _, _, _ => false
def chkO (G : Gi) (N : List Str) : Scope → Exs → Option Expr → Bool
  | _, .nil, none => true
  | sc, .cons x .nil, some e => chkE G N sc x e
  | _, _, _ => false
def chkI (G : Gi) (N : List Str) : Scope → It → Expr → Expr → Bool
  | sc, .seq x, _, e => chkE G N sc x e
  | sc, .rng1 x, _, .Call (.Name r _) [a] [] _ => decide (r = "range") && glB sc r && chkE G N sc x a && notStar a
  | sc, .rng2 x y, _, .Call (.Name r _) [a, b] [] _ => decide (r = "range") && glB sc r && chkE G N sc x a && chkE G N sc y b && notStar a && notStar b
  | sc, .enum x, .Tuple _ _ _, .Call (.Name r _) [a] [] _ => decide (r = "enumerate") && glB sc r && chkE G N sc x a && notStar a
  | sc, .zip x y, .Tuple _ _ _, .Call (.Name r _) [a, b] [] _ => decide (r = "zip") && glB sc r && chkE G N sc x a && chkE G N sc y b && notStar a && notStar b
  | sc, .dks kvs, _, .Name x _ => glB sc x && (match G.dcts.lookup x with | some kvs' => eqKD kvs kvs' | none => false) && kvs.all (fun p => PyData.strOk p.1)
  | _, _, _, _ => false
end
end PP

set_option Elab.async false
set_option linter.all false
set_option autoImplicit false
set_option maxRecDepth 100000
set_option maxHeartbeats 4000000
namespace PP
open PySem L2
def bltNames : List Str := ["len", "int", "tuple", "list", "max", "min", "all", "any", "sum", "str", "sorted", "set", "isinstance", "range", "zip", "enumerate", "bool"]
/-- what a context knows -/
structure GOk (X : Cx) (CX : CXT) (Ex0 : XK) (cl : Nat → Value) (C : Nat → List R → Rs R) (G : Gi) : Prop where
  calm : X.calm = true
  nd : X.N.Nodup
  hu : X.A.units + 64 < cLine
  blt : ∀ x, x ∈ bltNames → X.mg x = none
  cst : ∀ x d, G.csts.lookup x = some d → ∃ v u, X.mg x = some u ∧ RelV v u ∧ ∀ F, Dn X.K F v d
  dct : ∀ x kvs, G.dcts.lookup x = some kvs → ∃ d, X.mg x = some (.ref d) ∧ DctK X.K X.w d kvs
  fn : ∀ x n np, (x, n, np) ∈ G.fns → ∃ k f fd ps, FnOk X.prog X.w X.K X.mg X.base CX k f fd ps (spP X.K cl np (C n)) ∧ Room k X.A ∧ X.mg x = some (.ref f) ∧ PySem.W.keepIn X.K (.ref f) = true ∧ Binds X.K fd ps [] ∧ ∀ rs r, C n rs = r → r ≠ .bad → rs.length = np
  pass : Passes CX X Ex0
  p0 : ∀ X' : Cx, X'.prog = X.prog → X'.w = X.w → Passes CX X' L2.E0
section
variable {X : Cx} {CX : CXT} {Ex0 : XK} {cl : Nat → Value} {C : Nat → List R → Rs R} {G : Gi}
theorem GOk.blk (g : GOk X CX Ex0 cl C G) (s : Shared) (H : Hp) (scope : Scope) (cenv : Env) (fp : List Addr) : GOk (X.blk s H scope cenv fp) CX L2.E0 cl C G :=
  ⟨g.calm, g.nd, g.hu, g.blt, g.cst, g.dct, g.fn, g.p0 _ rfl rfl, g.p0⟩
theorem glB_of {sc : Scope} {x : Str} (h : glB sc x = true) : sc.names.lookup x = some .globalImplicit ∧ (x == ("__debug__" : Str)) = false ∧ x ≠ "__name__" := by
  unfold glB at h
  rw [Bool.and_eq_true, Bool.and_eq_true] at h
  exact ⟨of_decide_eq_true h.1.1, by simpa using h.1.2, of_decide_eq_true h.2⟩
theorem visB_of {sc : Scope} {x : Str} (h : visB sc x = true) : Vis sc x := by
  unfold visB at h
  split at h
  · rename_i e; exact .inl e
  · rename_i e; exact .inr (.inl e)
  · rename_i e; exact .inr (.inr e)
  · cases h
theorem locB_of {sc : Scope} {x : Str} (h : locB sc x = true) : Loc sc x := by
  unfold locB at h
  split at h
  · rename_i e; exact .inl e
  · rename_i e; exact .inr e
  · cases h
theorem star_of {e : Expr} (h : notStar e = true) (es : List Expr) (env : Env) : starEach (e :: es) env = (false, eval e env) :: starEach es env := by
  cases e <;> first | rfl | cases h
theorem fold_of {e : Expr} (h : notSet e = true) (env : Env) : ∀ x, foldedSetIterable e env x = pure x := by
  cases e <;> first | (intro x; rfl) | cases h
theorem marks_of {e : Expr} (h : notSet e = true) (op : CmpOp) : behindInMarks op e = false := by
  cases e <;> first | rfl | cases h
theorem plain_of {e : Expr} (h : notSlice e = true) : PlainIx e := by
  cases e <;> first | (intro o i; rfl) | cases h
theorem cst_pe {d : D} {c : Const} {k : Nat} {pos : Pos} {E : EX} (h : cstOk d c = true) : PE X (.Constant c k pos) (tOf X.K E (ev C (.cst d))) := by
  cases d with
  | none =>
    cases c with
    | none => exact q_val pe_non fun _ => .non
    | _ => cases h
  | bool a =>
    cases c with
    | bool b =>
      have e : a = b := of_decide_eq_true h
      subst e
      exact q_val pe_bl fun _ => .bl a
    | _ => cases h
  | int a =>
    cases c with
    | int b =>
      have e : a = b := of_decide_eq_true h
      subst e
      exact q_val pe_int fun _ => .int a
    | _ => cases h
  | str a =>
    cases c with
    | str b =>
      simp only [cstOk, Bool.and_eq_true] at h
      have e : a = b := of_decide_eq_true h.1
      subst e
      exact q_val pe_str fun _ => .str a h.2
    | _ => cases h
  | _ => cases c <;> cases h
theorem pg_tgN {fn : Str → Bool} {i : Nat} {e : Expr} (nd : X.N.Nodup) (hf : ∀ x, fn x = true → X.fn x = true) (h : tgN X.N X.env.scope fn i e = true) : PG X e (gName i) := by
  cases e with
  | Name x pos =>
    simp only [tgN, Bool.and_eq_true, Bool.or_eq_true] at h
    refine pg_name nd (of_decide_eq_true h.1.1) (locB_of h.1.2) ?_
    rcases h.2 with q | q
    · exact .inl (hf x q)
    · exact .inr (of_decide_eq_true q)
  | _ => cases h
theorem tgN_name {N : List Str} {sc : Scope} {fn : Str → Bool} {i : Nat} {e : Expr} (h : tgN N sc fn i e = true) : ∃ x p, e = .Name x p := by
  cases e with
  | Name x pos => exact ⟨x, pos, rfl⟩
  | _ => cases h
theorem pgs_tgNs {fn : Str → Bool} (nd : X.N.Nodup) (hf : ∀ x, fn x = true → X.fn x = true) : ∀ {is : List Nat} {es : List Expr}, tgNs X.N X.env.scope fn is es = true → PGs X es (gAll is) ∧ (assignEach es X.env).length = is.length ∧ (assignEach es X.env).findIdx? (·.1) = none
  | [], [], _ => ⟨pgs_names_nil, rfl, rfl⟩
  | i :: is, e :: es, h => by
    simp only [tgNs, Bool.and_eq_true] at h
    obtain ⟨h1, h2, h3⟩ := pgs_tgNs nd hf h.2
    obtain ⟨x, p, rfl⟩ := tgN_name h.1
    refine ⟨pgs_names_cons (pg_tgN nd hf h.1) h1 rfl, ?_, ?_⟩
    · show (assignEach es X.env).length + 1 = is.length + 1
      rw [h2]
    · show List.findIdx? (·.1) ((false, assign (.Name x p) X.env) :: assignEach es X.env) = none
      rw [List.findIdx?_cons]
      simp [h3]
  | [], _ :: _, h => by cases h
  | _ :: _, [], h => by cases h
theorem pg_chkT {fn : Str → Bool} {t : Tg} {e : Expr} (hc : X.calm = true) (nd : X.N.Nodup) (hf : ∀ x, fn x = true → X.fn x = true) (h : chkT X.N X.env.scope fn t e = true) : PG X e (gNames X.K t) := by
  cases t with
  | nm i => exact pg_tgN nd hf h
  | tp is =>
    cases e with
    | Tuple es k pos =>
      obtain ⟨h1, h2, h3⟩ := pgs_tgNs nd hf h
      exact pg_names hc h1 h2 h3
    | _ => cases h
theorem ownOf_own (N : List Str) (is : List Nat) : (ownOf N is).map (·.2) = is := by
  unfold ownOf
  rw [List.map_map]
  exact List.map_id' is
theorem ty_boot (t : Ty) (h : (match t with | .none => false | _ => true) = true) : bootBuiltins (tyName t) = some (.type (tyN t)) ∧ tyName t ∈ bltNames := by
  cases t with
  | int => exact ⟨by decide +kernel, by decide +kernel⟩
  | bool => exact ⟨by decide +kernel, by decide +kernel⟩
  | str => exact ⟨by decide +kernel, by decide +kernel⟩
  | tuple => exact ⟨by decide +kernel, by decide +kernel⟩
  | list => exact ⟨by decide +kernel, by decide +kernel⟩
  | none => cases h
end
/-- the built-in named by f, called -/
theorem q_blt {X : Cx} {CX : CXT} {Ex0 : XK} {cl : Nat → Value} {C : Nat → List R → Rs R} {G : Gi} (g : GOk X CX Ex0 cl C G) {E : EX} {f : Bf} {xs : Exs} {e : Expr} {es : List Expr} {p pos : Pos} (hf : (match f with | .lenset => false | .sortset => false | .str => false | _ => true) = true)
    (hg : glB X.env.scope (bfName f) = true) (ha : PA X (e :: es) (tOfA X.K E (evs C xs))) (he : starEach (e :: es) X.env = (false, eval e X.env) :: starEach es X.env) (hpl : (backTo pos (starEach es X.env)).any (·.1) = false) :
    PE X (.Call (.Name (bfName f) p) (e :: es) [] pos) (tOf X.K E fun ρ => evs C xs ρ >>= fun rs => bltR f rs) := by
  obtain ⟨h1, h2, h3⟩ := glB_of hg
  cases f with
  | len => exact q_callB cr_len len_s h1 (g.blt _ (by decide +kernel)) (by decide +kernel) ha h3 h2 he hpl
  | int => exact q_callTy cr_int int_s h1 (g.blt _ (by decide +kernel)) (by decide +kernel) ha h3 h2 he hpl
  | tuple => exact q_callTy cr_tuple tuple_s h1 (g.blt _ (by decide +kernel)) (by decide +kernel) ha h3 h2 he hpl
  | list => exact q_callTy cr_list list_s h1 (g.blt _ (by decide +kernel)) (by decide +kernel) ha h3 h2 he hpl
  | min1 => exact q_callB (cr_minA g.calm g.hu) min1_s h1 (g.blt _ (by decide +kernel)) (by decide +kernel) ha h3 h2 he hpl
  | max => exact q_callB (cr_maxI g.calm g.hu) max_s h1 (g.blt _ (by decide +kernel)) (by decide +kernel) ha h3 h2 he hpl
  | min => exact q_callB (cr_minI g.calm g.hu) min_s h1 (g.blt _ (by decide +kernel)) (by decide +kernel) ha h3 h2 he hpl
  | all => exact q_callB (cr_all g.calm) all_s h1 (g.blt _ (by decide +kernel)) (by decide +kernel) ha h3 h2 he hpl
  | any => exact q_callB (cr_any g.calm) any_s h1 (g.blt _ (by decide +kernel)) (by decide +kernel) ha h3 h2 he hpl
  | sum => exact q_callB (cr_sum g.calm) sum_s h1 (g.blt _ (by decide +kernel)) (by decide +kernel) ha h3 h2 he hpl
  | sorted => exact q_callB (cr_sortA g.hu) sorted_s h1 (g.blt _ (by decide +kernel)) (by decide +kernel) ha h3 h2 he hpl
  | str => cases hf
  | lenset => cases hf
  | sortset => cases hf
theorem pt_bad {X : Cx} {e : Expr} {E : EX} {f : Sto → Rs Bool} (h : ∀ ρ, f ρ = .bad) : PT X e (tOfT X.K E f) := by
  refine ⟨fun pins s σ H Q I q => ?_⟩
  obtain ⟨ρ, F, R, q⟩ := q
  rw [h ρ] at q
  exact q.elim
theorem stars_of : ∀ {es : List Expr} (env : Env), (es.all notStar) = true → starEach es env = es.map fun e => (false, eval e env)
  | [], _, _ => rfl
  | e :: es, env, h => by
    rw [List.all_cons, Bool.and_eq_true] at h
    rw [star_of h.1, stars_of env h.2]
    rfl
theorem chkEs_star {G : Gi} {N : List Str} {sc : Scope} : ∀ {xs : Exs} {es : List Expr}, chkEs G N sc xs es = true → es.all notStar = true
  | .nil, es, h => by
    cases es with
    | nil => rfl
    | cons _ _ => cases h
  | .cons x xs, es, h => by
    cases es with
    | nil => rfl
    | cons y ys =>
      simp only [chkEs, Bool.and_eq_true] at h
      rw [List.all_cons, h.1.2, chkEs_star h.2]
      rfl
theorem back_of {es : List Expr} (env : Env) (pos : Pos) (h : es.all notStar = true) : (backTo pos (starEach es env)).any (·.1) = false := by
  rw [stars_of env h]
  unfold backTo
  rw [List.any_map, List.any_map]
  exact List.any_eq_false.mpr fun _ _ => Bool.false_ne_true
mutual
theorem snd_e {CX : CXT} {cl : Nat → Value} {C : Nat → List R → Rs R} {G : Gi} : ∀ (x : Ex) {X : Cx} {Ex0 : XK} {e : Expr}, GOk X CX Ex0 cl C G → chkE G X.N X.env.scope x e = true → PE X e (tOf X.K (fun c H' => Ex0 (cl c) none H') (ev C x))
  | .var i, X, Ex0, e, g, h => by
    cases e with
    | Name x pos =>
      simp only [chkE, Bool.and_eq_true, nameOk] at h
      exact q_var (of_decide_eq_true h.1.1) (visB_of h.1.2) (by simpa using h.2.1) (by simpa using h.2.2) C
    | _ => cases h
  | .cst d, X, Ex0, e, g, h => by
    cases e with
    | Constant c k pos => exact cst_pe (by simpa only [chkE] using h)
    | Name x pos =>
      simp only [chkE, Bool.and_eq_true] at h
      obtain ⟨h1, h2, h3⟩ := glB_of h.1
      cases q : G.csts.lookup x with
      | none => rw [q] at h; cases h.2
      | some d' =>
        rw [q] at h
        have e : d = d' := eqD_eq h.2
        subst e
        obtain ⟨v, u, m, r, dn⟩ := g.cst x d q
        exact q_val (pe_glob h1 m r h2) dn
    | _ => cases h
  | .tup es, X, Ex0, e, g, h => by
    cases e with
    | Tuple xs k pos => exact q_tup (snd_es es g (by simpa only [chkE] using h)).1
    | _ => cases h
  | .lst es, X, Ex0, e, g, h => by
    cases e with
    | List xs pos => exact q_lst (snd_es es g (by simpa only [chkE] using h)).1
    | _ => cases h
  | .bin o a b, X, Ex0, e, g, h => by
    cases e with
    | BinOp l op r pos =>
      simp only [chkE, Bool.and_eq_true] at h
      have e : opOf o = op := of_decide_eq_true h.1.1
      subst e
      exact q_binE o (snd_e a g h.1.2) (snd_e b g h.2)
    | _ => cases h
  | .neg a, X, Ex0, e, g, h => by
    cases e with
    | UnaryOp op l pos =>
      cases op with
      | USub => exact q_neg (snd_e a g (by simpa only [chkE] using h))
      | _ => cases h
    | _ => cases h
  | .cmp o a b, X, Ex0, e, g, h => by
    cases e with
    | Compare l ops rs pos =>
      match ops, rs, h with
      | [op], [r], h =>
        simp only [chkE, Bool.and_eq_true] at h
        have e : cmOf o = op := of_decide_eq_true h.1.1.1
        subst e
        exact q_cmpE g.hu o (snd_e a g h.1.1.2) (snd_e b g h.1.2) (marks_of h.2 _)
      | [], _, h => cases h
      | [_], [], h => cases h
      | [_], _ :: _ :: _, h => cases h
      | _ :: _ :: _, _, h => cases h
    | _ => cases h
  | .chn o p a b c, X, Ex0, e, g, h => by
    cases e with
    | Compare l ops rs pos =>
      match ops, rs, h with
      | [op, op'], [r, s], h =>
        simp only [chkE, Bool.and_eq_true] at h
        have e : cmOf o = op := of_decide_eq_true h.1.1.1.1.1
        have e' : cmOf p = op' := of_decide_eq_true h.1.1.1.1.2
        subst e
        subst e'
        exact q_chn g.hu o p (snd_e a g h.1.1.1.2) (snd_e b g h.1.1.2) (snd_e c g h.1.2) (marks_of h.2 _)
      | [], _, h => cases h
      | [_], _, h => cases h
      | [_, _], [], h => cases h
      | [_, _], [_], h => cases h
      | [_, _], _ :: _ :: _ :: _, h => cases h
      | _ :: _ :: _ :: _, _, h => cases h
    | _ => cases h
  | .and a b, X, Ex0, e, g, h => by
    cases e with
    | BoolOp op vs pos =>
      cases op with
      | And =>
        match vs, h with
        | [l, r], h =>
          simp only [chkE, Bool.and_eq_true] at h
          exact q_and (snd_e a g h.1) (q_one (snd_e b g h.2))
        | l :: r :: s :: t, h =>
          simp only [chkE, Bool.and_eq_true] at h
          exact q_and (snd_e a g h.1) (snd_e b g h.2)
        | [], h => cases h
        | [_], h => cases h
      | Or => cases h
    | _ => cases h
  | .or a b, X, Ex0, e, g, h => by
    cases e with
    | BoolOp op vs pos =>
      cases op with
      | Or =>
        match vs, h with
        | [l, r], h =>
          simp only [chkE, Bool.and_eq_true] at h
          exact q_or (snd_e a g h.1) (q_one (snd_e b g h.2))
        | l :: r :: s :: t, h =>
          simp only [chkE, Bool.and_eq_true] at h
          exact q_or (snd_e a g h.1) (snd_e b g h.2)
        | [], h => cases h
        | [_], h => cases h
      | And => cases h
    | _ => cases h
  | .not a, X, Ex0, e, g, h => by
    cases e with
    | UnaryOp op l pos =>
      cases op with
      | Not => exact q_not (snd_e a g (by simpa only [chkE] using h))
      | _ => cases h
    | _ => cases h
  | .ite c a b, X, Ex0, e, g, h => by
    cases e with
    | IfExp c' l r pos =>
      simp only [chkE, Bool.and_eq_true] at h
      exact q_ite (snd_t c g h.1.1) (snd_e a g h.1.2) (snd_e b g h.2)
    | _ => cases h
  | .idx a b, X, Ex0, e, g, h => by
    cases e with
    | Subscript l r pos =>
      simp only [chkE, Bool.and_eq_true] at h
      exact q_idx (snd_e a g h.1.1) (snd_e b g h.1.2) (plain_of h.2)
    | _ => cases h
  | .slc a lo hi, X, Ex0, e, g, h => by
    cases e with
    | Subscript l r pos =>
      cases r with
      | Slice lo' hi' st p2 =>
        cases st with
        | none =>
          simp only [chkE, Bool.and_eq_true] at h
          exact q_slc (snd_e a g h.1.1) (snd_o lo g h.1.2) (snd_o hi g h.2)
        | some _ => cases h
      | _ => cases h
    | _ => cases h
  | .rev a, X, Ex0, e, g, h => by
    cases e with
    | Subscript l r pos =>
      cases r with
      | Slice lo hi st p2 =>
        match lo, hi, st, h with
        | none, none, some (.UnaryOp .USub (.Constant (.int 1) k p1) p3), h => exact q_rev (snd_e a g (by simpa only [chkE] using h))
        | none, none, none, h => cases h
        | some _, _, _, h => simp [chkE] at h
        | none, some _, _, h => simp [chkE] at h
      | _ => cases h
    | _ => cases h
  | .call n es, X, Ex0, e, g, h => by
    cases e with
    | Call f xs ks pos =>
      cases f with
      | Name x p =>
        cases ks with
        | nil =>
          simp only [chkE, Bool.and_eq_true] at h
          obtain ⟨h1, h2, h3⟩ := glB_of h.1.1
          obtain ⟨k, f, fd, ps, F, hr, hm, hk, hb, hl⟩ := g.fn x n xs.length (of_decide_eq_true h.1.2)
          obtain ⟨ha, hs⟩ := snd_es es g h.2
          cases xs with
          | nil =>
            cases es with
            | nil => exact q_call0 F hr h1 hm hk hb g.pass h2 hl
            | cons _ _ => cases h.2
          | cons y ys => exact q_call F hr h1 hm hk hb g.pass ha h2 (hs y ys rfl).1 (hs y ys rfl).2 hl
        | cons _ _ => cases h
      | _ => cases h
    | _ => cases h
  | .blt f es, X, Ex0, e, g, h => by
    cases e with
    | Call fn xs ks pos =>
      cases fn with
      | Name x p =>
        cases ks with
        | nil =>
          cases xs with
          | nil => cases h
          | cons y ys =>
            simp only [chkE, Bool.and_eq_true] at h
            have e : bfName f = x := of_decide_eq_true h.1.1.1
            subst e
            obtain ⟨ha, hs⟩ := snd_es es g h.2
            have e2 : ev C (.blt f es) = fun ρ => evs C es ρ >>= fun rs => bltR f rs := by funext ρ; rw [ev.eq_17]
            rw [e2]
            exact q_blt g h.1.2 h.1.1.2 ha (hs y ys rfl).1 (hs y ys rfl).2
        | cons _ _ => cases xs <;> cases h
      | _ => cases h
    | _ => cases h
  | .isi t a, X, Ex0, e, g, h => by
    cases e with
    | Call f xs ks pos =>
      cases f with
      | Name x p =>
        match xs, ks, h with
        | [l, e2], [], h =>
          cases e2 with
          | Name y q =>
            simp only [chkE, Bool.and_eq_true] at h
            have ex : x = "isinstance" := of_decide_eq_true h.1.1.1.1.1.1
            subst ex
            have ey : tyName t = y := of_decide_eq_true h.1.1.1.1.2
            subst ey
            obtain ⟨g1, g2, g3⟩ := glB_of h.1.1.1.1.1.2
            obtain ⟨k1, k2, k3⟩ := glB_of h.1.1.2
            obtain ⟨b1, b2⟩ := ty_boot t h.1.1.1.2
            exact q_isi1 (snd_e a g h.2) g1 (g.blt _ (by decide +kernel)) k1 (g.blt _ b2) b1 k3 k2 (star_of h.1.2 _ _)
          | _ => cases h
        | [], _, h => cases h
        | [_], _, h => cases h
        | _ :: _ :: _ :: _, _, h => simp [chkE] at h
        | [_, _], _ :: _, h => simp [chkE] at h
      | _ => cases h
    | _ => cases h
  | .isi2 t u a, X, Ex0, e, g, h => by
    cases e with
    | Call f xs ks pos =>
      cases f with
      | Name x p =>
        match xs, ks, h with
        | [l, e2], [], h =>
          cases e2 with
          | Tuple es k r =>
            match es, h with
            | [e3, e4], h =>
              cases e3 with
              | Name y q =>
                cases e4 with
                | Name z q2 =>
                  simp only [chkE, Bool.and_eq_true] at h
                  have ex : x = "isinstance" := of_decide_eq_true h.1.1.1.1.1.1.1.1.1
                  subst ex
                  have ey : tyName t = y := of_decide_eq_true h.1.1.1.1.1.1.1.2
                  subst ey
                  have ez : tyName u = z := of_decide_eq_true h.1.1.1.1.2
                  subst ez
                  obtain ⟨g1, g2, g3⟩ := glB_of h.1.1.1.1.1.1.1.1.2
                  obtain ⟨k1, k2, k3⟩ := glB_of h.1.1.1.1.1.2
                  obtain ⟨b1, b2⟩ := ty_boot t h.1.1.1.1.1.1.2
                  obtain ⟨l1, l2, l3⟩ := glB_of h.1.1.2
                  obtain ⟨c1, c2⟩ := ty_boot u h.1.1.1.2
                  exact q_isi2 (snd_e a g h.2) g1 (g.blt _ (by decide +kernel)) k1 (g.blt _ b2) b1 k3 k2 l1 (g.blt _ c2) c1 l3 l2 (star_of h.1.2 _ _)
                | _ => cases h
              | _ => cases h
            | [], h => cases h
            | [_], h => simp [chkE] at h
            | _ :: _ :: _ :: _, h => simp [chkE] at h
          | _ => cases h
        | [], _, h => cases h
        | [_], _, h => cases h
        | _ :: _ :: _ :: _, _, h => simp [chkE] at h
        | [_, _], _ :: _, h => simp [chkE] at h
      | _ => cases h
    | _ => cases h
  | .lc t it x, X, Ex0, e, g, h => by
    cases e with
    | ListComp elt gs scope pos =>
      match gs, h with
      | [⟨tg, iter, [], k⟩], h =>
        simp only [chkE, Bool.and_eq_true] at h
        have ek : k = 0 := of_decide_eq_true h.1.1.1.1.1
        subst ek
        refine q_lc g.calm g.nd (snd_i it g h.1.1.1.1.2) (blkOk_by h.1.1.1.2) (ownOf_own _ _) (fun s H A cl2 fp => ?_) (fun s H A cl2 fp => ?_) (fold_of h.2 _)
        · exact pg_chkT (X := X.blk s H scope (compEnvC scope cl2 A X.env) fp) g.calm g.nd (fun x q => q) h.1.1.2
        · exact snd_e x (g.blk s H scope (compEnvC scope cl2 A X.env) fp) h.1.2
      | [], h => cases h
      | ⟨_, _, _ :: _, _⟩ :: _, h => cases h
      | _ :: _ :: _, h => simp [chkE] at h
    | _ => cases h
  | .lcf t it c x, X, Ex0, e, g, h => by
    cases e with
    | ListComp elt gs scope pos =>
      match gs, h with
      | [⟨tg, iter, [cnd], k⟩], h =>
        simp only [chkE, Bool.and_eq_true] at h
        have ek : k = 0 := of_decide_eq_true h.1.1.1.1.1.1
        subst ek
        refine q_lcf g.calm g.nd (snd_i it g h.1.1.1.1.1.2) (blkOk_by h.1.1.1.1.2) (ownOf_own _ _) (fun s H A cl2 fp => ?_) (fun s H A cl2 fp => ?_) (fun s H A cl2 fp => ?_) (fold_of h.2 _)
        · exact pg_chkT (X := X.blk s H scope (compEnvC scope cl2 A X.env) fp) g.calm g.nd (fun x q => q) h.1.1.1.2
        · exact snd_t c (g.blk s H scope (compEnvC scope cl2 A X.env) fp) h.1.1.2
        · exact snd_e x (g.blk s H scope (compEnvC scope cl2 A X.env) fp) h.1.2
      | [], h => cases h
      | ⟨_, _, [], _⟩ :: _, h => cases h
      | ⟨_, _, _ :: _ :: _, _⟩ :: _, h => cases h
      | _ :: _ :: _, h => simp [chkE] at h
    | _ => cases h
  | .lenset a, X, Ex0, e, g, h => by
    cases e with
    | Call f xs ks pos =>
      cases f with
      | Name x p =>
        match xs, ks, h with
        | [e2], [], h =>
          cases e2 with
          | Call f2 xs2 ks2 q =>
            cases f2 with
            | Name y p2 =>
              match xs2, ks2, h with
              | [l], [], h =>
                simp only [chkE, Bool.and_eq_true] at h
                have ex : x = "len" := of_decide_eq_true h.1.1.1.1.1
                subst ex
                have ey : y = "set" := of_decide_eq_true h.1.1.1.1.2
                subst ey
                exact q_lenset g.calm g.hu (glB_of h.1.1.1.2).1 (g.blt _ (by decide +kernel)) (glB_of h.1.1.2).1 (g.blt _ (by decide +kernel)) (snd_e a g h.2) (star_of h.1.2 _ _)
              | [], _, h => cases h
              | _ :: _ :: _, _, h => simp [chkE] at h
              | [_], _ :: _, h => simp [chkE] at h
            | _ => cases h
          | _ => cases h
        | [], _, h => cases h
        | _ :: _ :: _, _, h => simp [chkE] at h
        | [_], _ :: _, h => simp [chkE] at h
      | _ => cases h
    | _ => cases h
  | .mget i es, X, Ex0, e, g, h => by
    cases e with
    | Subscript l r pos =>
      cases l with
      | Name x p =>
        cases r with
        | Tuple xs k q =>
          simp only [chkE, Bool.and_eq_true, nameOk] at h
          obtain ⟨⟨⟨h1, h2⟩, h3⟩, h4⟩ := h
          exact q_mget (by have := g.hu; omega) (pe_var (of_decide_eq_true h1) (visB_of h2) (by simpa using h3.1) (by simpa using h3.2)) (snd_es es g h4).1
        | _ => cases h
      | _ => cases h
    | _ => cases h
  | .upp a, X, Ex0, e, g, h => by
    cases e with
    | Call f as ks cp =>
      cases f with
      | Attribute l m ap =>
        match as, ks, h with
        | [], [], h =>
          simp only [chkE, Bool.and_eq_true] at h
          obtain ⟨⟨⟨h1, h2⟩, h3⟩, h4⟩ := h
          have em := of_decide_eq_true h1
          subst em
          obtain ⟨x, p, rfl⟩ := isNm_ok h3
          exact q_upp rfl h2 (snd_e a g h4)
        | _ :: _, _, h => cases h
        | [], _ :: _, h => cases h
      | _ => cases h
    | _ => cases h
  | .fnd z a, X, Ex0, e, g, h => by
    cases e with
    | Call f as ks cp =>
      cases f with
      | Attribute l m ap =>
        match as, ks, h with
        | [b], [], h =>
          simp only [chkE, Bool.and_eq_true] at h
          obtain ⟨⟨⟨⟨h1, h2⟩, h3⟩, h4⟩, h5⟩ := h
          have em := of_decide_eq_true h1
          subst em
          obtain ⟨k, p, rfl⟩ := isTx_ok h3
          exact q_fnd h2 (star_of h4 _ _) (snd_e a g h5)
        | [], _, h => cases h
        | _ :: _ :: _, _, h => cases h
        | [_], _ :: _, h => cases h
      | _ => cases h
    | _ => cases h
  | .din n kvs a, X, Ex0, e, g, h => by cases e <;> cases h
  | .stp a k, X, Ex0, e, g, h => by cases e <;> cases h
  | .dget kvs a, X, Ex0, e, g, h => by
    cases e with
    | Subscript l r pos =>
      cases l with
      | Name x p =>
        simp only [chkE, Bool.and_eq_true] at h
        obtain ⟨⟨⟨h1, h2⟩, h3⟩, h4⟩ := h
        obtain ⟨g1, g2, g3⟩ := glB_of h1
        cases q : G.dcts.lookup x with
        | none => rw [q] at h2; cases h2
        | some kvs' =>
          rw [q] at h2
          have e : kvs = kvs' := eqKD_eq h2
          subst e
          obtain ⟨d, m, dk⟩ := g.dct x kvs q
          exact q_dget (pe_glob g1 m rfl g2) dk (snd_e a g h3) (plain_of h4)
      | _ => cases h
    | _ => cases h
  | .dsel ks es a, X, Ex0, e, g, h => by
    cases e with
    | Subscript l r pos =>
      cases l with
      | Dict keys values dp =>
        simp only [chkE, Bool.and_eq_true] at h
        obtain ⟨⟨⟨⟨⟨h1, h2⟩, h3⟩, h4⟩, h5⟩, h6⟩ := h
        obtain ⟨p1, p2, p3, p4⟩ := snd_ds es g h1 (pos := dp)
        exact q_dsel (by have := g.hu; omega) p1 p2 p3 (of_decide_eq_true h2) (of_decide_eq_true h3) (of_decide_eq_true h4) (by rw [p4]; exact of_decide_eq_true h3) (snd_e a g h5) (plain_of h6)
      | _ => cases h
    | _ => cases h
  | .lensi a, X, Ex0, e, g, h => by
    cases e with
    | Call f xs ks pos =>
      cases f with
      | Name x p =>
        match xs, ks, h with
        | [e2], [], h =>
          cases e2 with
          | Call f2 xs2 ks2 q =>
            cases f2 with
            | Name y p2 =>
              match xs2, ks2, h with
              | [l], [], h =>
                simp only [chkE, Bool.and_eq_true] at h
                have ex : x = "len" := of_decide_eq_true h.1.1.1.1.1
                subst ex
                have ey : y = "set" := of_decide_eq_true h.1.1.1.1.2
                subst ey
                exact q_lensi g.calm (glB_of h.1.1.1.2).1 (g.blt _ (by decide +kernel)) (glB_of h.1.1.2).1 (g.blt _ (by decide +kernel)) (snd_e a g h.2) (star_of h.1.2 _ _)
              | [], _, h => cases h
              | _ :: _ :: _, _, h => simp [chkE] at h
              | [_], _ :: _, h => simp [chkE] at h
            | _ => cases h
          | _ => cases h
        | [], _, h => cases h
        | _ :: _ :: _, _, h => simp [chkE] at h
        | [_], _ :: _, h => simp [chkE] at h
      | _ => cases h
    | _ => cases h
termination_by x => (sizeOf x, 0)
theorem snd_es {CX : CXT} {cl : Nat → Value} {C : Nat → List R → Rs R} {G : Gi} : ∀ (xs : Exs) {X : Cx} {Ex0 : XK} {es : List Expr}, GOk X CX Ex0 cl C G → chkEs G X.N X.env.scope xs es = true →
    PA X es (tOfA X.K (fun c H' => Ex0 (cl c) none H') (evs C xs)) ∧ ∀ y ys, es = y :: ys → starEach (y :: ys) X.env = (false, eval y X.env) :: starEach ys X.env ∧ ∀ {pos : Pos}, (backTo pos (starEach ys X.env)).any (·.1) = false
  | .nil, X, Ex0, es, g, h => by
    cases es with
    | nil => exact ⟨q_nil, fun y ys q => by cases q⟩
    | cons _ _ => cases h
  | .cons x xs, X, Ex0, es, g, h => by
    cases es with
    | nil => cases h
    | cons y ys =>
      simp only [chkEs, Bool.and_eq_true] at h
      obtain ⟨h1, h2⟩ := snd_es xs g h.2
      refine ⟨q_cons (snd_e x g h.1.1) h1 (star_of h.1.2 _ _), fun z zs q => ?_⟩
      cases q
      exact ⟨star_of h.1.2 _ _, fun {pos} => back_of _ pos (chkEs_star h.2)⟩
termination_by x => (sizeOf x, 0)
theorem snd_ds {CX : CXT} {cl : Nat → Value} {C : Nat → List R → Rs R} {G : Gi} : ∀ (xs : Exs) {X : Cx} {Ex0 : XK} {ks : List Str} {keys : List (Option Expr)} {values : List Expr} {pos : Pos}, GOk X CX Ex0 cl C G → chkDs G X.N X.env.scope ks xs keys values = true →
    PairsOk X (fun c H' => Ex0 (cl c) none H') C pos ks xs keys values ∧ keys.all (·.isSome) = true ∧ keys.length = values.length ∧ ks.length = keys.length
  | .nil, X, Ex0, ks, keys, values, pos, g, h => by
    match ks, keys, values, h with
    | [], [], [], _ => exact ⟨pairs_nil, rfl, rfl, rfl⟩
    | _ :: _, _, _, h => simp [chkDs] at h
    | [], _ :: _, _, h => simp [chkDs] at h
    | [], [], _ :: _, h => simp [chkDs] at h
  | .cons x xs, X, Ex0, ks, keys, values, pos, g, h => by
    match ks, keys, values, h with
    | k :: ks, some (.Constant (.str k') kk kp) :: keys, v :: values, h =>
      simp only [chkDs, Bool.and_eq_true] at h
      obtain ⟨⟨h1, h2⟩, h3⟩ := h
      have e := of_decide_eq_true h1
      subst e
      obtain ⟨p1, p2, p3, p4⟩ := snd_ds xs g h3 (pos := pos)
      exact ⟨pairs_cons (snd_e x g h2) p1, by simpa using p2, by simp [p3], by simp [p4]⟩
    | [], _, _, h => simp [chkDs] at h
    | _ :: _, [], _, h => simp [chkDs] at h
    | _ :: _, none :: _, _, h => simp [chkDs] at h
    | _ :: _, some e :: _, [], h => cases e <;> simp [chkDs] at h
    | k :: ks, some e :: keys, v :: values, h =>
      cases e with
      | Constant c kk kp =>
        cases c with
        | str k' =>
          simp only [chkDs, Bool.and_eq_true] at h
          obtain ⟨⟨h1, h2⟩, h3⟩ := h
          have e := of_decide_eq_true h1
          subst e
          obtain ⟨p1, p2, p3, p4⟩ := snd_ds xs g h3 (pos := pos)
          exact ⟨pairs_cons (snd_e x g h2) p1, by simpa using p2, by simp [p3], by simp [p4]⟩
        | _ => simp [chkDs] at h
      | _ => simp [chkDs] at h
termination_by x => (sizeOf x, 0)
theorem snd_o {CX : CXT} {cl : Nat → Value} {C : Nat → List R → Rs R} {G : Gi} : ∀ (xs : Exs) {X : Cx} {Ex0 : XK} {e : Option Expr}, GOk X CX Ex0 cl C G → chkO G X.N X.env.scope xs e = true →
    PO X e (tOfO X.K (fun c H' => Ex0 (cl c) none H') fun ρ => evs C xs ρ >>= optI)
  | .nil, X, Ex0, e, g, h => by
    cases e with
    | none => exact q_onone
    | some _ => cases h
  | .cons x .nil, X, Ex0, e, g, h => by
    cases e with
    | none => cases h
    | some e => exact q_osome (snd_e x g (by simpa only [chkO] using h))
  | .cons x (.cons y z), X, Ex0, e, g, h => by cases e <;> cases h
termination_by x => (sizeOf x, 0)
theorem snd_i {CX : CXT} {cl : Nat → Value} {C : Nat → List R → Rs R} {G : Gi} : ∀ (it : It) {X : Cx} {Ex0 : XK} {tg e : Expr}, GOk X CX Ex0 cl C G → chkI G X.N X.env.scope it tg e = true →
    PI X tg e (tOfI X.K (fun c H' => Ex0 (cl c) none H') (evI C it))
  | .seq x, X, Ex0, tg, e, g, h => q_seq (snd_e x g (by simpa only [chkI] using h))
  | .rng1 x, X, Ex0, tg, e, g, h => by
    cases e with
    | Call f xs ks pos =>
      cases f with
      | Name r p =>
        match xs, ks, h with
        | [a], [], h =>
          simp only [chkI, Bool.and_eq_true] at h
          have er : r = "range" := of_decide_eq_true h.1.1.1
          subst er
          exact q_rng1 (glB_of h.1.1.2).1 (g.blt _ (by decide +kernel)) (snd_e x g h.1.2) (star_of h.2 _ _)
        | [], _, h => cases h
        | _ :: _ :: _, _, h => cases h
        | [_], _ :: _, h => cases h
      | _ => cases h
    | _ => cases h
  | .rng2 x y, X, Ex0, tg, e, g, h => by
    cases e with
    | Call f xs ks pos =>
      cases f with
      | Name r p =>
        match xs, ks, h with
        | [a, b], [], h =>
          simp only [chkI, Bool.and_eq_true] at h
          have er : r = "range" := of_decide_eq_true h.1.1.1.1.1
          subst er
          exact q_rng2 (glB_of h.1.1.1.1.2).1 (g.blt _ (by decide +kernel)) (snd_e x g h.1.1.1.2) (snd_e y g h.1.1.2) (by rw [star_of h.1.2, star_of h.2]; rfl) (star_of h.2 _ _)
        | [], _, h => cases h
        | [_], _, h => cases h
        | _ :: _ :: _ :: _, _, h => cases h
        | [_, _], _ :: _, h => cases h
      | _ => cases h
    | _ => cases h
  | .enum x, X, Ex0, tg, e, g, h => by
    cases tg with
    | Tuple elts kk tpos =>
      cases e with
      | Call f xs ks pos =>
        cases f with
        | Name r p =>
          match xs, ks, h with
          | [a], [], h =>
            simp only [chkI, Bool.and_eq_true] at h
            have er : r = "enumerate" := of_decide_eq_true h.1.1.1
            subst er
            exact q_enum (glB_of h.1.1.2).1 (g.blt _ (by decide +kernel)) (snd_e x g h.1.2) (star_of h.2 _ _)
          | [], _, h => cases h
          | _ :: _ :: _, _, h => cases h
          | [_], _ :: _, h => cases h
        | _ => cases h
      | _ => cases h
    | _ => cases h
  | .zip x y, X, Ex0, tg, e, g, h => by
    cases tg with
    | Tuple elts kk tpos =>
      cases e with
      | Call f xs ks pos =>
        cases f with
        | Name r p =>
          match xs, ks, h with
          | [a, b], [], h =>
            simp only [chkI, Bool.and_eq_true] at h
            have er : r = "zip" := of_decide_eq_true h.1.1.1.1.1
            subst er
            exact q_zip (glB_of h.1.1.1.1.2).1 (g.blt _ (by decide +kernel)) (snd_e x g h.1.1.1.2) (snd_e y g h.1.1.2) (star_of h.1.2 _ _) (star_of h.2 _ _)
          | [], _, h => cases h
          | [_], _, h => cases h
          | _ :: _ :: _ :: _, _, h => cases h
          | [_, _], _ :: _, h => cases h
        | _ => cases h
      | _ => cases h
    | _ => cases h
  | .dks kvs, X, Ex0, tg, e, g, h => by
    cases e with
    | Name x p =>
      simp only [chkI, Bool.and_eq_true] at h
      obtain ⟨⟨h1, h2⟩, h3⟩ := h
      obtain ⟨g1, g2, g3⟩ := glB_of h1
      cases q : G.dcts.lookup x with
      | none => rw [q] at h2; cases h2
      | some kvs' =>
        rw [q] at h2
        have e : kvs = kvs' := eqKD_eq h2
        subst e
        obtain ⟨d, m, dk⟩ := g.dct x kvs q
        exact q_dks (pe_glob g1 m rfl g2) dk h3
    | _ => cases tg <;> cases h
termination_by x => (sizeOf x, 0)
theorem snd_t {CX : CXT} {cl : Nat → Value} {C : Nat → List R → Rs R} {G : Gi} : ∀ (x : Ex) {X : Cx} {Ex0 : XK} {e : Expr}, GOk X CX Ex0 cl C G → chkE G X.N X.env.scope x e = true → PT X e (tOfT X.K (fun c H' => Ex0 (cl c) none H') (evT C x))
  | .and a b, X, Ex0, e, g, h => by
    cases e with
    | BoolOp op vs pos => exact (snd_w (.and a b) g h).pt
    | _ => cases h
  | .or a b, X, Ex0, e, g, h => by
    cases e with
    | BoolOp op vs pos => exact (snd_w (.or a b) g h).pt
    | _ => cases h
  | .not a, X, Ex0, e, g, h => by
    cases e with
    | UnaryOp op l pos =>
      cases op with
      | Not => exact q_notT (snd_t a g (by simpa only [chkE] using h))
      | _ => cases h
    | _ => cases h
  | .cmp o a b, X, Ex0, e, g, h => by
    cases e with
    | Compare l ops rs pos =>
      match ops, rs, h with
      | [op], [r], h =>
        simp only [chkE, Bool.and_eq_true] at h
        have e : cmOf o = op := of_decide_eq_true h.1.1.1
        subst e
        exact q_cmpTE g.hu o (snd_e a g h.1.1.2) (snd_e b g h.1.2) (marks_of h.2 _)
      | [], _, h => cases h
      | [_], [], h => cases h
      | [_], _ :: _ :: _, h => cases h
      | _ :: _ :: _, _, h => cases h
    | _ => cases h
  | .chn o p a b c, X, Ex0, e, g, h => by
    cases e with
    | Compare l ops rs pos =>
      match ops, rs, h with
      | [op, op'], [r, s], h =>
        simp only [chkE, Bool.and_eq_true] at h
        have e : cmOf o = op := of_decide_eq_true h.1.1.1.1.1
        have e' : cmOf p = op' := of_decide_eq_true h.1.1.1.1.2
        subst e
        subst e'
        exact q_chnT g.hu o p (snd_e a g h.1.1.1.2) (snd_e b g h.1.1.2) (snd_e c g h.1.2) (marks_of h.2 _)
      | [], _, h => cases h
      | [_], _, h => cases h
      | [_, _], [], h => cases h
      | [_, _], [_], h => cases h
      | [_, _], _ :: _ :: _ :: _, h => cases h
      | _ :: _ :: _ :: _, _, h => cases h
    | _ => cases h
  | .var i, X, Ex0, e, g, h => by
    cases e with
    | Name x pos =>
      have := q_truth (snd_e (.var i) g h) (fun _ => rfl)
      have e2 : evT C (.var i) = fun ρ => ev C (.var i) ρ >>= fun x => truR x := by funext ρ; rw [evT.eq_6, ev.eq_1]
      rw [e2]
      exact this
    | _ => cases h
  | .idx a b, X, Ex0, e, g, h => by
    cases e with
    | Subscript l r pos =>
      have := q_truth (snd_e (.idx a b) g h) (fun _ => rfl)
      have e2 : evT C (.idx a b) = fun ρ => ev C (.idx a b) ρ >>= fun x => truR x := by funext ρ; rw [evT.eq_7, ev.eq_13]
      rw [e2]
      exact this
    | _ => cases h
  | .call n es, X, Ex0, e, g, h => by
    cases e with
    | Call f xs ks pos =>
      have := q_truth (snd_e (.call n es) g h) (fun _ => rfl)
      have e2 : evT C (.call n es) = fun ρ => ev C (.call n es) ρ >>= fun x => truR x := by funext ρ; rw [evT.eq_8, ev.eq_16]
      rw [e2]
      exact this
    | _ => cases h
  | .blt f es, X, Ex0, e, g, h => by
    cases e with
    | Call fn xs ks pos =>
      have := q_truth (snd_e (.blt f es) g h) (fun _ => rfl)
      have e2 : evT C (.blt f es) = fun ρ => ev C (.blt f es) ρ >>= fun x => truR x := by funext ρ; rw [evT.eq_9, ev.eq_17]
      rw [e2]
      exact this
    | _ => cases h
  | .isi2 t u a, X, Ex0, e, g, h => by
    cases e with
    | Call fn xs ks pos =>
      have := q_truth (snd_e (.isi2 t u a) g h) (fun _ => rfl)
      have e2 : evT C (.isi2 t u a) = fun ρ => ev C (.isi2 t u a) ρ >>= fun x => truR x := by
        funext ρ
        rw [evT.eq_11, ev.eq_19]
        cases ev C a ρ with
        | bad => rfl
        | err c => rfl
        | ok x =>
          show isiR [t, u] x = (boolR (isiR [t, u] x) >>= fun x => truR x)
          cases isiR [t, u] x <;> rfl
      rw [e2]
      exact this
    | _ => cases h
  | .isi t a, X, Ex0, e, g, h => by
    cases e with
    | Call fn xs ks pos =>
      have := q_truth (snd_e (.isi t a) g h) (fun _ => rfl)
      have e2 : evT C (.isi t a) = fun ρ => ev C (.isi t a) ρ >>= fun x => truR x := by
        funext ρ
        rw [evT.eq_10, ev.eq_18]
        cases ev C a ρ with
        | bad => rfl
        | err c => rfl
        | ok x =>
          show isiR [t] x = (boolR (isiR [t] x) >>= fun x => truR x)
          cases isiR [t] x <;> rfl
      rw [e2]
      exact this
    | _ => cases h
  | .cst d, X, Ex0, e, g, h => pt_bad fun ρ => by rfl
  | .tup es, X, Ex0, e, g, h => pt_bad fun ρ => by rfl
  | .lst es, X, Ex0, e, g, h => pt_bad fun ρ => by rfl
  | .bin o a b, X, Ex0, e, g, h => pt_bad fun ρ => by rfl
  | .neg a, X, Ex0, e, g, h => pt_bad fun ρ => by rfl
  | .ite c a b, X, Ex0, e, g, h => pt_bad fun ρ => by rfl
  | .slc a lo hi, X, Ex0, e, g, h => pt_bad fun ρ => by rfl
  | .rev a, X, Ex0, e, g, h => pt_bad fun ρ => by rfl
  | .lc t it x, X, Ex0, e, g, h => pt_bad fun ρ => by rfl
  | .lcf t it c x, X, Ex0, e, g, h => pt_bad fun ρ => by rfl
  | .lenset a, X, Ex0, e, g, h => pt_bad fun ρ => by rfl
  | .mget i es, X, Ex0, e, g, h => pt_bad fun ρ => by rfl
  | .upp a, X, Ex0, e, g, h => pt_bad fun ρ => by rfl
  | .lensi a, X, Ex0, e, g, h => pt_bad fun ρ => by rfl
  | .dsel ks es a, X, Ex0, e, g, h => pt_bad fun ρ => by rfl
  | .stp a k, X, Ex0, e, g, h => pt_bad fun ρ => by rfl
  | .fnd z a, X, Ex0, e, g, h => pt_bad fun ρ => by rfl
  | .din n kvs a, X, Ex0, e, g, h => by cases e <;> cases h
  | .dget kvs a, X, Ex0, e, g, h => pt_bad fun ρ => by rfl
termination_by x => (sizeOf x, 2)
theorem snd_w {CX : CXT} {cl : Nat → Value} {C : Nat → List R → Rs R} {G : Gi} : ∀ (x : Ex) {X : Cx} {Ex0 : XK} {op : BoolOp} {vs : List Expr} {pos : Pos}, GOk X CX Ex0 cl C G → chkE G X.N X.env.scope x (.BoolOp op vs pos) = true → PW X (.BoolOp op vs pos) (tOfT X.K (fun c H' => Ex0 (cl c) none H') (evT C x))
  | .and a b, X, Ex0, op, vs, pos, g, h => by
    cases op with
    | And =>
      match vs, h with
      | [l, r], h =>
        simp only [chkE, Bool.and_eq_true] at h
        exact q_andT (snd_t a g h.1) (pw_and1 (snd_t b g h.2))
      | l :: r :: s :: t, h =>
        simp only [chkE, Bool.and_eq_true] at h
        exact q_andT (snd_t a g h.1) (snd_w b g h.2)
      | [], h => cases h
      | [_], h => cases h
    | Or => cases h
  | .or a b, X, Ex0, op, vs, pos, g, h => by
    cases op with
    | Or =>
      match vs, h with
      | [l, r], h =>
        simp only [chkE, Bool.and_eq_true] at h
        exact q_orT (snd_t a g h.1) (pw_or1 (snd_t b g h.2))
      | l :: r :: s :: t, h =>
        simp only [chkE, Bool.and_eq_true] at h
        exact q_orT (snd_t a g h.1) (snd_w b g h.2)
      | [], h => cases h
      | [_], h => cases h
    | And => cases h
  | .var i, X, Ex0, op, vs, pos, g, h => by cases h
  | .cst d, X, Ex0, op, vs, pos, g, h => by cases h
  | .tup es, X, Ex0, op, vs, pos, g, h => by cases h
  | .lst es, X, Ex0, op, vs, pos, g, h => by cases h
  | .bin o a b, X, Ex0, op, vs, pos, g, h => by cases h
  | .neg a, X, Ex0, op, vs, pos, g, h => by cases h
  | .cmp o a b, X, Ex0, op, vs, pos, g, h => by cases h
  | .chn o p a b c, X, Ex0, op, vs, pos, g, h => by cases h
  | .not a, X, Ex0, op, vs, pos, g, h => by cases h
  | .ite c a b, X, Ex0, op, vs, pos, g, h => by cases h
  | .idx a b, X, Ex0, op, vs, pos, g, h => by cases h
  | .slc a lo hi, X, Ex0, op, vs, pos, g, h => by cases h
  | .rev a, X, Ex0, op, vs, pos, g, h => by cases h
  | .call n es, X, Ex0, op, vs, pos, g, h => by cases h
  | .blt f es, X, Ex0, op, vs, pos, g, h => by cases h
  | .isi t a, X, Ex0, op, vs, pos, g, h => by cases h
  | .isi2 t u a, X, Ex0, op, vs, pos, g, h => by cases h
  | .lc t it x, X, Ex0, op, vs, pos, g, h => by cases h
  | .lcf t it c x, X, Ex0, op, vs, pos, g, h => by cases h
  | .lenset a, X, Ex0, op, vs, pos, g, h => by cases h
  | .mget i es, X, Ex0, op, vs, pos, g, h => by cases h
  | .upp a, X, Ex0, op, vs, pos, g, h => by cases h
  | .lensi a, X, Ex0, op, vs, pos, g, h => by cases h
  | .dsel ks es a, X, Ex0, op, vs, pos, g, h => by cases h
  | .stp a k, X, Ex0, op, vs, pos, g, h => by cases h
  | .fnd z a, X, Ex0, op, vs, pos, g, h => by cases h
  | .din n kvs a, X, Ex0, op, vs, pos, g, h => by cases h
  | .dget kvs a, X, Ex0, op, vs, pos, g, h => by cases h
termination_by x => (sizeOf x, 1)
end
end PP

set_option Elab.async false
set_option linter.all false
set_option autoImplicit false
set_option maxRecDepth 100000
set_option maxHeartbeats 4000000
namespace PP
open PySem L2
/-! ### is this Python text that statement? -/
/-- a target that is no local name -/
def nonLoc (sc : Scope) : Expr → Bool
  | .Name x _ => !decide (sc.names.lookup x = some .local)
  | _ => true
/-- an assignment of one target that stores in the plain way -/
def plainAsg (sc : Scope) (tg v : Expr) : Bool :=
  (match tg with | .Name x _ => !isComp v || !decide (sc.names.lookup x = some .local) | .Tuple _ _ _ => true | _ => false) &&
  (match tg, v with
    | .Tuple ts _ _, .Tuple _ _ _ => ts.any (nonLoc sc)
    | _, _ => true)
/-- .. of a comprehension, to a name that the comprehension's own frame stores -/
def compAsg (N : List Str) (sc : Scope) (i : Nat) (tg v : Expr) : Bool :=
  match tg, v with
  | .Name y py, .ListComp _ _ scope pos => decide (N[i]? = some y) && decide (sc.names.lookup y = some .local) && (py.line == pos.line) && !(scope.names.any fun (n, k) => n == y && (k == .local || k == .cell))
  | _, _ => false
def chkPar (G : Gi) (N : List Str) (sc : Scope) (i j : Nat) (x y : Ex) (tg v : Expr) : Bool :=
  match tg, v with
  | .Tuple [.Name a pa, .Name b pb] _ _, .Tuple [l, r] _ _ =>
      chkE G N sc x l && chkE G N sc y r && notStar l && notStar r && decide (N[i]? = some a) && decide (N[j]? = some b) && decide (i ≠ j) && decide (sc.names.lookup a = some .local) && decide (sc.names.lookup b = some .local) &&
      (pa.line == pb.line) && !(foldedForSure 8 l && foldedForSure 8 r) && !(constantsAlone 8 l && constantsAlone 8 r)
  | _, _ => false
def chkPut (G : Gi) (N : List Str) (sc : Scope) (i : Nat) (k x : Ex) (tg v : Expr) : Bool :=
  match tg with
  | .Subscript (.Name n _) j _ => decide (N[i]? = some n) && visB sc n && nameOk n && chkE G N sc k j && notSlice j && chkE G N sc x v && !isComp v
  | _ => false
def chkMput (G : Gi) (N : List Str) (sc : Scope) (i : Nat) (ks : Exs) (x : Ex) (tg v : Expr) : Bool :=
  match tg with
  | .Subscript (.Name n _) (.Tuple es _ _) _ => decide (N[i]? = some n) && visB sc n && nameOk n && chkEs G N sc ks es && chkE G N sc x v && !isComp v
  | _ => false
def chkMnew (N : List Str) (sc : Scope) (i : Nat) (tg v : Expr) : Bool :=
  match v with
  | .Dict [] [] _ => chkT N sc (fun _ => true) (.nm i) tg && plainAsg sc tg v
  | _ => false
def chkMade (G : Gi) (sc : Scope) (c : Nat) (f : Expr) (as : List Expr) (ks : List Keyword) : Bool :=
  match f with
  | .Name x _ => glB sc x && decide ((x, c) ∈ G.xns) && (match as with
    | [a] => (match a with
      | .Constant k _ _ => (match k with
        | .str _ => ks.isEmpty
        | _ => false)
      | _ => false)
    | _ => false)
  | _ => false
def chkRse (G : Gi) (sc : Scope) (c : Nat) (v w : Option Expr) : Bool :=
  match v with
  | some e => (match e with
    | .Call f as ks _ => w.isNone && chkMade G sc c f as ks
    | _ => false)
  | none => false
theorem chkMade_ok {G : Gi} {sc : Scope} {c : Nat} {f : Expr} {as : List Expr} {ks : List Keyword} (h : chkMade G sc c f as ks = true) : ∃ x p m j p2, f = .Name x p ∧ as = [.Constant (.str m) j p2] ∧ ks = [] ∧ glB sc x = true ∧ (x, c) ∈ G.xns := by
  unfold chkMade at h
  split at h
  · rename_i x p
    rw [Bool.and_eq_true, Bool.and_eq_true] at h
    obtain ⟨⟨h1, h2⟩, h3⟩ := h
    split at h3
    · rename_i a
      split at h3
      · rename_i k j p2
        split at h3
        · rename_i m
          exact ⟨x, p, m, j, p2, rfl, rfl, List.isEmpty_iff.mp h3, h1, of_decide_eq_true h2⟩
        · cases h3
      · cases h3
    · cases h3
  · cases h
theorem chkRse_ok {G : Gi} {sc : Scope} {c : Nat} {v w : Option Expr} (h : chkRse G sc c v w = true) : ∃ x p m j p2 p3, v = some (.Call (.Name x p) [.Constant (.str m) j p2] [] p3) ∧ w = none ∧ glB sc x = true ∧ (x, c) ∈ G.xns := by
  unfold chkRse at h
  split at h
  · rename_i e
    split at h
    · rename_i f as ks p3
      rw [Bool.and_eq_true] at h
      obtain ⟨x, p, m, j, p2, rfl, rfl, rfl, h1, h2⟩ := chkMade_ok h.2
      exact ⟨x, p, m, j, p2, p3, rfl, Option.isNone_iff_eq_none.mp h.1, h1, h2⟩
    · cases h
  · cases h
def chkWc (sc : Scope) (n : Str) (f : Expr) (as : List Expr) (ks : List Keyword) : Bool :=
  match f with
  | .Name w _ => decide (w = "_law_word") && glB sc w && (match as with
    | [a] => (match a with
      | .Name m _ => decide (n = m) && ks.isEmpty
      | _ => false)
    | _ => false)
  | _ => false
theorem chkWc_ok {sc : Scope} {n : Str} {f : Expr} {as : List Expr} {ks : List Keyword} (h : chkWc sc n f as ks = true) : ∃ p p2, f = .Name "_law_word" p ∧ as = [.Name n p2] ∧ ks = [] ∧ glB sc "_law_word" = true := by
  unfold chkWc at h
  split at h
  · rename_i w p
    rw [Bool.and_eq_true, Bool.and_eq_true] at h
    obtain ⟨⟨h1, h2⟩, h3⟩ := h
    split at h3
    · split at h3
      · rename_i m p2
        rw [Bool.and_eq_true] at h3
        have e1 := of_decide_eq_true h1
        have e2 := of_decide_eq_true h3.1
        subst e1; subst e2
        exact ⟨p, p2, rfl, rfl, List.isEmpty_iff.mp h3.2, h2⟩
      · cases h3
    · cases h3
  · cases h
def chkSu (sc : Scope) (n : Str) (st : Stmt) : Bool :=
  match st with
  | .Return v _ => (match v with
    | some e => (match e with
      | .Call f as ks _ => chkWc sc n f as ks
      | _ => false)
    | none => false)
  | _ => false
theorem chkSu_ok {sc : Scope} {n : Str} {st : Stmt} (h : chkSu sc n st = true) : ∃ p p2 p3 p4, st = .Return (some (.Call (.Name "_law_word" p) [.Name n p2] [] p3)) p4 ∧ glB sc "_law_word" = true := by
  unfold chkSu at h
  split at h
  · rename_i v p4
    split at h
    · split at h
      · rename_i f as ks p3
        obtain ⟨p, p2, rfl, rfl, rfl, h2⟩ := chkWc_ok h
        exact ⟨p, p2, p3, p4, rfl, h2⟩
      · cases h
    · cases h
  · cases h
def chkHd (G : Gi) (N : List Str) (sc : Scope) (i : Nat) (hd : ExceptHandler) : Bool :=
  match hd with
  | .ExceptHandler t n b _ => (match t with
    | some e => (match e with
      | .Name x _ => decide (x = "PaneError") && glB sc x && (match n with
        | some n => decide (N[i]? = some n) && decide (sc.names.lookup n = some .local) && nameOk n && G.word && (match b with
          | [st] => chkSu sc n st
          | _ => false)
        | none => false)
      | _ => false)
    | none => false)
theorem chkHd_ok {G : Gi} {N : List Str} {sc : Scope} {i : Nat} {hd : ExceptHandler} (h : chkHd G N sc i hd = true) : ∃ p1 n p2 p3 p4 p5 p6, hd = .ExceptHandler (some (.Name "PaneError" p1)) (some n) [.Return (some (.Call (.Name "_law_word" p2) [.Name n p3] [] p4)) p5] p6 ∧
    glB sc "PaneError" = true ∧ glB sc "_law_word" = true ∧ N[i]? = some n ∧ sc.names.lookup n = some .local ∧ nameOk n = true ∧ G.word = true := by
  unfold chkHd at h
  obtain ⟨t, n, b, p6⟩ := hd
  simp only at h
  split at h
  · split at h
    · rename_i x p1
      rw [Bool.and_eq_true, Bool.and_eq_true] at h
      obtain ⟨⟨h1, h2⟩, h3⟩ := h
      have e1 := of_decide_eq_true h1
      subst e1
      split at h3
      · rename_i n
        simp only [Bool.and_eq_true] at h3
        obtain ⟨⟨⟨⟨g1, g2⟩, g3⟩, g4⟩, g5⟩ := h3
        split at g5
        · obtain ⟨p2, p3, p4, p5, rfl, g6⟩ := chkSu_ok g5
          exact ⟨p1, n, p2, p3, p4, p5, p6, rfl, h2, g6, of_decide_eq_true g1, of_decide_eq_true g2, g3, g4⟩
        · cases g5
      · cases h3
    · cases h
  · cases h
def chkTry (G : Gi) (N : List Str) (sc : Scope) (i : Nat) (hs : List ExceptHandler) (oe fb : List Stmt) : Bool :=
  oe.isEmpty && fb.isEmpty && (match hs with
    | [hd] => chkHd G N sc i hd
    | _ => false)
theorem chkTry_ok {G : Gi} {N : List Str} {sc : Scope} {i : Nat} {hs : List ExceptHandler} {oe fb : List Stmt} (h : chkTry G N sc i hs oe fb = true) : oe = [] ∧ fb = [] ∧ ∃ hd, hs = [hd] ∧ chkHd G N sc i hd = true := by
  unfold chkTry at h
  rw [Bool.and_eq_true, Bool.and_eq_true] at h
  obtain ⟨⟨h1, h2⟩, h3⟩ := h
  refine ⟨List.isEmpty_iff.mp h1, List.isEmpty_iff.mp h2, ?_⟩
  split at h3
  · exact ⟨_, rfl, h3⟩
  · cases h3
mutual
def chkS (G : Gi) (N : List Str) (sc : Scope) : Sm → Stmt → Bool
  | .asg t x, .Assign [tg] v _ => chkE G N sc x v && ((chkT N sc (fun _ => true) t tg && plainAsg sc tg v) || (match t with | .nm i => compAsg N sc i tg v | _ => false))
  | .own i x, .Assign [tg] v _ => chkE G N sc x v && ((chkT N sc (fun _ => true) (.nm i) tg && plainAsg sc tg v) || compAsg N sc i tg v)
  | .par i j x y, .Assign [tg] v _ => chkPar G N sc i j x y tg v
  | .app i x, .Expr (.Call (.Attribute (.Name n _) m ap) [a] [] cp) _ => decide (m = "append") && decide (N[i]? = some n) && visB sc n && nameOk n && chkE G N sc x a && notStar a && (ap.endLine == cp.line)
  | .ext i x, .Expr (.Call (.Attribute (.Name n _) m ap) [a] [] cp) _ => decide (m = "extend") && decide (N[i]? = some n) && visB sc n && nameOk n && chkE G N sc x a && notStar a && (ap.endLine == cp.line)
  | .put i k x, .Assign [tg] v _ => chkPut G N sc i k x tg v
  | .ifs c a b, .If c' p q _ => chkE G N sc c c' && chkB G N sc a p && chkB G N sc b q
  | .for_ t it b, .For tg e p [] _ => chkI G N sc it tg e && chkT N sc (fun _ => true) t tg && notSet e && chkB G N sc b p
  | .whl c b, .While c' p [] _ => chkE G N sc c c' && chkB G N sc b p
  | .ret x, .Return (some v) _ => chkE G N sc x v
  | .rtl i, .Return (some (.Name n _)) _ => decide (N[i]? = some n) && visB sc n && nameOk n
  | .pas, .Pass _ => true
  | .nev, _ => true
  | .exp x, .Expr (.Call (.Name n p) as ks cp) _ => chkE G N sc x (.Call (.Name n p) as ks cp)
  | .mnew i, .Assign [tg] v _ => chkMnew N sc i tg v
  | .mput i ks x, .Assign [tg] v _ => chkMput G N sc i ks x tg v
  | .rtm i, .Return (some (.Name n _)) _ => decide (N[i]? = some n) && visB sc n && nameOk n
  | .mas i x, .Assign [tg] v _ => chkE G N sc x v && chkT N sc (fun _ => true) (.nm i) tg && plainAsg sc tg v
  | .rse c, .Raise v w _ => chkRse G sc c v w
  | .tryw i b, .Try body hs oe fb _ => chkB G N sc b body && chkTry G N sc i hs oe fb
  | _, _ => false
def chkB (G : Gi) (N : List Str) (sc : Scope) : Sms → List Stmt → Bool
  | .nil, [] => true
  | .cons (.frz _) ss, sts => chkB G N sc ss sts
  | .cons s ss, st :: sts => chkS G N sc s st && chkB G N sc ss sts
  | _, _ => false
end
section
variable {X : Cx} {CX : CXT} {Ex0 : XK} {cl : Nat → Value} {C : Nat → List R → Rs R} {G : Gi}
theorem swaps_no {e : Expr} (h : isComp e = false) (t : Option Expr) (l : Nat) (env : Env) : swapsWith e t l env = pure false := by
  cases e <;> first | rfl | cases h
theorem swaps_sole {e t : Expr} {l : Nat} {env : Env} (h : isComp e = false) : swapsWithSole [t] e l env = pure false := swaps_no h (some t) l env
theorem swaps_cell {e : Expr} {x : Str} {p : Pos} {l : Nat} {env : Env} (h : ¬ env.scope.names.lookup x = some .local) : swapsWith e (some (.Name x p)) l env = pure false := by
  have k : (env.kindOf x == some .local) = false := beq_eq_false_iff_ne.mpr h
  cases e <;> first | rfl | (unfold swapsWith; simp only [k, Bool.and_false, Bool.false_and]; done) | (unfold swapsWith; simp only [k, Bool.and_false, Bool.false_and]; rfl)
theorem swapped_some {x y : Str} {px py p p2 : Pos} {a b : Expr} {k k2 : Nat} {env : Env} (hk : env.scope.kind = .function) (hx : env.scope.names.lookup x = some .local) (hy : env.scope.names.lookup y = some .local) (hne : x ≠ y) (hl : (px.line == py.line) = true) (ha : notStar a = true) (hb : notStar b = true)
    (hf : (foldedForSure 8 a && foldedForSure 8 b) = false) (hc : (constantsAlone 8 a && constantsAlone 8 b) = false) : swappedStores [.Tuple [.Name x px, .Name y py] k p] (.Tuple [a, b] k2 p2) env = pure (some [x, y]) := by
  have kx : (env.kindOf x == some .local) = true := beq_iff_eq.mpr hx
  have ky : (env.kindOf y == some .local) = true := beq_iff_eq.mpr hy
  have bk : (env.blockKind != .function) = false := by unfold Env.blockKind; rw [hk]; rfl
  have e1 : (px.line == (Option.map (fun x => x.pos.line) [Expr.Name x px, Expr.Name y py].head?).getD 0) = true := beq_self_eq_true px.line
  have hl' : px.line = py.line := beq_iff_eq.mp hl
  have e2 : (py.line == (Option.map (fun x => x.pos.line) [Expr.Name x px, Expr.Name y py].head?).getD 0) = true := by
    show (py.line == px.line) = true
    rw [hl']
    exact beq_self_eq_true _
  have ed : ([x, y] : List Str).eraseDups = [x, y] := by
    rw [List.eraseDups_cons]
    have : (y == x) = false := beq_eq_false_iff_ne.mpr (Ne.symm hne)
    simp [this, List.filter]
    rw [List.eraseDups_cons]
    rfl
  unfold swappedStores
  dsimp only
  rw [bk, if_neg (by exact Bool.false_ne_true)]
  split
  · rename_i h
    exfalso
    obtain ⟨z, hz, q⟩ := List.any_eq_true.mp h
    rcases List.mem_cons.mp hz with e | hz
    · subst e; cases z <;> first | (cases ha; done) | (cases q; done)
    · rcases List.mem_cons.mp hz with e | hz
      · subst e; cases z <;> first | (cases hb; done) | (cases q; done)
      · cases hz
  simp only [List.filterMap_cons, List.filterMap_nil, kx, ky, e1, e2, Bool.and_self, if_true, ed]
  have af : [a, b].all (foldedForSure 8) = false := by simpa using hf
  have ac : [a, b].all (constantsAlone 8) = false := by simpa using hc
  rw [af, ac]
  rfl
theorem filt_ne {α β : Type} {f : α → Option β} : ∀ {ts : List α}, (∃ t ∈ ts, f t = none) → (ts.filterMap f).length ≠ ts.length
  | t :: ts, h => by
    have hle := List.length_filterMap_le f ts
    rw [List.filterMap_cons]
    cases e : f t with
    | none => simp only [List.length_cons]; omega
    | some y =>
      obtain ⟨u, hu, eu⟩ := h
      have : ∃ t ∈ ts, f t = none := by
        rcases List.mem_cons.mp hu with q | q
        · rw [q, e] at eu; cases eu
        · exact ⟨u, q, eu⟩
      have := filt_ne this
      simp only [List.length_cons]; omega
theorem swapped_none {ts vs : List Expr} {k k2 : Nat} {p p2 : Pos} {env : Env} (h : ts.any (nonLoc env.scope) = true) : swappedStores [.Tuple ts k p] (.Tuple vs k2 p2) env = pure none := by
  unfold swappedStores
  dsimp only
  have hn := filt_ne (ts := ts) (f := fun x => match x with
    | .Name id pos => if (env.kindOf id == some .local && pos.line == (ts.head?.map (·.pos.line)).getD 0) = true then some id else none
    | _ => none) (by
      obtain ⟨t, ht, q⟩ := List.any_eq_true.mp h
      refine ⟨t, ht, ?_⟩
      cases t with
      | Name x px =>
        simp only [nonLoc, Bool.not_eq_true', decide_eq_false_iff_not] at q
        have kx : (env.kindOf x == some .local) = false := beq_eq_false_iff_ne.mpr q
        simp [kx]
      | _ => rfl)
  have hb : ((ts.filterMap fun x => match x with
    | .Name id pos => if (env.kindOf id == some .local && pos.line == (ts.head?.map (·.pos.line)).getD 0) = true then some id else none
    | _ => none).length != ts.length) = true := by simpa using hn
  split
  · rfl
  · split
    · rfl
    · refine if_pos ?_
      rw [Bool.or_eq_true]
      exact .inl hb
theorem plain_ps {tg v : Expr} {te : TE} {gt : TG} {pos : Pos} (h : plainAsg X.env.scope tg v = true) (he : PE X v te) (hg : PG X tg gt) : PS X (.Assign [tg] v pos) (tAsg te gt) := by
  unfold plainAsg at h
  rw [Bool.and_eq_true] at h
  refine ps_asg he hg ?_ ?_ ?_
  · show swapsWith v (some tg) pos.line X.env = pure false
    cases tg with
    | Name x p =>
      have h1 := h.1
      simp only [Bool.or_eq_true, Bool.not_eq_true', decide_eq_false_iff_not] at h1
      rcases h1 with q | q
      · exact swaps_no q _ _ _
      · exact swaps_cell q
    | Tuple es k p => cases v <;> rfl
    | _ => cases h.1
  · cases tg with
    | Name x p => rfl
    | Tuple es k p =>
      cases v with
      | Tuple vs k2 p2 => exact swapped_none h.2
      | _ => rfl
    | _ => cases h.1
  · cases tg with
    | Name x p => rfl
    | Tuple es k p => rfl
    | _ => cases h.1
theorem comp_ps {i : Nat} {tg v : Expr} {x : Ex} {pos : Pos} (g : GOk X CX Ex0 cl C G) (hk : X.env.scope.kind = .function) (h : compAsg X.N X.env.scope i tg v = true) (hx : chkE G X.N X.env.scope x v = true) :
    PS X (.Assign [tg] v pos) (tAsg (tOf X.K (fun c H' => Ex0 (cl c) none H') (ev C x)) (gName i)) := by
  cases tg with
  | Name y py =>
    cases v with
    | ListComp elt gs scope p =>
      simp only [compAsg, Bool.and_eq_true, Bool.not_eq_true'] at h
      have hy := of_decide_eq_true h.1.1.1
      have hyl := of_decide_eq_true h.1.1.2
      cases x with
      | lc t it e =>
        match gs, hx with
        | [⟨tg, iter, [], k⟩], hx =>
          simp only [chkE, Bool.and_eq_true] at hx
          have ek : k = 0 := of_decide_eq_true hx.1.1.1.1.1
          subst ek
          refine q_setLc g.calm g.nd hy hyl (sw_true hk hyl h.1.2 h.2) (snd_i it g hx.1.1.1.1.2) (blkOk_by hx.1.1.1.2) (ownOf_own _ _) (fun s H A cl2 fp => ?_) (fun s H A cl2 fp => ?_) (fold_of hx.2 _)
          · exact pg_chkT (X := X.blk s H scope (compEnvC scope cl2 A X.env) fp) g.calm g.nd (fun x q => q) hx.1.1.2
          · exact snd_e e (g.blk s H scope (compEnvC scope cl2 A X.env) fp) hx.1.2
        | [], hx => cases hx
        | ⟨_, _, _ :: _, _⟩ :: _, hx => simp [chkE] at hx
        | _ :: _ :: _, hx => simp [chkE] at hx
      | lcf t it c e =>
        match gs, hx with
        | [⟨tg, iter, [cnd], k⟩], hx =>
          simp only [chkE, Bool.and_eq_true] at hx
          have ek : k = 0 := of_decide_eq_true hx.1.1.1.1.1.1
          subst ek
          refine q_setLcf g.calm g.nd hy hyl (sw_true hk hyl h.1.2 h.2) (snd_i it g hx.1.1.1.1.1.2) (blkOk_by hx.1.1.1.1.2) (ownOf_own _ _) (fun s H A cl2 fp => ?_) (fun s H A cl2 fp => ?_) (fun s H A cl2 fp => ?_) (fold_of hx.2 _)
          · exact pg_chkT (X := X.blk s H scope (compEnvC scope cl2 A X.env) fp) g.calm g.nd (fun x q => q) hx.1.1.1.2
          · exact snd_t c (g.blk s H scope (compEnvC scope cl2 A X.env) fp) hx.1.1.2
          · exact snd_e e (g.blk s H scope (compEnvC scope cl2 A X.env) fp) hx.1.2
        | [], hx => cases hx
        | ⟨_, _, [], _⟩ :: _, hx => simp [chkE] at hx
        | ⟨_, _, _ :: _ :: _, _⟩ :: _, hx => simp [chkE] at hx
        | _ :: _ :: _, hx => simp [chkE] at hx
      | _ => cases hx
    | _ => cases h
  | _ => cases h
/-- a class that a def raises -/
def XcT (K : PySem.W.Frag) (mg : Str → Option Value) (cl : Nat → Value) (x : Str) (c : Nat) : Prop :=
  ∃ Da : Addr, mg x = some (.ref Da) ∧ cl c = .ref Da ∧ PySem.W.excIn K Da [.type "ValueError", .type "Exception", .type "BaseException", .type "object"] "ValueError.__new__" = true ∧ PySem.W.keepIn K (.ref Da) = true ∧ PySem.W.subIn K (.ref Da) (.type "BaseException") = some true ∧ PySem.W.typeIn K (.ref Da) = some (.type "type")
/-- the law's own def of words, and the classes of which it tells -/
def WordT (K : PySem.W.Frag) (mg : Str → Option Value) (cl : Nat → Value) : Prop :=
  ∃ (cs : Nat → Addr) (Pa f : Addr) (fd : FuncData) (st : Stmt) (q : Nat → Pos), (∀ c, c < 9 → cl c = .ref (cs c) ∧ Xc K mg cs c ∧ PySem.W.exmOne K (.ref (cs c)) (.ref Pa) = some true) ∧ mg "PaneError" = some (.ref Pa) ∧
    Fun K "_law_word" "_law_word" st f fd ∧ mg "_law_word" = some (.ref f) ∧ Binds K fd ["kept"] [] ∧ defBody st = wordB q ∧ defScope st = wordSc ∧
    ((q 68).endLine == (q 73).line) = true ∧ ((q 76).endLine == (q 78).line) = true ∧ ((q 92).endLine == (q 94).line) = true
/-- what a def's body knows besides -/
structure BOk (X : Cx) (CX : CXT) (Ex0 : XK) (cl : Nat → Value) (C : Nat → List R → Rs R) (G : Gi) : Prop where
  g : GOk X CX Ex0 cl C G
  fn : ∀ x, X.fn x = true
  own : PassesOwn (model X.prog X.w) X.A X.env X.xe
  kind : X.env.scope.kind = .function
  cx : CX = L2N.CX X.prog X.w
  tk : L2N.Takes X (fun cls d _ H => Ex0 cls d H)
  stk : X.stack = X.env :: X.outer
  frm : X.env.frame = some X.env.locals
  xc : ∀ x c, (x, c) ∈ G.xns → XcT X.K X.mg cl x c
  wd : G.word = true → WordT X.K X.mg cl ∧ L2H.RoomH 1 X.A
/-- the wish of a try's body, for all slots -/
def ExW (N : List Str) (W : WX) : XK := fun cls d H => ∀ σ : L2.St, σ.length = N.length → W cls d σ H
theorem BOk.tr (b : BOk X CX Ex0 cl C G) {W : WX} {pn : List (Addr × Obj)} {xe : Value → Shared → Prop} (tk : L2N.Takes (X.tr pn xe) W) (ow : PassesOwn (model X.prog X.w) X.A X.env xe) : BOk (X.tr pn xe) CX (ExW X.N W) cl C G := by
  refine ⟨⟨b.g.calm, b.g.nd, b.g.hu, b.g.blt, b.g.cst, b.g.dct, b.g.fn, ?_, b.g.p0⟩, b.fn, ow, b.kind, b.cx, ?_, b.stk, b.frm, b.xc, b.wd⟩
  · intro pins σ H s e s' I c
    rw [b.cx] at c
    exact tk e s' (L2N.XE.of_call (X := X.tr pn xe) I (fun cls d H' h => h σ I.len) c)
  · rintro u s' ⟨a, B, sI, pins, σ, H, cls, d, e, I, nb, up, sky, na, os, ag, w⟩
    exact tk u s' ⟨a, B, sI, pins, σ, H, cls, d, e, I, nb, up, sky, na, os, ag, w σ I.len⟩
theorem s_rse (b : BOk X CX Ex0 cl C G) {c : Nat} {x m : Str} {j : Nat} {p1 p2 p3 p4 : Pos} (hg : glB X.env.scope x = true) (h : (x, c) ∈ G.xns) :
    PS X (.Raise (some (.Call (.Name x p1) [.Constant (.str m) j p2] [] p3)) none p4) (tOfS X.K (fun c H' => Ex0 (cl c) none H') (x1 C (.rse c))) := by
  obtain ⟨Da, hm, hcl, hx, hk, hb, ht⟩ := b.xc x c h
  refine ps_of (L2N.ps_raise b.g.calm b.tk (L2N.pmk_own PySem.F.excBase_ValueError hx hm hk (raises_own hb ht) (glB_of hg).1 (glB_of hg).2.1)) fun D σ H h => ?_
  obtain ⟨ρ, F, B, F0, R, h⟩ := h
  rw [x1.eq_13] at h
  have h : ∀ F' H', Grow F0 B F' H' → Ex0 (cl c) none H' := h
  have := h F H R.grow
  rw [hcl] at this
  exact this
theorem s_tryw (b : BOk X CX Ex0 cl C G) {i : Nat} {bd : Sms} {body : List Stmt} {n : Str} {p1 p2 p3 p4 p5 p6 p7 : Pos} (hw : G.word = true) (hgP : glB X.env.scope "PaneError" = true) (hgW : glB X.env.scope "_law_word" = true) (hi : X.N[i]? = some n) (hl : X.env.scope.names.lookup n = some .local) (hn : nameOk n = true)
    (hb : ∀ (W : WX) (pn : List (Addr × Obj)) (xe : Value → Shared → Prop), BOk (X.tr pn xe) CX (ExW X.N W) cl C G → PSs (X.tr pn xe) body (tOfS X.K (fun c H' => ExW X.N W (cl c) none H') (xs C bd))) :
    PS X (.Try body [.ExceptHandler (some (.Name "PaneError" p1)) (some n) [.Return (some (.Call (.Name "_law_word" p2) [.Name n p3] [] p4)) p5] p6] [] [] p7) (tOfS X.K (fun c H' => Ex0 (cl c) none H') (x1 C (.tryw i bd))) := by
  obtain ⟨⟨cs, Pa, f, fd, st, q, ht, hmP, hF, hmW, hbd, hst, hsc, q1, q2, q3⟩, hr⟩ := b.wd hw
  unfold nameOk at hn
  rw [Bool.and_eq_true] at hn
  have hd : (n == ("__debug__" : Str)) = false := by simpa using hn.1
  have hcd : (n == ("__classdict__" : Str)) = false := by simpa using hn.2
  refine ps_of (L2N.ps_try_as (c := .ref Pa) b.stk b.frm b.g.nd hi hl ⟨(glB_of hgP).1, by decide, .inl hmP⟩ b.tk
    (tb := fun W => tOfS X.K (fun c H' => ExW X.N W (cl c) none H') (xs C bd))
    (ts := fun a cls d => fun D σ H => ∃ c, c < 9 ∧ cls = .ref (cs c) ∧ d = none ∧ σ[i]? = some (some (.ref a)) ∧ ∀ H', (∀ b o, H b = some o → H' b = some o) → ∀ v, xwd[c]? = some v → D.rt (.str v) H')
    (fun W pn xe tk ow => hb W pn xe (b.tr tk ow)) (fun a oe cls d pn hz hf => ?_)) fun D σ H h => ?_
  · refine ⟨fun pins s σ H D I h => ?_⟩
    obtain ⟨c, hc, rfl, rfl, hs, h⟩ := h
    have hot : L2H.Hot1 (X.suite a ((a, oe) :: pn)).A (a, oe) := ⟨rfl, by obtain ⟨fs, e⟩ := hf; exact ⟨fs, e, hz.2.2 fs e⟩⟩
    exact (pss_one (ps_ret (pe_word (Y := X.suite a ((a, oe) :: pn)) (List.mem_cons_self ..) hot hz.zc hF hmW hbd hst hsc ⟨hr.dp, hr.un⟩ (ht c hc).2.1 (glB_of hgW).1 (pe_var (X := X.suite a ((a, oe) :: pn)) hi (.inl hl) hd hcd) q1 q2 q3))).run pins s σ H D I ⟨hs, h⟩
  · obtain ⟨ρ, F, B, F0, R, h⟩ := h
    rw [x1.eq_21] at h
    refine ⟨ρ, F, B, F0, R, ?_⟩
    cases e : xs C bd ρ with
    | bad => rw [e] at h; exact h
    | ok o => rw [e] at h; cases o <;> exact h
    | err c =>
      rw [e] at h
      have h : AnsS X.K (fun c H' => Ex0 (cl c) none H') (match xwd[c]? with | some w => Rs.ok (Out.rt (.d (.str w))) | none => .bad) F0 B D := h
      cases ew : xwd[c]? with
      | none => rw [ew] at h; exact h.elim
      | some w =>
        rw [ew] at h
        have h : ∀ v F H, Grow F0 B F H → Den X.K B F H v (.d (.str w)) → D.rt v H := h
        have hc : c < 9 := (List.getElem?_eq_some_iff.mp ew).1
        have hso : PyData.strOk w = true := by
          have : ∀ w ∈ xwd, PyData.strOk w = true := by decide +kernel
          exact this w (List.mem_of_getElem? ew)
        intro F' H' g σ' hσ
        obtain ⟨hcl, _, hex⟩ := ht c hc
        show wAs _ _ _ _ _ _ (cl c) none σ' H'
        rw [hcl]
        refine ⟨true, hex, fun _ a na => ?_, fun z => by cases z⟩
        refine ⟨c, hc, rfl, rfl, ?_, fun H'' sm v hv => ?_⟩
        · rw [List.getElem?_set_self]
          rw [hσ]
          exact (List.getElem?_eq_some_iff.mp hi).1
        · have : v = w := by rw [ew] at hv; cases hv; rfl
          subst this
          exact h _ F' H'' ⟨g.fr, g.hp.trans sm, g.sub.trans sm, g.old⟩ (.str v hso)
end
theorem par_ps {X : Cx} {CX : CXT} {Ex0 : XK} {cl : Nat → Value} {C : Nat → List R → Rs R} {G : Gi} (b : BOk X CX Ex0 cl C G) {i j : Nat} {x y : Ex} {tg v : Expr} {pos : Pos} (h : chkPar G X.N X.env.scope i j x y tg v = true) :
    PS X (.Assign [tg] v pos) (tOfS X.K (fun c H' => Ex0 (cl c) none H') (x1 C (.par i j x y))) := by
  unfold chkPar at h
  split at h
  · simp only [Bool.and_eq_true, Bool.not_eq_true'] at h
    obtain ⟨⟨⟨⟨⟨⟨⟨⟨⟨⟨⟨h1, h2⟩, h3⟩, h4⟩, h5⟩, h6⟩, h7⟩, h8⟩, h9⟩, h10⟩, h11⟩, h12⟩ := h
    rename_i a pa c pb _ _ l r _ _
    have hne : a ≠ c := fun e => by
      subst e
      exact of_decide_eq_true h7 (nodup_ix b.g.nd (of_decide_eq_true h5) (of_decide_eq_true h6))
    refine s_par2 (ps_par b.g.calm b.g.nd (of_decide_eq_true h5) (of_decide_eq_true h6) (of_decide_eq_true h7) (of_decide_eq_true h8) (of_decide_eq_true h9)
      (q_cons (snd_e x b.g h1) (q_cons (snd_e y b.g h2) q_nil (star_of h4 _ _)) (star_of h3 _ _)) (swapped_some b.kind (of_decide_eq_true h8) (of_decide_eq_true h9) hne h10 h3 h4 h11 h12) ?_)
    rfl
  · cases h
theorem put_ps {X : Cx} {CX : CXT} {Ex0 : XK} {cl : Nat → Value} {C : Nat → List R → Rs R} {G : Gi} (b : BOk X CX Ex0 cl C G) {i : Nat} {k x : Ex} {tg v : Expr} {pos : Pos} (h : chkPut G X.N X.env.scope i k x tg v = true) :
    PS X (.Assign [tg] v pos) (tOfS X.K (fun c H' => Ex0 (cl c) none H') (x1 C (.put i k x))) := by
  unfold chkPut at h
  split at h
  · rename_i j _
    simp only [Bool.and_eq_true, nameOk, Bool.not_eq_true'] at h
    obtain ⟨⟨⟨⟨⟨⟨h1, h2⟩, h3⟩, h4⟩, h5⟩, h6⟩, h7⟩ := h
    refine s_put (ps_asg (snd_e x b.g h6) (pg_sub (pe_var (of_decide_eq_true h1) (visB_of h2) (by simpa using h3.1) (by simpa using h3.2)) (snd_e k b.g h4) set_list ?_) (swaps_sole h7) (by cases v <;> rfl) rfl)
    intro v2
    cases j <;> first | rfl | cases h5
  · cases h
theorem mput_ps {X : Cx} {CX : CXT} {Ex0 : XK} {cl : Nat → Value} {C : Nat → List R → Rs R} {G : Gi} (b : BOk X CX Ex0 cl C G) {i : Nat} {ks : Exs} {x : Ex} {tg v : Expr} {pos : Pos} (h : chkMput G X.N X.env.scope i ks x tg v = true) :
    PS X (.Assign [tg] v pos) (tOfS X.K (fun c H' => Ex0 (cl c) none H') (x1 C (.mput i ks x))) := by
  unfold chkMput at h
  split at h
  · simp only [Bool.and_eq_true, nameOk, Bool.not_eq_true'] at h
    obtain ⟨⟨⟨⟨⟨h1, h2⟩, h3⟩, h4⟩, h5⟩, h6⟩ := h
    exact s_mput (by have := b.g.hu; omega) (pe_var (of_decide_eq_true h1) (visB_of h2) (by simpa using h3.1) (by simpa using h3.2)) (snd_es ks b.g h4).1 (snd_e x b.g h5) (swaps_no h6 _ _ _)
  · cases h
theorem mnew_ps {X : Cx} {CX : CXT} {Ex0 : XK} {cl : Nat → Value} {C : Nat → List R → Rs R} {G : Gi} (b : BOk X CX Ex0 cl C G) {i : Nat} {tg v : Expr} {pos : Pos} (h : chkMnew X.N X.env.scope i tg v = true) :
    PS X (.Assign [tg] v pos) (tOfS X.K (fun c H' => Ex0 (cl c) none H') (x1 C (.mnew i))) := by
  unfold chkMnew at h
  split at h
  · rw [Bool.and_eq_true] at h
    exact s_mnew (plain_ps h.2 pe_dnewT (pg_chkT (t := .nm i) b.g.calm b.g.nd (fun x _ => b.fn x) h.1))
  · cases h
mutual
theorem snd_s {CX : CXT} {cl : Nat → Value} {C : Nat → List R → Rs R} {G : Gi} {X : Cx} {Ex0 : XK} (b : BOk X CX Ex0 cl C G) : ∀ (s : Sm) {st : Stmt}, chkS G X.N X.env.scope s st = true → PS X st (tOfS X.K (fun c H' => Ex0 (cl c) none H') (x1 C s))
  | .asg t x, st, h => by
    cases st with
    | Assign ts v pos =>
      match ts, h with
      | [tg], h =>
        simp only [chkS, Bool.and_eq_true, Bool.or_eq_true] at h
        have he := snd_e x b.g h.1
        rcases h.2 with q | q
        · exact s_asg (plain_ps q.2 he (pg_chkT b.g.calm b.g.nd (fun x _ => b.fn x) q.1)) fun _ _ _ _ q => q
        · cases t with
          | nm i => exact s_asg (t := .nm i) (comp_ps b.g b.kind q h.1) fun _ _ _ _ q => q
          | tp is => cases q
      | [], h => cases h
      | _ :: _ :: _, h => cases h
    | _ => cases h
  | .own i x, st, h => by
    cases st with
    | Assign ts v pos =>
      match ts, h with
      | [tg], h =>
        simp only [chkS, Bool.and_eq_true, Bool.or_eq_true] at h
        have he := snd_e x b.g h.1
        rcases h.2 with q | q
        · exact s_own (plain_ps q.2 he (pg_chkT (t := .nm i) b.g.calm b.g.nd (fun x _ => b.fn x) q.1))
        · exact s_own (comp_ps b.g b.kind q h.1)
      | [], h => cases h
      | _ :: _ :: _, h => cases h
    | _ => cases h
  | .par i j x y, st, h => by
    cases st with
    | Assign ts v pos =>
      match ts, h with
      | [tg], h => exact par_ps b (by simpa only [chkS] using h)
      | [], h => cases h
      | _ :: _ :: _, h => cases h
    | _ => cases h
  | .app i x, st, h => by
    cases st with
    | Expr e pos =>
      cases e with
      | Call f as ks cp =>
        cases f with
        | Attribute o m ap =>
          cases o with
          | Name n p =>
            match as, ks, h with
            | [a], [], h =>
              simp only [chkS, Bool.and_eq_true, nameOk] at h
              obtain ⟨⟨⟨⟨⟨⟨h1, h2⟩, h3⟩, h4⟩, h5⟩, h6⟩, h7⟩ := h
              have em : m = "append" := of_decide_eq_true h1
              subst em
              refine s_app (ps_expr (pe_bm PySem.F.plainAttrs_list PySem.F.slot_list_append PySem.F.type_list_append mt_append (pe_var (of_decide_eq_true h2) (visB_of h3) (by simpa using h4.1) (by simpa using h4.2)) (pa_cons (snd_e x b.g h5) pa_nil (star_of h6 _ _)) rfl ?_ h7 (star_of h6 _ _) rfl) rfl)
              rw [star_of h6]
              rfl
            | [], _, h => cases h
            | _ :: _ :: _, _, h => cases h
            | [_], _ :: _, h => cases h
          | _ => cases h
        | _ => cases h
      | _ => cases h
    | _ => cases h
  | .ext i x, st, h => by
    cases st with
    | Expr e pos =>
      cases e with
      | Call f as ks cp =>
        cases f with
        | Attribute o m ap =>
          cases o with
          | Name n p =>
            match as, ks, h with
            | [a], [], h =>
              simp only [chkS, Bool.and_eq_true, nameOk] at h
              obtain ⟨⟨⟨⟨⟨⟨h1, h2⟩, h3⟩, h4⟩, h5⟩, h6⟩, h7⟩ := h
              have em : m = "extend" := of_decide_eq_true h1
              subst em
              refine s_ext (ps_expr (pe_bm PySem.F.plainAttrs_list PySem.F.slot_list_extend PySem.F.type_list_extend mt_extend (pe_var (of_decide_eq_true h2) (visB_of h3) (by simpa using h4.1) (by simpa using h4.2)) (pa_cons (snd_e x b.g h5) pa_nil (star_of h6 _ _)) rfl ?_ h7 (star_of h6 _ _) rfl) rfl)
              rw [star_of h6]
              rfl
            | [], _, h => cases h
            | _ :: _ :: _, _, h => cases h
            | [_], _ :: _, h => cases h
          | _ => cases h
        | _ => cases h
      | _ => cases h
    | _ => cases h
  | .put i k x, st, h => by
    cases st with
    | Assign ts v pos =>
      match ts, h with
      | [tg], h => exact put_ps b (by simpa only [chkS] using h)
      | [], h => cases h
      | _ :: _ :: _, h => cases h
    | _ => cases h
  | .frz i, st, h => by cases st <;> cases h
  | .ifs c p q, st, h => by
    cases st with
    | If c' a a' pos =>
      simp only [chkS, Bool.and_eq_true] at h
      exact s_if (snd_t c b.g h.1.1) (snd_b b p h.1.2) (snd_b b q h.2)
    | _ => cases h
  | .for_ t it p, st, h => by
    cases st with
    | For tg e a o pos =>
      cases o with
      | nil =>
        simp only [chkS, Bool.and_eq_true] at h
        exact s_for b.own b.g.calm (snd_i it b.g h.1.1.1) (pg_chkT b.g.calm b.g.nd (fun x _ => b.fn x) h.1.1.2) (snd_b b p h.2) (fold_of h.1.2 _)
      | cons _ _ => cases h
    | _ => cases h
  | .whl c p, st, h => by
    cases st with
    | While c' a o pos =>
      cases o with
      | nil =>
        simp only [chkS, Bool.and_eq_true] at h
        exact s_while b.own (snd_t c b.g h.1) (snd_b b p h.2)
      | cons _ _ => cases h
    | _ => cases h
  | .ret x, st, h => by
    cases st with
    | Return v pos =>
      cases v with
      | some v => exact s_ret (snd_e x b.g (by simpa only [chkS] using h))
      | none => cases h
    | _ => cases h
  | .rtl i, st, h => by
    cases st with
    | Return v pos =>
      cases v with
      | some v =>
        cases v with
        | Name n p =>
          simp only [chkS, Bool.and_eq_true, nameOk] at h
          exact s_rtl (pe_var (of_decide_eq_true h.1.1) (visB_of h.1.2) (by simpa using h.2.1) (by simpa using h.2.2))
        | _ => cases h
      | none => cases h
    | _ => cases h
  | .rse c, st, h => by
    cases st with
    | Raise v w pos =>
      simp only [chkS] at h
      obtain ⟨x, p, m, j, p2, p3, rfl, rfl, h1, h2⟩ := chkRse_ok h
      exact s_rse b h1 h2
    | _ => cases h
  | .tryw i bd, st, h => by
    cases st with
    | Try body hs oe fb pos =>
      simp only [chkS, Bool.and_eq_true] at h
      obtain ⟨h1, h2⟩ := h
      obtain ⟨rfl, rfl, hd, rfl, h3⟩ := chkTry_ok h2
      obtain ⟨p1, n, p2, p3, p4, p5, p6, rfl, g1, g2, g3, g4, g5, g6⟩ := chkHd_ok h3
      exact s_tryw b g6 g1 g2 g3 g4 g5 (fun W pn xe b' => snd_b b' bd h1)
    | _ => cases h
  | .pas, st, h => by
    cases st with
    | Pass pos => exact s_pass
    | _ => cases h
  | .nev, st, h => by
    refine ps_of ps_never fun D σ H h => ?_
    obtain ⟨ρ, F, B, F0, R, h⟩ := h
    rw [x1.eq_15] at h
    exact h
  | .exp x, st, h => by
    cases st with
    | Expr e pos =>
      cases e with
      | Call f as ks cp =>
        cases f with
        | Name n p =>
          exact s_exp (a := .Name n p) (ps_expr (snd_e x b.g (by simpa only [chkS] using h)) rfl)
        | _ => cases h
      | _ => cases h
    | _ => cases h
  | .mnew i, st, h => by
    cases st with
    | Assign ts v pos =>
      match ts, h with
      | [tg], h => exact mnew_ps b (by simpa only [chkS] using h)
      | [], h => cases h
      | _ :: _ :: _, h => cases h
    | _ => cases h
  | .mput i ks x, st, h => by
    cases st with
    | Assign ts v pos =>
      match ts, h with
      | [tg], h => exact mput_ps b (by simpa only [chkS] using h)
      | [], h => cases h
      | _ :: _ :: _, h => cases h
    | _ => cases h
  | .rtm i, st, h => by
    cases st with
    | Return v pos =>
      cases v with
      | some v =>
        cases v with
        | Name n p =>
          simp only [chkS, Bool.and_eq_true, nameOk] at h
          exact s_rtm (pe_var (of_decide_eq_true h.1.1) (visB_of h.1.2) (by simpa using h.2.1) (by simpa using h.2.2))
        | _ => cases h
      | none => cases h
    | _ => cases h
  | .mas i x, st, h => by
    cases st with
    | Assign ts v pos =>
      match ts, h with
      | [tg], h =>
        simp only [chkS, Bool.and_eq_true] at h
        exact s_mas (plain_ps h.2 (snd_e x b.g h.1.1) (pg_chkT (t := .nm i) b.g.calm b.g.nd (fun x _ => b.fn x) h.1.2))
      | [], h => cases h
      | _ :: _ :: _, h => cases h
    | _ => cases h
termination_by s => sizeOf s
theorem snd_b {CX : CXT} {cl : Nat → Value} {C : Nat → List R → Rs R} {G : Gi} {X : Cx} {Ex0 : XK} (b : BOk X CX Ex0 cl C G) : ∀ (ss : Sms) {sts : List Stmt}, chkB G X.N X.env.scope ss sts = true → PSs X sts (tOfS X.K (fun c H' => Ex0 (cl c) none H') (xs C ss))
  | .nil, sts, h => by
    cases sts with
    | nil => exact b_nil
    | cons _ _ => cases h
  | .cons s ss, sts, h => by
    by_cases hf : ∃ i, s = .frz i
    · obtain ⟨i, rfl⟩ := hf
      exact b_frz (snd_b b ss (by simpa only [chkB] using h))
    · cases sts with
      | nil => cases s <;> first | cases h | exact absurd ⟨_, rfl⟩ hf
      | cons st sts =>
        have h' : chkS G X.N X.env.scope s st = true ∧ chkB G X.N X.env.scope ss sts = true := by
          cases s <;> first | exact absurd ⟨_, rfl⟩ hf | (simp only [chkB, Bool.and_eq_true] at h; exact h)
        exact b_cons (snd_s b s h'.1) (snd_b b ss h'.2)
termination_by ss => sizeOf ss
end
end PP

set_option Elab.async false
set_option linter.all false
set_option autoImplicit false
set_option maxRecDepth 100000
set_option maxHeartbeats 4000000
namespace PP
open PySem L2
/-! ### the program: its defs, one by one -/
structure Ent where
  ix : Nat
  nm : Str
  st : Stmt
  N : List Str
  ps : List Str
  fn : Fn
def fnsOf (es : List Ent) : List (Str × Nat × Nat) := es.map fun e => (e.nm, e.ix, e.ps.length)
theorem fnsOf_mem {es : List Ent} {x : Str} {n np : Nat} (h : (x, n, np) ∈ fnsOf es) : ∃ e, e ∈ es ∧ n = e.ix ∧ x = e.nm ∧ np = e.ps.length := by
  obtain ⟨e, he, q⟩ := List.mem_map.mp h
  cases q
  exact ⟨e, he, rfl, rfl, rfl⟩
def tabOf (es : List Ent) : Nat → Option Fn := fun i => (es.find? fun e => e.ix == i).map (·.fn)
theorem tabOf_mem : ∀ {es : List Ent} {e : Ent}, (es.map (·.ix)).Nodup → e ∈ es → tabOf es e.ix = some e.fn
  | [], _, _, h => by cases h
  | a :: es, e, nd, h => by
    unfold tabOf
    rw [List.find?_cons]
    rw [List.map_cons, List.nodup_cons] at nd
    rcases List.mem_cons.mp h with q | q
    · subst q; simp
    · have hne : (a.ix == e.ix) = false := beq_eq_false_iff_ne.mpr fun z => nd.1 (by rw [z]; exact List.mem_map.mpr ⟨e, q, rfl⟩)
      rw [hne]
      exact tabOf_mem nd.2 q
def fnScB (N ps : List Str) (sc : Scope) : Bool :=
  decide (sc.kind = .function) && !sc.isCoroutine && !sc.isGenerator && decide N.Nodup && decide (N.take ps.length = ps) && (ps.all fun x => locB sc x) && (sc.names.all fun y => decide (y.2 ≠ .free))
theorem fnSc_of {N ps : List Str} {sc : Scope} (h : fnScB N ps sc = true) : FnScope N ps sc := by
  unfold fnScB at h
  simp only [Bool.and_eq_true, Bool.not_eq_true', List.all_eq_true, decide_eq_true_eq] at h
  obtain ⟨⟨⟨⟨⟨⟨h1, h2⟩, h3⟩, h4⟩, h5⟩, h6⟩, h7⟩ := h
  exact ⟨h1, h2, h3, h4, h5, fun x hx => locB_of (h6 x hx), h7⟩
def entOk (G : Gi) (e : Ent) : Bool := chkB G e.N (defScope e.st) e.fn.body (defBody e.st) && decide (e.fn.n = e.N.length) && decide (e.fn.np = e.ps.length) && fnScB e.N e.ps (defScope e.st)
structure EntAt (K : PySem.W.Frag) (mg : Str → Option Value) (e : Ent) (f : Addr) (fd : FuncData) : Prop where
  fn : Fun K e.nm e.nm e.st f fd
  bd : Binds K fd e.ps []
  at_ : mg e.nm = some (.ref f)
/-- what the top has left -/
structure Top (K : PySem.W.Frag) (w : World) (mg : Str → Option Value) (cl : Nat → Value) (es : List Ent) (G : Gi) : Prop where
  fns : G.fns = fnsOf es
  nd : (es.map (·.ix)).Nodup
  ents : ∀ e, e ∈ es → ∃ f fd, EntAt K mg e f fd
  oks : ∀ e, e ∈ es → entOk G e = true
  blt : ∀ x, x ∈ bltNames → mg x = none
  cst : ∀ x d, G.csts.lookup x = some d → ∃ v u, mg x = some u ∧ RelV v u ∧ ∀ F, Dn K F v d
  dct : ∀ x kvs, G.dcts.lookup x = some kvs → ∃ d, mg x = some (.ref d) ∧ DctK K w d kvs
  xcs : ∀ x c, (x, c) ∈ G.xns → XcT K mg cl x c
  wrd : G.word = true → WordT K mg cl
theorem call_len {T : Nat → Option Fn} {n i : Nat} {fn : Fn} (h : T i = some fn) : ∀ rs r, call T n i rs = r → r ≠ .bad → rs.length = fn.np := by
  intro rs r e hb
  cases n with
  | zero => exact absurd e.symm hb
  | succ n =>
    unfold call at e
    simp only [h] at e
    by_cases q : rs.length = fn.np
    · exact q
    · rw [if_neg q] at e; exact absurd e.symm hb
theorem startS_get {n : Nat} {as : List R} {i : Nat} {r : R} (h : (startS n as)[i]? = some (some r)) : as[i]? = some r := by
  unfold startS at h
  by_cases hi : i < as.length
  · rw [List.getElem?_append_left (by simpa using hi), List.getElem?_map] at h
    cases q : as[i]? with
    | none => rw [q] at h; cases h
    | some x => rw [q] at h; cases h; rfl
  · rw [List.getElem?_append_right (by simpa using Nat.le_of_not_lt hi)] at h
    rw [List.getElem?_replicate] at h
    split at h <;> cases h
theorem start_get {N : List Str} {vs : List V} {i : Nat} {v : V} (h : vs[i]? = some v) : (start N vs)[i]? = some (some v) := by
  unfold L2.start
  have hi : i < vs.length := (List.getElem?_eq_some_iff.mp h).1
  rw [List.getElem?_append_left (by simpa using hi), List.getElem?_map, h]
  rfl
theorem denAll_get {K : PySem.W.Frag} {H0 F H : Hp} : ∀ {vs : List V} {rs : List R} {i : Nat} {r : R}, DenAll K H0 F H vs rs → rs[i]? = some r → ∃ v, vs[i]? = some v ∧ Den K H0 F H v r
  | [], [], _, _, _, e => by simp at e
  | v :: vs, r :: rs, 0, _, ⟨a, _⟩, e => by simp at e; subst e; exact ⟨v, rfl, a⟩
  | v :: vs, r :: rs, i + 1, q, ⟨_, b⟩, e => by
    obtain ⟨w, h1, h2⟩ := denAll_get (i := i) b (by simpa using e)
    exact ⟨w, by simpa using h1, h2⟩
  | [], _ :: _, _, _, h, _ => h.elim
  | _ :: _, [], _, _, h, _ => h.elim
section
variable {P : Program} {w : World} {K : PySem.W.Frag} {mg : Str → Option Value} {base : Heap} {es : List Ent} {G : Gi} {cl : Nat → Value}
theorem rel_start {F H : Hp} {N : List Str} {vs : List V} {rs : List R} (s : Same F H) (d : DenAll K H F H vs rs) (ok : argOk rs = true) : RelS K H F (startS N.length rs) (start N vs) F H := by
  have hl := denAll_len d
  have sl : ∀ (i : Nat) (r : R), rs[i]? = some r → (∃ x, r = .d x) ∨ (∃ x, r = .s x) ∨ ∃ x, r = .m x := fun i r e => by
    have := List.all_eq_true.mp ok r (List.mem_of_getElem? e)
    cases r with
    | d x => exact .inl ⟨x, rfl⟩
    | s x => exact .inr (.inl ⟨x, rfl⟩)
    | m x => exact .inr (.inr ⟨x, rfl⟩)
    | l x => cases this
    | b x => cases this
    | n x => cases this
    | q => cases this
  refine ⟨⟨?_, s, fun i r e => ?_, fun i j a xs ys e1 e2 o1 o2 e3 e4 => ?_⟩, Grow.refl s, fun i xs a e1 o1 e2 => ?_⟩
  · unfold startS L2.start
    simp [hl]
  · have e := startS_get e
    obtain ⟨v, h1, h2⟩ := denAll_get d e
    refine ⟨v, start_get h1, ?_⟩
    rcases sl i r e with ⟨x, rfl⟩ | ⟨x, rfl⟩ | ⟨x, rfl⟩
    · exact h2
    · exact h2
    · exact h2
  · rcases sl i _ (startS_get e1) with ⟨x, q⟩ | ⟨x, q⟩ | ⟨x, q⟩ <;> (subst q; cases o1)
  · rcases sl i _ (startS_get e1) with ⟨x, q⟩ | ⟨x, q⟩ | ⟨x, q⟩ <;> (subst q; cases o1)
theorem all_ok (Tp : Top K w mg cl es G) : ∀ (n : Nat) (e : Ent) (f : Addr) (fd : FuncData), e ∈ es → EntAt K mg e f fd → FnOk P w K mg base (L2N.CX P w) (n + 1) f fd e.ps (spP K cl e.ps.length (call (tabOf es) n e.ix))
  | 0, e, f, fd, he, A => by
    have no : ∀ vs H Q E, ¬ spP K cl e.ps.length (call (tabOf es) 0 e.ix) vs H Q E := fun vs H Q E h => by
      obtain ⟨F, rs, _, _, _, _, h⟩ := h
      exact h
    exact ⟨fun vs H Q E h => absurd h (no vs H Q E), fun _ _ _ H _ _ vs Q E _ _ _ _ h => absurd h (no vs H Q E)⟩
  | n + 1, e, f, fd, hm, A => by
    have ok := Tp.oks e hm
    unfold entOk at ok
    simp only [Bool.and_eq_true, decide_eq_true_eq] at ok
    obtain ⟨⟨⟨o1, o2⟩, o3⟩, o4⟩ := ok
    have S := fnSc_of o4
    have ht : tabOf es e.ix = some e.fn := tabOf_mem Tp.nd hm
    obtain ⟨oc, od, kV, doc, pm, an, cdv, ct, osl, rfl, lk, hcd⟩ := A.fn.ex
    refine fn_of lk hcd S (fun vs H Q E h => ?_) (fun Ar outer s H vs Q E hr h => ?_)
    · obtain ⟨F, rs, _, d, hl, _⟩ := h
      exact (denAll_len d).trans hl
    · obtain ⟨F, rs, sm, d, hl, ak, h⟩ := h
      have tk : L2N.Takes (cxOf (L2N.CX P w) P w K mg base e.N e.nm (defScope e.st) f cdv Ar outer s H E) (fun cls d _ H => E cls d H) := L2N.takes_of rfl rfl rfl rfl
      have b : BOk (cxOf (L2N.CX P w) P w K mg base e.N e.nm (defScope e.st) f cdv Ar outer s H E) (L2N.CX P w) E cl (call (tabOf es) n) G := by
        refine ⟨⟨rfl, S.nd, hr.units, Tp.blt, Tp.cst, Tp.dct, fun x m np hx => ?_, L2N.passes_call tk (fun _ _ _ _ h => h), fun _ _ _ _ _ _ _ _ _ _ c => ?_⟩, fun _ => rfl, PassesOwn.leaving, S.kind, rfl, tk, rfl, rfl, Tp.xcs, fun hw => ⟨Tp.wrd hw, (L2H.roomH_of hr).mono (by omega)⟩⟩
        · rw [Tp.fns] at hx
          obtain ⟨e', q2, q1, q3, q4⟩ := fnsOf_mem hx
          subst q1
          subst q3
          subst q4
          obtain ⟨f', fd', A'⟩ := Tp.ents e' q2
          have ok' := Tp.oks e' q2
          unfold entOk at ok'
          simp only [Bool.and_eq_true, decide_eq_true_eq] at ok'
          refine ⟨n + 1, f', fd', e'.ps, all_ok Tp n e' f' fd' q2 A', hr, A'.at_, A'.fn.kp, A'.bd, ?_⟩
          rw [← ok'.1.2]
          exact call_len (tabOf_mem Tp.nd q2)
        · obtain ⟨_, _, _, _, _, _, _, _, _, _, _, _, z⟩ := c
          exact z.elim
      refine ⟨_, snd_b b e.fn.body o1, ?_⟩
      refine ⟨startS e.N.length rs, F, H, F, rel_start sm d ak, ?_⟩
      unfold call at h
      simp only [ht] at h
      rw [if_pos (by rw [o3]; exact hl), o2] at h
      cases q : xs (call (tabOf es) n) e.fn.body (startS e.N.length rs) with
      | bad => rw [q] at h; exact h
      | err c => rw [q] at h; exact h
      | ok o =>
        rw [q] at h
        cases o with
        | nx ρ => exact fun σ F' H' R => h .non F' H' R.grow .non
        | rt r => exact fun v F' H' g d' => h v F' H' g d'
end
/-! ### the law -/
def spLaw (K : PySem.W.Frag) : Sp := fun vs H Q _ => ∃ (a : Addr) (ns : List Int), vs = [.ref a] ∧ SqL K H a (ns.map V.int) ∧ ns.length ≤ 63 ∧ ∀ H', Q (.bl true) H'
theorem dn_of_ints {K : PySem.W.Frag} {F : Hp} : ∀ ns : List Int, DnAll K F (ns.map V.int) (ns.map PyData.int)
  | [] => .nil
  | n :: ns => .cons (.int n) (dn_of_ints ns)
theorem law_ok {P : Program} {w : World} {K : PySem.W.Frag} {mg : Str → Option Value} {base : Heap} {f : Addr} {fd : FuncData} {n i : Nat} {x : Str} {es : List Ent} {cl : Nat → Value} (F : FnOk P w K mg base (L2N.CX P w) (n + 1) f fd [x] (spP K cl 1 (call (tabOf es) n i)))
    (h : ∀ ns : List Int, ns.length ≤ 63 → call (tabOf es) n i [.s (ns.map PyData.int)] = .ok (.d (.bool true))) : FnOk P w K mg base (L2N.CX P w) (n + 1) f fd [x] (spLaw K) := by
  refine F.imp fun vs H Q E q => ?_
  obtain ⟨a, ns, rfl, hs, hl, q⟩ := q
  refine ⟨fun b => if b = a then H a else none, [.s (ns.map PyData.int)], fun b o e => ?_, ⟨⟨a, ns.map V.int, rfl, ?_, dn_of_ints ns⟩, trivial⟩, rfl, rfl, ?_⟩
  · by_cases hb : b = a
    · subst hb; simpa using e
    · simp [hb] at e
  · rcases hs with (hs | ⟨o, hs⟩) | hs
    · exact .inl (.inl (by simpa using hs))
    · exact .inl (.inr ⟨o, by simpa using hs⟩)
    · exact .inr hs
  · rw [h ns hl]
    intro v F' H' g d
    cases d
    exact q H'
end PP

set_option Elab.async false
set_option linter.all false
set_option autoImplicit false
set_option maxRecDepth 100000
namespace PP
open PySem L2
/-! ### what the head has written: defs, constants, built-ins -/
def DefAt (K : PySem.W.Frag) (nm : Str) (st : Stmt) : Prop := ∃ (f : Addr) (oc : Value) (od an : Option Addr) (kV dc pm cd ct : Value) (sl : Array (Option Value)),
  PySem.W.nsIn K mainGlobals nm = some (some (.ref f)) ∧ K.lookup f = some ⟨oc, od, .func (PySem.W.fnOf nm nm (defArgs st) (defBody st) (defScope st) .none kV dc pm an cd ct), sl⟩ ∧ PySem.W.codeIn K cd nm = true ∧ PySem.W.keepIn K (.ref f) = true
theorem defAt_mk {K : PySem.W.Frag} {nm : Str} {st : Stmt} {f : Addr} {oc : Value} {od an : Option Addr} {kV dc pm cd ct : Value} {sl : Array (Option Value)}
    (a : PySem.W.nsIn K mainGlobals nm = some (some (.ref f))) (l : K.lookup f = some ⟨oc, od, .func (PySem.W.fnOf nm nm (defArgs st) (defBody st) (defScope st) .none kV dc pm an cd ct), sl⟩) (c : PySem.W.codeIn K cd nm = true) (k : PySem.W.keepIn K (.ref f) = true) : DefAt K nm st :=
  ⟨f, oc, od, an, kV, dc, pm, cd, ct, sl, a, l, c, k⟩
theorem entAt_mk {K : PySem.W.Frag} {h : Heap} {mg : Str → Option Value} (X : K.In h) (G : h.Ns mainGlobals mg) (e : Ent) (d : DefAt K e.nm e.st)
    (hb : ∀ (kV doc pm : Value) (an : Option Addr) (cdv ct : Value) (us : List Value), us.length = e.ps.length → bindArgs (PySem.W.fnOf e.nm e.nm (defArgs e.st) (defBody e.st) (defScope e.st) .none kV doc pm an cdv ct) ⟨us, []⟩ = pure (e.ps.zip us)) :
    ∃ f fd, EntAt K mg e f fd := by
  obtain ⟨f, oc, od, an, kV, dc, pm, cd, ct, sl, a, l, c, k⟩ := d
  have F := fun_mk (st := e.st) l c k
  exact ⟨f, _, F, F.binds hb, PySem.W.mg_of X G a⟩
def CstAt (K : PySem.W.Frag) (nm : Str) (d : D) : Prop := ∃ u v, PySem.W.nsIn K mainGlobals nm = some (some u) ∧ RelV v u ∧ ∀ F, Dn K F v d
theorem cst_int {K : PySem.W.Frag} {nm : Str} {i : Int} {t : Tok} (a : PySem.W.nsIn K mainGlobals nm = some (some (.int i t))) : CstAt K nm (.int i) := ⟨_, .int i, a, ⟨t, rfl⟩, fun _ => .int i⟩
theorem cst_tup1 {K : PySem.W.Frag} {nm : Str} {x : Str} {t : Tok} {f : Addr} {dd : Option Addr} {n : Nat} {sl : Array (Option Value)} (a : PySem.W.nsIn K mainGlobals nm = some (some (.ref f))) (l : K.lookup f = some ⟨.type "tuple", dd, .seq #[.str x t] n, sl⟩) (hx : PyData.strOk x = true) : CstAt K nm (.tuple [.str x]) :=
  ⟨_, .ref f, a, rfl, fun F => .tup (.inr ⟨_, #[.str x t], n, l, rfl, rfl, by show 1 ≤ sizeLine; decide, Paired.cons (show RelV (.str x) (.str x t) from ⟨t, rfl⟩) .nil⟩) (.cons (.str x hx) .nil)⟩
theorem cst_of {K : PySem.W.Frag} {h : Heap} {mg : Str → Option Value} (X : K.In h) (G : h.Ns mainGlobals mg) {cs : List (Str × D)} (H : ∀ p, p ∈ cs → CstAt K p.1 p.2) : ∀ x d, cs.lookup x = some d → ∃ v u, mg x = some u ∧ RelV v u ∧ ∀ F, Dn K F v d := by
  intro x d e
  have hm : (x, d) ∈ cs := by
    induction cs with
    | nil => cases e
    | cons p cs ih =>
      obtain ⟨y, d'⟩ := p
      rw [List.lookup_cons] at e
      by_cases q : x == y
      · rw [q] at e
        cases e
        rw [beq_iff_eq.mp q]
        exact List.mem_cons_self
      · rw [Bool.eq_false_iff.mpr q] at e
        exact List.mem_cons_of_mem _ (ih (fun p hp => H p (List.mem_cons_of_mem _ hp)) e)
  obtain ⟨u, v, a, r, dn⟩ := H (x, d) hm
  exact ⟨v, u, PySem.W.mg_of X G a, r, dn⟩
/-- dicts with text keys -/
inductive DRow (K : PySem.W.Frag) (P : Params) : List DictEntry → List (Str × D) → Prop
  | nil : DRow K P [] []
  | cons {e : DictEntry} {es : List DictEntry} {x : Str} {t : Tok} {v : V} {dv : D} {kvs : List (Str × D)} : e.key = .str x t → e.hash = PyData.keyHash P x → RelV v e.val → (∀ F, Dn K F v dv) → DRow K P es kvs → DRow K P (e :: es) ((x, dv) :: kvs)
theorem DRow.lit {K : PySem.W.Frag} {P : Params} {es : List DictEntry} {kvs : List (Str × D)} (h : DRow K P es kvs) : PySem.W.KeysLit P es := by
  induction h with
  | nil => trivial
  | cons h1 h2 _ _ _ ih => exact ⟨⟨_, _, h1, h2⟩, ih⟩
theorem DRow.find {K : PySem.W.Frag} {P : Params} {es : List DictEntry} {kvs : List (Str × D)} (h : DRow K P es kvs) (z : Str) : es.any (·.refKey) = false ∧ ((es.find? (·.key.isStr z)).isSome = (kvs.lookup z).isSome) ∧ ∀ dv, kvs.lookup z = some dv → ∃ e v, es.find? (·.key.isStr z) = some e ∧ RelV v e.val ∧ ∀ F, Dn K F v dv := by
  induction h with
  | nil => exact ⟨rfl, rfl, fun dv e => by cases e⟩
  | @cons e es x t v dv kvs h1 h2 h3 h4 _ ih =>
    have hk : e.key.isStr z = (x == z) := by rw [h1]; rfl
    have hr : e.refKey = false := by unfold DictEntry.refKey; rw [h1]
    obtain ⟨i1, i2, i3⟩ := ih
    refine ⟨by rw [List.any_cons, hr, i1]; rfl, ?_, ?_⟩
    · rw [List.find?_cons, hk, List.lookup_cons]
      by_cases q : x = z
      · subst q; simp
      · have q1 : (x == z) = false := beq_eq_false_iff_ne.mpr q
        have q2 : (z == x) = false := beq_eq_false_iff_ne.mpr (Ne.symm q)
        rw [q1, q2]; exact i2
    · intro dv' ed
      rw [List.lookup_cons] at ed
      rw [List.find?_cons, hk]
      by_cases q : x = z
      · subst q
        simp at ed
        subst ed
        exact ⟨e, v, by simp, h3, h4⟩
      · have q1 : (x == z) = false := beq_eq_false_iff_ne.mpr q
        have q2 : (z == x) = false := beq_eq_false_iff_ne.mpr (Ne.symm q)
        rw [q2] at ed
        rw [q1]
        exact i3 dv' ed
theorem DRow.ord {K : PySem.W.Frag} {P : Params} {es : List DictEntry} {kvs : List (Str × D)} (h : DRow K P es kvs) : es.length = kvs.length ∧ ∀ (i : Nat) x dv, kvs[i]? = some (x, dv) → ∃ (en : DictEntry) (t : Tok), es[i]? = some en ∧ en.key = Value.str x t := by
  induction h with
  | nil => exact ⟨rfl, fun i x dv e => by simp at e⟩
  | @cons e es x t v dv kvs h1 h2 h3 h4 _ ih =>
    refine ⟨by simp [ih.1], fun i y dw q => ?_⟩
    cases i with
    | zero =>
      simp at q
      exact ⟨e, t, rfl, by rw [h1, q.1]⟩
    | succ i => simpa using ih.2 i y dw (by simpa using q)
def DctAt (K : PySem.W.Frag) (w : World) (nm : Str) (kvs : List (Str × D)) : Prop := ∃ d, PySem.W.nsIn K mainGlobals nm = some (some (.ref d)) ∧ DctK K w d kvs
theorem dct_mk {K : PySem.W.Frag} {w : World} {nm : Str} {kvs : List (Str × D)} {d : Addr} {es : Array DictEntry} {n : Nat} (a : PySem.W.nsIn K mainGlobals nm = some (some (.ref d))) (l : K.lookup d = some ⟨.type "dict", none, .dict es n, #[]⟩)
    (low : (d == sysModules) = false) (r : DRow K w.params es.toList kvs) : DctAt K w nm kvs := by
  refine ⟨d, a, es, n, l, r.lit, low, ⟨by rw [← r.ord.1, Array.length_toList], fun i x dv q => ?_⟩, fun z => ?_⟩
  · obtain ⟨en, t, q1, q2⟩ := r.ord.2 i x dv q
    exact ⟨en, t, by rw [← Array.getElem?_toList]; exact q1, q2⟩
  obtain ⟨h1, h2, h3⟩ := r.find z
  have e : PySem.W.nsIn K d z = some ((es.toList.find? (·.key.isStr z)).map (·.val)) := by
    unfold PySem.W.nsIn
    rw [l]
    cases q : es.toList.find? (·.key.isStr z) with
    | some e => simp only [q]; rfl
    | none => simp only [q, h1]; rfl
  refine ⟨_, e, by rw [Option.isSome_map]; exact h2, fun dv ed => ?_⟩
  obtain ⟨e', v, q1, q2, q3⟩ := h3 dv ed
  exact ⟨e'.val, v, by rw [q1]; rfl, q2, q3⟩
theorem dn_bbb {K : PySem.W.Frag} {a : Addr} {dd : Option Addr} {n : Nat} {sl : Array (Option Value)} {x y z : Bool} (l : K.lookup a = some ⟨.type "tuple", dd, .seq #[.bool x, .bool y, .bool z] n, sl⟩) : ∀ F, Dn K F (.ref a) (.tuple [.bool x, .bool y, .bool z]) := fun F =>
  .tup (.inr ⟨_, #[.bool x, .bool y, .bool z], n, l, rfl, rfl, by show 3 ≤ sizeLine; decide, Paired.cons (show RelV (.bl x) (.bool x) from rfl) (Paired.cons (show RelV (.bl y) (.bool y) from rfl) (Paired.cons (show RelV (.bl z) (.bool z) from rfl) .nil))⟩) (.cons (.bl x) (.cons (.bl y) (.cons (.bl z) .nil)))
theorem dn_sss {K : PySem.W.Frag} {a : Addr} {dd : Option Addr} {n : Nat} {sl : Array (Option Value)} {x y z : Str} {t u v : Tok} (l : K.lookup a = some ⟨.type "tuple", dd, .seq #[.str x t, .str y u, .str z v] n, sl⟩) (hx : PyData.strOk x = true) (hy : PyData.strOk y = true) (hz : PyData.strOk z = true) : ∀ F, Dn K F (.ref a) (.tuple [.str x, .str y, .str z]) := fun F =>
  .tup (.inr ⟨_, #[.str x t, .str y u, .str z v], n, l, rfl, rfl, by show 3 ≤ sizeLine; decide, Paired.cons (show RelV (.str x) (.str x t) from ⟨t, rfl⟩) (Paired.cons (show RelV (.str y) (.str y u) from ⟨u, rfl⟩) (Paired.cons (show RelV (.str z) (.str z v) from ⟨v, rfl⟩) .nil))⟩) (.cons (.str x hx) (.cons (.str y hy) (.cons (.str z hz) .nil)))
theorem dct_of {K : PySem.W.Frag} {w : World} {h : Heap} {mg : Str → Option Value} (X : K.In h) (G : h.Ns mainGlobals mg) {ds : List (Str × List (Str × D))} (H : ∀ p, p ∈ ds → DctAt K w p.1 p.2) : ∀ x kvs, ds.lookup x = some kvs → ∃ d, mg x = some (.ref d) ∧ DctK K w d kvs := by
  intro x kvs e
  have hm : (x, kvs) ∈ ds := by
    induction ds with
    | nil => cases e
    | cons p ds ih =>
      obtain ⟨y, d'⟩ := p
      rw [List.lookup_cons] at e
      by_cases q : x == y
      · rw [q] at e
        cases e
        rw [beq_iff_eq.mp q]
        exact List.mem_cons_self
      · rw [Bool.eq_false_iff.mpr q] at e
        exact List.mem_cons_of_mem _ (ih (fun p hp => H p (List.mem_cons_of_mem _ hp)) e)
  obtain ⟨d, a, dk⟩ := H (x, kvs) hm
  exact ⟨d, PySem.W.mg_of X G a, dk⟩
/-! classes of exceptions -/
theorem xc_mk {K : PySem.W.Frag} {h : Heap} {mg : Str → Option Value} {cl : Nat → Value} {x : Str} {c : Nat} {Da : Addr} (X : K.In h) (G : h.Ns mainGlobals mg) (a : PySem.W.nsIn K mainGlobals x = some (some (.ref Da))) (hc : cl c = .ref Da)
    (e : PySem.W.excIn K Da [.type "ValueError", .type "Exception", .type "BaseException", .type "object"] "ValueError.__new__" = true) (k : PySem.W.keepIn K (.ref Da) = true) (s : PySem.W.subIn K (.ref Da) (.type "BaseException") = some true) (t : PySem.W.typeIn K (.ref Da) = some (.type "type")) : XcT K mg cl x c :=
  ⟨Da, PySem.W.mg_of X G a, hc, e, k, s, t⟩
def lsA (l : List Addr) (k : Nat) : Addr := l.getD k 0
def excB (K : PySem.W.Frag) (D : Addr) : Bool :=
  PySem.W.findIn K (.ref D) "__getattribute__" == some (some (.builtin "BaseException.__getattribute__")) && PySem.W.findIn K (.ref D) "__getattr__" == some none && PySem.W.subIn K (.ref D) (.type "BaseException") == some true && PySem.W.hasDictIn K D &&
  PySem.W.findIn K (.ref D) "__class__" == some (some (.builtin "object.__class__")) && PySem.W.specialIn K (.builtin "object.__class__") "__get__" == some (some (.builtin "getset_descriptor.__get__")) && PySem.W.takesIn K (.builtin "object.__class__") == some true && PySem.W.mroIn K D (.type "object") == some true
theorem excB_ok {K : PySem.W.Frag} {D : Addr} (h : excB K D = true) : ExcC K D := by
  unfold excB at h
  simp only [Bool.and_eq_true, beq_iff_eq] at h
  obtain ⟨⟨⟨⟨⟨⟨⟨h1, h2⟩, h3⟩, h4⟩, h5⟩, h6⟩, h7⟩, h8⟩ := h
  exact ⟨h1, h2, h3, h4, h5, h6, h7, h8⟩
/-- all that is asked of the classes' addresses, as one test -/
def clsB (K : PySem.W.Frag) (l : List Addr) (Pa : Addr) : Bool := (List.range 9).all fun c => excB K (lsA l c) && PySem.W.kitOne K (.ref (lsA l c)) (.type "ValueError") == some true && PySem.W.exmOne K (.ref (lsA l c)) (.ref Pa) == some true &&
  (List.range 9).all fun k => PySem.W.kitOne K (.ref (lsA l c)) (.ref (lsA l k)) == some (decide (k = c))
theorem word_mk {K : PySem.W.Frag} {h : Heap} {mg : Str → Option Value} {l : List Addr} {Pa : Addr} {st : Stmt} {q : Nat → Pos} (X : K.In h) (G : h.Ns mainGlobals mg) (hl : l.length = 9) (ns : ∀ k x, xnm[k]? = some x → PySem.W.nsIn K mainGlobals x = some (some (.ref (lsA l k)))) (np : PySem.W.nsIn K mainGlobals "PaneError" = some (some (.ref Pa)))
    (cb : clsB K l Pa = true) (b1 : PySem.W.nsIn K mainGlobals "isinstance" = some none) (b2 : PySem.W.nsIn K mainGlobals "ValueError" = some none) (d : DefAt K "_law_word" st)
    (hb : ∀ (kV doc pm : Value) (an : Option Addr) (cdv ct : Value) (us : List Value), us.length = 1 → bindArgs (PySem.W.fnOf "_law_word" "_law_word" (defArgs st) (defBody st) (defScope st) .none kV doc pm an cdv ct) ⟨us, []⟩ = pure ((["kept"] : List Str).zip us))
    (hst : defBody st = wordB q) (hsc : defScope st = wordSc) (q1 : ((q 68).endLine == (q 73).line) = true) (q2 : ((q 76).endLine == (q 78).line) = true) (q3 : ((q 92).endLine == (q 94).line) = true) : WordT K mg (fun c => .ref (lsA l c)) := by
  obtain ⟨f, oc, od, an, kV, dc, pm, cd, ct, sl, a, lk, c, k⟩ := d
  have F := fun_mk (st := st) lk c k
  refine ⟨lsA l, Pa, f, _, st, q, fun c hc => ?_, PySem.W.mg_of X G np, F, PySem.W.mg_of X G a, F.binds hb, hst, hsc, q1, q2, q3⟩
  unfold clsB at cb
  rw [List.all_eq_true] at cb
  have cc := cb c (List.mem_range.mpr hc)
  simp only [Bool.and_eq_true, beq_iff_eq, List.all_eq_true, List.mem_range] at cc
  obtain ⟨⟨⟨c1, c2⟩, c3⟩, c4⟩ := cc
  exact ⟨rfl, ⟨hc, fun k x hx => PySem.W.mg_of X G (ns k x hx), excB_ok c1, fun k hk => c4 k hk, c2, PySem.W.mg_none_of X G b1, PySem.W.mg_none_of X G b2⟩, c3⟩
/-- all together -/
theorem law_mk {l : PySem.W.OpenLaw} {w : World} {K : PySem.W.Frag} {h : Heap} {mg : Str → Option Value} {fa : Addr} {es : List Ent} {cs : List (Str × D)} {ds : List (Str × List (Str × D))} {cl : Nat → Value} {xs : List (Str × Nat)} {wb : Bool} {e : Ent} {n : Nat} (X : K.In h) (G : h.Ns mainGlobals mg) (hfa : mg "law" = some (.ref fa))
    (he : e ∈ es) (hn : e.nm = "law") (hp : e.ps = ([("script" : Str)] : List Str)) (nd : (es.map (·.ix)).Nodup) (oks : es.all (entOk ⟨cs, ds, fnsOf es, xs, wb⟩) = true)
    (hb : ∀ (s : Shared) (kV doc pm : Value) (an : Option Addr) (cdv ct u : Value), BindsTo s (PySem.W.fnOf e.nm e.nm (defArgs e.st) (defBody e.st) (defScope e.st) .none kV doc pm an cdv ct) ⟨[u], []⟩ [("script", u)])
    (ents : ∀ e, e ∈ es → ∃ f fd, EntAt K mg e f fd) (blt : ∀ x, x ∈ bltNames → PySem.W.nsIn K mainGlobals x = some none) (csts : ∀ p, p ∈ cs → CstAt K p.1 p.2) (dcts : ∀ p, p ∈ ds → DctAt K w p.1 p.2) (xcs : ∀ x c, (x, c) ∈ xs → XcT K mg cl x c) (wrd : wb = true → WordT K mg cl)
    (H : ∀ ns : List Int, ns.length ≤ 63 → call (tabOf es) n e.ix [.s (ns.map PyData.int)] = .ok (.d (.bool true))) :
    ∃ fd : FuncData, (∀ (s : Shared) (v : Value), BindsTo s fd ⟨[v], []⟩ [("script", v)]) ∧ ∀ base : Heap, K.In base → base.Ns mainGlobals mg → FnOk l.prog w K mg base (L2N.CX l.prog w) (n + 1) fa fd ["script"] (spLaw K) := by
  obtain ⟨f, fd, A⟩ := ents e he
  have ef : f = fa := by
    have q := A.at_
    rw [hn, hfa] at q
    cases q
    rfl
  subst ef
  refine ⟨fd, fun s v => ?_, fun base _ _ => ?_⟩
  · obtain ⟨oc, od, kV, dc, pm, an, cdv, ct, osl, rfl, lk, hcd⟩ := A.fn.ex
    exact hb s kV dc pm an cdv ct v
  · have Tp : Top K w mg cl es ⟨cs, ds, fnsOf es, xs, wb⟩ := ⟨rfl, nd, ents, fun e he => List.all_eq_true.mp oks e he, fun x hx => PySem.W.mg_none_of X G (blt x hx), cst_of X G csts, dct_of X G dcts, xcs, wrd⟩
    have F := all_ok (P := l.prog) (w := w) (base := base) Tp n e f fd he A
    rw [hp] at F
    exact law_ok F H
theorem walk_mk {l : PySem.W.OpenLaw} {q : Program} {loose : List Str} {XP : (Str → Option Value) → Heap → Prop} {YP : World → Heap → Prop} {d : DefRec} {K : Params → PySem.W.Frag} {n : Nat} (hn : l.most = some 63) (hdf : d.params.defaults = []) (hr : Room (n + 1) callerA)
    (hY : ∀ (w : World) (h : Heap), YP w h → (K w.params).In h)
    (F : ∀ (w : World) (mg : Str → Option Value) (fa : Addr) (h : Heap), (K w.params).In h → h.Ns mainGlobals mg → mg d.name = some (.ref fa) →
      ∃ fd : FuncData, (∀ (s : Shared) (u : Value), BindsTo s fd ⟨[u], []⟩ [("script", u)]) ∧ ∀ base : Heap, (K w.params).In base → base.Ns mainGlobals mg → FnOk l.prog w (K w.params) mg base (L2N.CX l.prog w) (n + 1) fa fd ["script"] (spLaw (K w.params))) :
    PySem.W.WalkO q loose XP YP l.row.toRowW d [] (fun f vs => PySem.call f vs) :=
  L2.walk_of (n := 63) (k := n + 1) (x := "script") (CX := fun w => L2N.CX l.prog w) (sp := fun w => spLaw (K w.params)) hn (by decide) hdf hr hY F (fun _ _ a ns hl _ hS => ⟨a, ns, rfl, hS, hl, fun _ => rfl⟩) fun _ _ _ _ _ z => by
    obtain ⟨_, _, _, _, _, _, _, _, _, _, _, _, z⟩ := z
    exact z
end PP

set_option Elab.async false
set_option linter.all false
set_option autoImplicit false
set_option maxRecDepth 100000
namespace PP
open PySem
abbrev t_side : Str := ⟨#[115, 105, 100, 101]⟩
abbrev t_pane : Str := ⟨#[112, 97, 110, 101]⟩
abbrev t_stack : Str := ⟨#[115, 116, 97, 99, 107]⟩
abbrev t_same : Str := ⟨#[115, 97, 109, 101]⟩
abbrev t_right : Str := ⟨#[114, 105, 103, 104, 116]⟩
abbrev t_half : Str := ⟨#[104, 97, 108, 102]⟩
abbrev t_left : Str := ⟨#[108, 101, 102, 116]⟩
abbrev t_mirror : Str := ⟨#[109, 105, 114, 114, 111, 114]⟩
abbrev t_flip : Str := ⟨#[102, 108, 105, 112]⟩
abbrev t_over : Str := ⟨#[111, 118, 101, 114]⟩
abbrev t_under : Str := ⟨#[117, 110, 100, 101, 114]⟩
abbrev t_empty : Str := ⟨#[]⟩
abbrev t_2 : Str := ⟨#[50]⟩
abbrev t_1 : Str := ⟨#[49]⟩
abbrev t_cross : Str := ⟨#[99, 114, 111, 115, 115]⟩
abbrev t_least : Str := ⟨#[108, 101, 97, 115, 116]⟩
abbrev t_no_20_room : Str := ⟨#[110, 111, 32, 114, 111, 111, 109]⟩
abbrev t_laid : Str := ⟨#[108, 97, 105, 100]⟩
abbrev t_no_20_needs : Str := ⟨#[110, 111, 32, 110, 101, 101, 100, 115]⟩
abbrev t_12 : Str := ⟨#[49, 50]⟩
abbrev t_no_20_move : Str := ⟨#[110, 111, 32, 109, 111, 118, 101]⟩
abbrev t_up : Str := ⟨#[117, 112]⟩
abbrev t_x : Str := ⟨#[120]⟩
abbrev t_1111111 : Str := ⟨#[49, 49, 49, 49, 49, 49, 49]⟩
abbrev t_3 : Str := ⟨#[51]⟩
abbrev t_a : Str := ⟨#[97]⟩
abbrev t_A : Str := ⟨#[65]⟩
abbrev t__20_ : Str := ⟨#[32]⟩
/-- is_whole -/
def f0_is_whole : Fn := ⟨3, 3, (.cons (.ret (.and (.isi .int (.var 0)) (.and (.not (.isi .bool (.var 0))) (.chn .le .le (.var 1) (.var 0) (.var 2))))) .nil)⟩
/-- is_window -/
def f1_is_window : Fn := ⟨1, 2, (.cons (.ret (.and (.isi .tuple (.var 0)) (.and (.cmp .eq (.blt .len (.cons (.var 0) .nil)) (.cst (.int 2))) (.blt .all (.cons (.lc (.nm 1) (.seq (.var 0)) (.call 0 (.cons (.var 1) (.cons (.cst (.int 1)) (.cons (.cst (.int 6)) .nil))))) .nil))))) .nil)⟩
/-- is_part -/
def f2_is_part : Fn := ⟨2, 7, (.cons (.ifs (.or (.not (.isi .tuple (.var 0))) (.or (.cmp .ne (.blt .len (.cons (.var 0) .nil)) (.cst (.int 4))) (.not (.blt .all (.cons (.lc (.nm 6) (.seq (.var 0)) (.call 0 (.cons (.var 6) (.cons (.cst (.int 0)) (.cons (.cst (.int 6)) .nil))))) .nil))))) (.cons (.ret (.cst (.bool false))) .nil) .nil) (.cons (.asg (.tp [2, 3, 4, 5]) (.var 0)) (.cons (.ret (.and (.cmp .gt (.var 4) (.cst (.int 0))) (.and (.cmp .gt (.var 5) (.cst (.int 0))) (.and (.cmp .le (.bin .add (.var 2) (.var 4)) (.idx (.var 1) (.cst (.int 0)))) (.cmp .le (.bin .add (.var 3) (.var 5)) (.idx (.var 1) (.cst (.int 1)))))))) .nil)))⟩
/-- spots_of -/
def f3_spots_of : Fn := ⟨1, 8, (.cons (.asg (.tp [3, 4, 5, 6]) (.var 0)) (.cons (.own 1 (.lst .nil)) (.cons (.for_ (.nm 2) (.rng2 (.var 4) (.bin .add (.var 4) (.var 6))) (.cons (.ext 1 (.lc (.nm 7) (.rng2 (.var 3) (.bin .add (.var 3) (.var 5))) (.tup (.cons (.var 7) (.cons (.var 2) .nil))))) .nil)) (.cons (.rtl 1) .nil))))⟩
/-- is_picture -/
def f16_is_picture : Fn := ⟨1, 6, (.cons (.ifs (.or (.not (.isi .tuple (.var 0))) (.or (.cmp .ne (.blt .len (.cons (.var 0) .nil)) (.cst (.int 2))) (.or (.not (.call 1 (.cons (.idx (.var 0) (.cst (.int 0))) .nil))) (.not (.isi .tuple (.idx (.var 0) (.cst (.int 1)))))))) (.cons (.ret (.cst (.bool false))) .nil) .nil) (.cons (.asg (.tp [3, 4]) (.var 0)) (.cons (.ifs (.or (.not (.chn .le .le (.cst (.int 1)) (.blt .len (.cons (.var 4) .nil)) (.cst (.int 7)))) (.not (.blt .all (.cons (.lc (.nm 2) (.seq (.var 4)) (.call 2 (.cons (.var 2) (.cons (.var 3) .nil)))) .nil)))) (.cons (.ret (.cst (.bool false))) .nil) .nil) (.cons (.ifs (.not (.blt .all (.cons (.lc (.nm 5) (.rng2 (.cst (.int 1)) (.blt .len (.cons (.var 4) .nil))) (.cmp .lt (.idx (.var 4) (.bin .sub (.var 5) (.cst (.int 1)))) (.idx (.var 4) (.var 5)))) .nil))) (.cons (.ret (.cst (.bool false))) .nil) .nil) (.cons (.own 1 (.lst .nil)) (.cons (.for_ (.nm 2) (.seq (.var 4)) (.cons (.ext 1 (.call 3 (.cons (.var 2) .nil))) .nil)) (.cons (.ret (.and (.cmp .eq (.blt .len (.cons (.var 1) .nil)) (.bin .mul (.idx (.var 3) (.cst (.int 0))) (.idx (.var 3) (.cst (.int 1))))) (.cmp .eq (.lenset (.var 1)) (.blt .len (.cons (.var 1) .nil))))) .nil)))))))⟩
/-- parts_of -/
def f18_parts_of : Fn := ⟨3, 5, (.cons (.asg (.tp [3, 4]) (.var 2)) (.cons (.ifs (.cmp .eq (.var 0) (.cst (.str t_side))) (.cons (.ret (.tup (.cons (.tup (.cons (.var 1) (.cons (.var 4) .nil))) (.cons (.tup (.cons (.bin .sub (.var 3) (.var 1)) (.cons (.var 4) .nil))) .nil)))) .nil) .nil) (.cons (.ret (.tup (.cons (.tup (.cons (.var 3) (.cons (.var 1) .nil))) (.cons (.tup (.cons (.var 3) (.cons (.bin .sub (.var 4) (.var 1)) .nil))) .nil)))) .nil)))⟩
/-- panes_in -/
def f20_panes_in : Fn := ⟨1, 1, (.cons (.ifs (.cmp .eq (.var 0) (.cst (.tuple [.str t_pane]))) (.cons (.ret (.cst (.int 1))) .nil) .nil) (.cons (.ret (.bin .add (.call 20 (.cons (.idx (.var 0) (.cst (.int 2))) .nil)) (.call 20 (.cons (.idx (.var 0) (.cst (.int 3))) .nil)))) .nil))⟩
/-- panes_at -/
def f23_panes_at : Fn := ⟨4, 10, (.cons (.ifs (.cmp .eq (.var 0) (.cst (.tuple [.str t_pane]))) (.cons (.ret (.lst (.cons (.bin .add (.tup (.cons (.var 1) (.cons (.var 2) .nil))) (.var 3)) .nil))) .nil) .nil) (.cons (.asg (.tp [4, 5, 6, 7]) (.var 0)) (.cons (.asg (.tp [8, 9]) (.call 18 (.cons (.var 4) (.cons (.var 5) (.cons (.var 3) .nil))))) (.cons (.ifs (.cmp .eq (.var 4) (.cst (.str t_side))) (.cons (.ret (.bin .add (.call 23 (.cons (.var 6) (.cons (.var 1) (.cons (.var 2) (.cons (.var 8) .nil))))) (.call 23 (.cons (.var 7) (.cons (.bin .add (.var 1) (.var 5)) (.cons (.var 2) (.cons (.var 9) .nil))))))) .nil) .nil) (.cons (.ret (.bin .add (.call 23 (.cons (.var 6) (.cons (.var 1) (.cons (.var 2) (.cons (.var 8) .nil))))) (.call 23 (.cons (.var 7) (.cons (.var 1) (.cons (.bin .add (.var 2) (.var 5)) (.cons (.var 9) .nil))))))) .nil)))))⟩
/-- picture_of -/
def f25_picture_of : Fn := ⟨2, 2, (.cons (.ret (.tup (.cons (.var 1) (.cons (.blt .tuple (.cons (.blt .sorted (.cons (.call 23 (.cons (.var 0) (.cons (.cst (.int 0)) (.cons (.cst (.int 0)) (.cons (.var 1) .nil))))) .nil)) .nil)) .nil)))) .nil)⟩
/-- _law_cell -/
def f14_law_cell : Fn := ⟨2, 2, (.cons (.ifs (.cmp .lt (.var 1) (.blt .len (.cons (.var 0) .nil))) (.cons (.ret (.idx (.var 0) (.var 1))) .nil) .nil) (.cons (.ret (.cst (.int 0))) .nil))⟩
/-- _law_mix -/
def f4_law_mix : Fn := ⟨3, 4, (.cons (.asg (.nm 3) (.bin .mod (.bin .mul (.var 0) (.cst (.int 48271))) (.var 1))) (.cons (.ret (.bin .mod (.bin .mod (.bin .mul (.var 3) (.bin .add (.var 3) (.cst (.int 7)))) (.var 1)) (.var 2))) .nil))⟩
/-- _law_same -/
def f24_law_same : Fn := ⟨2, 4, (.cons (.ifs (.isi .tuple (.var 1)) (.cons (.ifs (.or (.not (.isi .tuple (.var 0))) (.cmp .ne (.blt .len (.cons (.var 0) .nil)) (.blt .len (.cons (.var 1) .nil)))) (.cons (.ret (.cst (.bool false))) .nil) .nil) (.cons (.ret (.blt .all (.cons (.lc (.tp [2, 3]) (.zip (.var 0) (.var 1)) (.call 24 (.cons (.var 2) (.cons (.var 3) .nil)))) .nil))) .nil)) .nil) (.cons (.ifs (.cmp .is_ (.var 1) (.cst (.none))) (.cons (.ret (.cmp .is_ (.var 0) (.cst (.none)))) .nil) .nil) (.cons (.ifs (.or (.isi .bool (.var 1)) (.isi .bool (.var 0))) (.cons (.ret (.and (.isi .bool (.var 1)) (.and (.isi .bool (.var 0)) (.cmp .eq (.var 0) (.var 1))))) .nil) .nil) (.cons (.ret (.and (.isi2 .int .str (.var 0)) (.cmp .eq (.var 0) (.var 1)))) .nil))))⟩
/-- _law_window -/
def f8_law_window : Fn := ⟨1, 1, (.cons (.ret (.tup (.cons (.bin .add (.cst (.int 1)) (.call 4 (.cons (.var 0) (.cons (.cst (.int 9973)) (.cons (.cst (.int 6)) .nil))))) (.cons (.bin .add (.cst (.int 1)) (.call 4 (.cons (.var 0) (.cons (.cst (.int 9967)) (.cons (.cst (.int 6)) .nil))))) .nil)))) .nil)⟩
/-- _law_parts -/
def f5_law_parts : Fn := ⟨3, 3, (.cons (.ifs (.cmp .eq (.var 0) (.cst (.str t_side))) (.cons (.ret (.tup (.cons (.tup (.cons (.var 1) (.cons (.idx (.var 2) (.cst (.int 1))) .nil))) (.cons (.tup (.cons (.bin .sub (.idx (.var 2) (.cst (.int 0))) (.var 1)) (.cons (.idx (.var 2) (.cst (.int 1))) .nil))) .nil)))) .nil) .nil) (.cons (.ret (.tup (.cons (.tup (.cons (.idx (.var 2) (.cst (.int 0))) (.cons (.var 1) .nil))) (.cons (.tup (.cons (.idx (.var 2) (.cst (.int 0))) (.cons (.bin .sub (.idx (.var 2) (.cst (.int 1))) (.var 1)) .nil))) .nil)))) .nil))⟩
/-- _law_tree -/
def f6_law_tree : Fn := ⟨3, 9, (.cons (.asg (.nm 3) (.bin .add (.bin .mul (.lst (.cons (.cst (.str t_side)) .nil)) (.blt .int (.cons (.cmp .gt (.idx (.var 1) (.cst (.int 0))) (.cst (.int 1))) .nil))) (.bin .mul (.lst (.cons (.cst (.str t_stack)) .nil)) (.blt .int (.cons (.cmp .gt (.idx (.var 1) (.cst (.int 1))) (.cst (.int 1))) .nil))))) (.cons (.ifs (.or (.cmp .lt (.var 2) (.cst (.int 2))) (.or (.cmp .eq (.var 3) (.lst .nil)) (.cmp .eq (.call 4 (.cons (.var 0) (.cons (.cst (.int 9949)) (.cons (.cst (.int 9)) .nil)))) (.cst (.int 0))))) (.cons (.ret (.tup (.cons (.cst (.str t_pane)) .nil))) .nil) .nil) (.cons (.asg (.nm 4) (.idx (.var 3) (.call 4 (.cons (.var 0) (.cons (.cst (.int 9941)) (.cons (.blt .len (.cons (.var 3) .nil)) .nil)))))) (.cons (.asg (.nm 5) (.bin .add (.cst (.int 1)) (.call 4 (.cons (.var 0) (.cons (.cst (.int 9931)) (.cons (.bin .sub (.idx (.var 1) (.blt .int (.cons (.cmp .eq (.var 4) (.cst (.str t_stack))) .nil))) (.cst (.int 1))) .nil)))))) (.cons (.asg (.nm 6) (.bin .add (.cst (.int 1)) (.call 4 (.cons (.var 0) (.cons (.cst (.int 9929)) (.cons (.bin .sub (.var 2) (.cst (.int 1))) .nil)))))) (.cons (.asg (.tp [7, 8]) (.call 5 (.cons (.var 4) (.cons (.var 5) (.cons (.var 1) .nil))))) (.cons (.ret (.tup (.cons (.var 4) (.cons (.var 5) (.cons (.call 6 (.cons (.bin .add (.var 0) (.cst (.int 7))) (.cons (.var 7) (.cons (.var 6) .nil)))) (.cons (.call 6 (.cons (.bin .add (.var 0) (.cst (.int 11))) (.cons (.var 8) (.cons (.bin .sub (.var 2) (.var 6)) .nil)))) .nil)))))) .nil)))))))⟩
/-- _law_panes -/
def f7_law_panes : Fn := ⟨4, 9, (.cons (.ifs (.cmp .eq (.var 0) (.tup (.cons (.cst (.str t_pane)) .nil))) (.cons (.ret (.lst (.cons (.bin .add (.tup (.cons (.var 1) (.cons (.var 2) .nil))) (.var 3)) .nil))) .nil) .nil) (.cons (.asg (.tp [5, 6]) (.slc (.var 0) .nil (.cons (.cst (.int 2)) .nil))) (.cons (.asg (.tp [7, 8]) (.call 5 (.cons (.var 5) (.cons (.var 6) (.cons (.var 3) .nil))))) (.cons (.asg (.nm 4) (.tup (.cons (.bin .add (.var 1) (.bin .mul (.var 6) (.blt .int (.cons (.cmp .eq (.var 5) (.cst (.str t_side))) .nil)))) (.cons (.bin .add (.var 2) (.bin .mul (.var 6) (.blt .int (.cons (.cmp .eq (.var 5) (.cst (.str t_stack))) .nil)))) .nil)))) (.cons (.ret (.bin .add (.call 7 (.cons (.idx (.var 0) (.cst (.int 2))) (.cons (.var 1) (.cons (.var 2) (.cons (.var 7) .nil))))) (.call 7 (.cons (.idx (.var 0) (.cst (.int 3))) (.cons (.idx (.var 4) (.cst (.int 0))) (.cons (.idx (.var 4) (.cst (.int 1))) (.cons (.var 8) .nil))))))) .nil)))))⟩
/-- _law_picture_of -/
def f9_law_picture_of : Fn := ⟨2, 2, (.cons (.ret (.tup (.cons (.var 1) (.cons (.blt .tuple (.cons (.blt .sorted (.cons (.call 7 (.cons (.var 0) (.cons (.cst (.int 0)) (.cons (.cst (.int 0)) (.cons (.var 1) .nil))))) .nil)) .nil)) .nil)))) .nil)⟩
/-- law -/
def f107_law : Fn := ⟨1, 6, (.cons (.for_ (.nm 1) (.rng1 (.cst (.int 16))) (.cons (.asg (.nm 3) (.bin .add (.call 14 (.cons (.var 0) (.cons (.bin .mod (.var 1) (.cst (.int 9))) .nil))) (.bin .mul (.cst (.int 31)) (.var 1)))) (.cons (.asg (.nm 4) (.call 8 (.cons (.var 3) .nil))) (.cons (.asg (.nm 2) (.call 6 (.cons (.var 3) (.cons (.var 4) (.cons (.cst (.int 7)) .nil))))) (.cons (.asg (.nm 5) (.call 25 (.cons (.var 2) (.cons (.var 4) .nil)))) (.cons (.ifs (.or (.not (.call 24 (.cons (.var 5) (.cons (.call 9 (.cons (.var 2) (.cons (.var 4) .nil))) .nil)))) (.cmp .isn (.call 16 (.cons (.var 5) .nil)) (.cst (.bool true)))) (.cons (.ret (.cst (.bool false))) .nil) .nil) (.cons (.ifs (.cmp .ne (.blt .len (.cons (.idx (.var 5) (.cst (.int 1))) .nil)) (.call 20 (.cons (.var 2) .nil))) (.cons (.ret (.cst (.bool false))) .nil) .nil) .nil))))))) (.cons (.asg (.nm 2) (.tup (.cons (.cst (.str t_side)) (.cons (.cst (.int 1)) (.cons (.tup (.cons (.cst (.str t_pane)) .nil)) (.cons (.tup (.cons (.cst (.str t_stack)) (.cons (.cst (.int 2)) (.cons (.tup (.cons (.cst (.str t_pane)) .nil)) (.cons (.tup (.cons (.cst (.str t_pane)) .nil)) .nil))))) .nil)))))) (.cons (.ret (.cmp .eq (.call 25 (.cons (.var 2) (.cons (.tup (.cons (.cst (.int 3)) (.cons (.cst (.int 3)) .nil))) .nil))) (.tup (.cons (.tup (.cons (.cst (.int 3)) (.cons (.cst (.int 3)) .nil))) (.cons (.tup (.cons (.tup (.cons (.cst (.int 0)) (.cons (.cst (.int 0)) (.cons (.cst (.int 1)) (.cons (.cst (.int 3)) .nil))))) (.cons (.tup (.cons (.cst (.int 1)) (.cons (.cst (.int 0)) (.cons (.cst (.int 2)) (.cons (.cst (.int 2)) .nil))))) (.cons (.tup (.cons (.cst (.int 1)) (.cons (.cst (.int 2)) (.cons (.cst (.int 2)) (.cons (.cst (.int 1)) .nil))))) .nil)))) .nil))))) .nil)))⟩
/-- lines_in -/
def f26_lines_in : Fn := ⟨2, 11, (.cons (.asg (.tp [4, 5, 6, 7]) (.var 0)) (.cons (.asg (.nm 2) (.lcf (.nm 8) (.rng2 (.bin .add (.var 4) (.cst (.int 1))) (.bin .add (.var 4) (.var 6))) (.not (.blt .any (.cons (.lc (.nm 10) (.seq (.var 1)) (.chn .lt .lt (.idx (.var 10) (.cst (.int 0))) (.var 8) (.bin .add (.idx (.var 10) (.cst (.int 0))) (.idx (.var 10) (.cst (.int 2)))))) .nil))) (.var 8))) (.cons (.asg (.nm 3) (.lcf (.nm 9) (.rng2 (.bin .add (.var 5) (.cst (.int 1))) (.bin .add (.var 5) (.var 7))) (.not (.blt .any (.cons (.lc (.nm 10) (.seq (.var 1)) (.chn .lt .lt (.idx (.var 10) (.cst (.int 1))) (.var 9) (.bin .add (.idx (.var 10) (.cst (.int 1))) (.idx (.var 10) (.cst (.int 3)))))) .nil))) (.var 9))) (.cons (.ret (.tup (.cons (.var 2) (.cons (.var 3) .nil)))) .nil))))⟩
/-- lines -/
def f29_lines : Fn := ⟨1, 5, (.cons (.asg (.tp [1, 2]) (.var 0)) (.cons (.asg (.tp [3, 4]) (.call 26 (.cons (.bin .add (.tup (.cons (.cst (.int 0)) (.cons (.cst (.int 0)) .nil))) (.var 1)) (.cons (.var 2) .nil)))) (.cons (.ret (.tup (.cons (.blt .tuple (.cons (.var 3) .nil)) (.cons (.blt .tuple (.cons (.var 4) .nil)) .nil)))) .nil)))⟩
/-- _law_wheel -/
def f10_law_wheel : Fn := ⟨2, 12, (.cons (.asg (.tp [3, 4, 5, 6]) (.var 1)) (.cons (.par 7 8 (.bin .add (.cst (.int 1)) (.call 4 (.cons (.var 0) (.cons (.cst (.int 9923)) (.cons (.bin .sub (.var 5) (.cst (.int 2))) .nil))))) (.bin .add (.cst (.int 1)) (.call 4 (.cons (.var 0) (.cons (.cst (.int 9907)) (.cons (.bin .sub (.var 6) (.cst (.int 2))) .nil)))))) (.cons (.par 9 10 (.bin .add (.bin .add (.var 7) (.cst (.int 1))) (.call 4 (.cons (.var 0) (.cons (.cst (.int 9901)) (.cons (.bin .sub (.bin .sub (.var 5) (.var 7)) (.cst (.int 1))) .nil))))) (.bin .add (.bin .add (.var 8) (.cst (.int 1))) (.call 4 (.cons (.var 0) (.cons (.cst (.int 9887)) (.cons (.bin .sub (.bin .sub (.var 6) (.var 8)) (.cst (.int 1))) .nil)))))) (.cons (.asg (.nm 2) (.lst (.cons (.tup (.cons (.cst (.int 0)) (.cons (.cst (.int 0)) (.cons (.var 9) (.cons (.var 8) .nil))))) (.cons (.tup (.cons (.var 9) (.cons (.cst (.int 0)) (.cons (.bin .sub (.var 5) (.var 9)) (.cons (.var 10) .nil))))) (.cons (.tup (.cons (.var 7) (.cons (.var 10) (.cons (.bin .sub (.var 5) (.var 7)) (.cons (.bin .sub (.var 6) (.var 10)) .nil))))) .nil))))) (.cons (.asg (.nm 2) (.bin .add (.var 2) (.lst (.cons (.tup (.cons (.cst (.int 0)) (.cons (.var 8) (.cons (.var 7) (.cons (.bin .sub (.var 6) (.var 8)) .nil))))) (.cons (.tup (.cons (.var 7) (.cons (.var 8) (.cons (.bin .sub (.var 9) (.var 7)) (.cons (.bin .sub (.var 10) (.var 8)) .nil))))) .nil))))) (.cons (.ifs (.cmp .eq (.bin .mod (.var 0) (.cst (.int 2))) (.cst (.int 0))) (.cons (.asg (.nm 2) (.lc (.nm 11) (.seq (.var 2)) (.bin .add (.tup (.cons (.bin .sub (.bin .sub (.var 5) (.idx (.var 11) (.cst (.int 0)))) (.idx (.var 11) (.cst (.int 2)))) .nil)) (.slc (.var 11) (.cons (.cst (.int 1)) .nil) .nil)))) .nil) .nil) (.cons (.ret (.lc (.nm 11) (.seq (.var 2)) (.tup (.cons (.bin .add (.var 3) (.idx (.var 11) (.cst (.int 0)))) (.cons (.bin .add (.var 4) (.idx (.var 11) (.cst (.int 1)))) (.cons (.idx (.var 11) (.cst (.int 2))) (.cons (.idx (.var 11) (.cst (.int 3))) .nil))))))) .nil)))))))⟩
/-- _law_picture -/
def f15_law_picture : Fn := ⟨1, 6, (.cons (.asg (.nm 1) (.call 8 (.cons (.var 0) .nil))) (.cons (.ifs (.cmp .eq (.call 4 (.cons (.var 0) (.cons (.cst (.int 9883)) (.cons (.cst (.int 2)) .nil)))) (.cst (.int 0))) (.cons (.ret (.call 9 (.cons (.call 6 (.cons (.bin .add (.var 0) (.cst (.int 1))) (.cons (.var 1) (.cons (.bin .add (.cst (.int 1)) (.call 4 (.cons (.var 0) (.cons (.cst (.int 9871)) (.cons (.cst (.int 7)) .nil))))) .nil)))) (.cons (.var 1) .nil)))) .nil) .nil) (.cons (.asg (.nm 1) (.tup (.cons (.blt .max (.cons (.cst (.int 3)) (.cons (.idx (.var 1) (.cst (.int 0))) .nil))) (.cons (.blt .max (.cons (.cst (.int 3)) (.cons (.idx (.var 1) (.cst (.int 1))) .nil))) .nil)))) (.cons (.asg (.nm 2) (.call 7 (.cons (.call 6 (.cons (.bin .add (.var 0) (.cst (.int 2))) (.cons (.var 1) (.cons (.bin .add (.cst (.int 1)) (.call 4 (.cons (.var 0) (.cons (.cst (.int 9859)) (.cons (.cst (.int 3)) .nil))))) .nil)))) (.cons (.cst (.int 0)) (.cons (.cst (.int 0)) (.cons (.var 1) .nil)))))) (.cons (.asg (.nm 3) (.lcf (.nm 4) (.seq (.var 2)) (.and (.cmp .gt (.idx (.var 4) (.cst (.int 2))) (.cst (.int 2))) (.cmp .gt (.idx (.var 4) (.cst (.int 3))) (.cst (.int 2)))) (.var 4))) (.cons (.ifs (.var 3) (.cons (.asg (.nm 4) (.idx (.var 3) (.call 4 (.cons (.var 0) (.cons (.cst (.int 9857)) (.cons (.blt .len (.cons (.var 3) .nil)) .nil)))))) (.cons (.asg (.nm 2) (.bin .add (.lcf (.nm 5) (.seq (.var 2)) (.cmp .ne (.var 5) (.var 4)) (.var 5)) (.call 10 (.cons (.var 0) (.cons (.var 4) .nil))))) .nil)) .nil) (.cons (.ret (.tup (.cons (.var 1) (.cons (.blt .tuple (.cons (.blt .sorted (.cons (.var 2) .nil)) .nil)) .nil)))) .nil)))))))⟩
/-- _law_grid -/
def f28_law_grid : Fn := ⟨1, 6, (.cons (.mnew 1) (.cons (.for_ (.tp [2, 3]) (.enum (.idx (.var 0) (.cst (.int 1)))) (.cons (.for_ (.nm 4) (.rng2 (.idx (.var 3) (.cst (.int 1))) (.bin .add (.idx (.var 3) (.cst (.int 1))) (.idx (.var 3) (.cst (.int 3))))) (.cons (.for_ (.nm 5) (.rng2 (.idx (.var 3) (.cst (.int 0))) (.bin .add (.idx (.var 3) (.cst (.int 0))) (.idx (.var 3) (.cst (.int 2))))) (.cons (.mput 1 (.cons (.var 5) (.cons (.var 4) .nil)) (.var 2)) .nil)) .nil)) .nil)) (.cons (.rtm 1) .nil)))⟩
/-- _law_through -/
def f27_law_through : Fn := ⟨2, 10, (.cons (.asg (.tp [6, 7, 8, 9]) (.var 1)) (.cons (.own 2 (.lst .nil)) (.cons (.for_ (.nm 3) (.rng2 (.bin .add (.var 6) (.cst (.int 1))) (.bin .add (.var 6) (.var 8))) (.cons (.ifs (.cmp .eq (.lcf (.nm 5) (.rng2 (.var 7) (.bin .add (.var 7) (.var 9))) (.cmp .eq (.mget 0 (.cons (.var 3) (.cons (.var 5) .nil))) (.mget 0 (.cons (.bin .sub (.var 3) (.cst (.int 1))) (.cons (.var 5) .nil)))) (.var 5)) (.lst .nil)) (.cons (.app 2 (.var 3)) .nil) .nil) .nil)) (.cons (.own 4 (.lst .nil)) (.cons (.for_ (.nm 5) (.rng2 (.bin .add (.var 7) (.cst (.int 1))) (.bin .add (.var 7) (.var 9))) (.cons (.ifs (.cmp .eq (.lcf (.nm 3) (.rng2 (.var 6) (.bin .add (.var 6) (.var 8))) (.cmp .eq (.mget 0 (.cons (.var 3) (.cons (.var 5) .nil))) (.mget 0 (.cons (.var 3) (.cons (.bin .sub (.var 5) (.cst (.int 1))) .nil)))) (.var 3)) (.lst .nil)) (.cons (.app 4 (.var 5)) .nil) .nil) .nil)) (.cons (.frz 2) (.cons (.frz 4) (.cons (.ret (.tup (.cons (.var 2) (.cons (.var 4) .nil)))) .nil))))))))⟩
/-- law -/
def f110_law : Fn := ⟨1, 5, (.cons (.for_ (.nm 1) (.rng1 (.cst (.int 16))) (.cons (.asg (.nm 2) (.call 15 (.cons (.bin .add (.call 14 (.cons (.var 0) (.cons (.bin .mod (.var 1) (.cst (.int 9))) .nil))) (.bin .mul (.cst (.int 31)) (.var 1))) .nil))) (.cons (.asg (.tp [3, 4]) (.call 27 (.cons (.call 28 (.cons (.var 2) .nil)) (.cons (.bin .add (.tup (.cons (.cst (.int 0)) (.cons (.cst (.int 0)) .nil))) (.idx (.var 2) (.cst (.int 0)))) .nil)))) (.cons (.ifs (.not (.call 24 (.cons (.call 29 (.cons (.var 2) .nil)) (.cons (.tup (.cons (.blt .tuple (.cons (.var 3) .nil)) (.cons (.blt .tuple (.cons (.var 4) .nil)) .nil))) .nil)))) (.cons (.ret (.cst (.bool false))) .nil) .nil) .nil)))) (.cons (.ret (.cmp .eq (.call 29 (.cons (.tup (.cons (.tup (.cons (.cst (.int 1)) (.cons (.cst (.int 1)) .nil))) (.cons (.tup (.cons (.tup (.cons (.cst (.int 0)) (.cons (.cst (.int 0)) (.cons (.cst (.int 1)) (.cons (.cst (.int 1)) .nil))))) .nil)) .nil))) .nil)) (.tup (.cons (.tup .nil) (.cons (.tup .nil) .nil))))) .nil))⟩
/-- halves -/
def f30_halves : Fn := ⟨4, 12, (.cons (.asg (.tp [7, 8, 9, 10]) (.var 0)) (.cons (.asg (.nm 4) (.blt .int (.cons (.cmp .eq (.var 2) (.cst (.str t_stack))) .nil))) (.cons (.asg (.nm 5) (.lcf (.nm 11) (.seq (.var 1)) (.cmp .lt (.idx (.var 11) (.var 4)) (.var 3)) (.var 11))) (.cons (.asg (.nm 6) (.lcf (.nm 11) (.seq (.var 1)) (.cmp .ge (.idx (.var 11) (.var 4)) (.var 3)) (.var 11))) (.cons (.ifs (.cmp .eq (.var 2) (.cst (.str t_side))) (.cons (.ret (.tup (.cons (.tup (.cons (.tup (.cons (.var 7) (.cons (.var 8) (.cons (.bin .sub (.var 3) (.var 7)) (.cons (.var 10) .nil))))) (.cons (.var 5) .nil))) (.cons (.tup (.cons (.tup (.cons (.var 3) (.cons (.var 8) (.cons (.bin .sub (.bin .add (.var 7) (.var 9)) (.var 3)) (.cons (.var 10) .nil))))) (.cons (.var 6) .nil))) .nil)))) .nil) .nil) (.cons (.ret (.tup (.cons (.tup (.cons (.tup (.cons (.var 7) (.cons (.var 8) (.cons (.var 9) (.cons (.bin .sub (.var 3) (.var 8)) .nil))))) (.cons (.var 5) .nil))) (.cons (.tup (.cons (.tup (.cons (.var 7) (.cons (.var 3) (.cons (.var 9) (.cons (.bin .sub (.bin .add (.var 8) (.var 10)) (.var 3)) .nil))))) (.cons (.var 6) .nil))) .nil)))) .nil))))))⟩
/-- cuts_in -/
def f32_cuts_in : Fn := ⟨2, 5, (.cons (.asg (.tp [2, 3]) (.call 26 (.cons (.var 0) (.cons (.var 1) .nil)))) (.cons (.ret (.bin .add (.lc (.nm 4) (.seq (.var 2)) (.tup (.cons (.cst (.str t_side)) (.cons (.var 4) .nil)))) (.lc (.nm 4) (.seq (.var 3)) (.tup (.cons (.cst (.str t_stack)) (.cons (.var 4) .nil)))))) .nil))⟩
/-- trees_in -/
def f31_trees_in : Fn := ⟨2, 11, (.cons (.ifs (.cmp .eq (.blt .len (.cons (.var 1) .nil)) (.cst (.int 1))) (.cons (.ret (.lst (.cons (.cst (.tuple [.str t_pane])) .nil))) .nil) .nil) (.cons (.own 2 (.lst .nil)) (.cons (.for_ (.tp [3, 4]) (.seq (.call 32 (.cons (.var 0) (.cons (.var 1) .nil)))) (.cons (.asg (.tp [8, 9]) (.call 30 (.cons (.var 0) (.cons (.var 1) (.cons (.var 3) (.cons (.var 4) .nil)))))) (.cons (.asg (.nm 5) (.bin .sub (.var 4) (.idx (.var 0) (.blt .int (.cons (.cmp .eq (.var 3) (.cst (.str t_stack))) .nil))))) (.cons (.asg (.nm 6) (.call 31 (.cons (.idx (.var 9) (.cst (.int 0))) (.cons (.idx (.var 9) (.cst (.int 1))) .nil)))) (.cons (.for_ (.nm 7) (.seq (.call 31 (.cons (.idx (.var 8) (.cst (.int 0))) (.cons (.idx (.var 8) (.cst (.int 1))) .nil)))) (.cons (.ext 2 (.lc (.nm 10) (.seq (.var 6)) (.tup (.cons (.var 3) (.cons (.var 5) (.cons (.var 7) (.cons (.var 10) .nil))))))) .nil)) .nil))))) (.cons (.rtl 2) .nil))))⟩
/-- trees -/
def f33_trees : Fn := ⟨1, 1, (.cons (.ret (.blt .tuple (.cons (.blt .sorted (.cons (.call 31 (.cons (.bin .add (.tup (.cons (.cst (.int 0)) (.cons (.cst (.int 0)) .nil))) (.idx (.var 0) (.cst (.int 0)))) (.cons (.idx (.var 0) (.cst (.int 1))) .nil))) .nil)) .nil))) .nil)⟩
/-- count_trees -/
def f36_count_trees : Fn := ⟨1, 1, (.cons (.ret (.blt .len (.cons (.call 33 (.cons (.var 0) .nil)) .nil))) .nil)⟩
/-- _law_all_trees -/
def f34_law_all_trees : Fn := ⟨2, 14, (.cons (.asg (.tp [5, 6, 7, 8]) (.var 1)) (.cons (.ifs (.cmp .eq (.lensi (.lc (.nm 13) (.rng1 (.bin .mul (.var 7) (.var 8))) (.mget 0 (.cons (.bin .add (.var 5) (.bin .mod (.var 13) (.var 7))) (.cons (.bin .add (.var 6) (.bin .fdiv (.var 13) (.var 7))) .nil))))) (.cst (.int 1))) (.cons (.ret (.lst (.cons (.tup (.cons (.cst (.str t_pane)) .nil)) .nil))) .nil) .nil) (.cons (.asg (.tp [9, 10]) (.call 27 (.cons (.var 0) (.cons (.var 1) .nil)))) (.cons (.own 2 (.lst .nil)) (.cons (.for_ (.nm 3) (.seq (.var 9)) (.cons (.for_ (.nm 11) (.seq (.call 34 (.cons (.var 0) (.cons (.tup (.cons (.var 5) (.cons (.var 6) (.cons (.bin .sub (.var 3) (.var 5)) (.cons (.var 8) .nil))))) .nil)))) (.cons (.for_ (.nm 12) (.seq (.call 34 (.cons (.var 0) (.cons (.tup (.cons (.var 3) (.cons (.var 6) (.cons (.bin .sub (.bin .add (.var 5) (.var 7)) (.var 3)) (.cons (.var 8) .nil))))) .nil)))) (.cons (.app 2 (.tup (.cons (.cst (.str t_side)) (.cons (.bin .sub (.var 3) (.var 5)) (.cons (.var 11) (.cons (.var 12) .nil)))))) .nil)) .nil)) .nil)) (.cons (.for_ (.nm 4) (.seq (.var 10)) (.cons (.for_ (.nm 11) (.seq (.call 34 (.cons (.var 0) (.cons (.tup (.cons (.var 5) (.cons (.var 6) (.cons (.var 7) (.cons (.bin .sub (.var 4) (.var 6)) .nil))))) .nil)))) (.cons (.for_ (.nm 12) (.seq (.call 34 (.cons (.var 0) (.cons (.tup (.cons (.var 5) (.cons (.var 4) (.cons (.var 7) (.cons (.bin .sub (.bin .add (.var 6) (.var 8)) (.var 4)) .nil))))) .nil)))) (.cons (.app 2 (.tup (.cons (.cst (.str t_stack)) (.cons (.bin .sub (.var 4) (.var 6)) (.cons (.var 11) (.cons (.var 12) .nil)))))) .nil)) .nil)) .nil)) (.cons (.rtl 2) .nil)))))))⟩
/-- _law_trees_of -/
def f35_law_trees_of : Fn := ⟨1, 1, (.cons (.ret (.blt .tuple (.cons (.blt .sorted (.cons (.call 34 (.cons (.call 28 (.cons (.var 0) .nil)) (.cons (.bin .add (.tup (.cons (.cst (.int 0)) (.cons (.cst (.int 0)) .nil))) (.idx (.var 0) (.cst (.int 0)))) .nil))) .nil)) .nil))) .nil)⟩
/-- law -/
def f111_law : Fn := ⟨1, 7, (.cons (.for_ (.nm 1) (.rng1 (.cst (.int 8))) (.cons (.asg (.nm 4) (.call 15 (.cons (.bin .add (.call 14 (.cons (.var 0) (.cons (.var 1) .nil))) (.bin .mul (.cst (.int 3)) (.var 1))) .nil))) (.cons (.asg (.nm 5) (.call 35 (.cons (.var 4) .nil))) (.cons (.ifs (.not (.call 24 (.cons (.tup (.cons (.call 33 (.cons (.var 4) .nil)) (.cons (.call 36 (.cons (.var 4) .nil)) .nil))) (.cons (.tup (.cons (.var 5) (.cons (.blt .len (.cons (.var 5) .nil)) .nil))) .nil)))) (.cons (.ret (.cst (.bool false))) .nil) .nil) .nil)))) (.cons (.asg (.nm 2) (.tup (.cons (.tup (.cons (.cst (.int 2)) (.cons (.cst (.int 2)) .nil))) (.cons (.tup (.cons (.tup (.cons (.cst (.int 0)) (.cons (.cst (.int 0)) (.cons (.cst (.int 1)) (.cons (.cst (.int 1)) .nil))))) (.cons (.tup (.cons (.cst (.int 0)) (.cons (.cst (.int 1)) (.cons (.cst (.int 1)) (.cons (.cst (.int 1)) .nil))))) (.cons (.tup (.cons (.cst (.int 1)) (.cons (.cst (.int 0)) (.cons (.cst (.int 1)) (.cons (.cst (.int 1)) .nil))))) (.cons (.tup (.cons (.cst (.int 1)) (.cons (.cst (.int 1)) (.cons (.cst (.int 1)) (.cons (.cst (.int 1)) .nil))))) .nil))))) .nil)))) (.cons (.asg (.nm 3) (.tup (.cons (.tup (.cons (.cst (.int 6)) (.cons (.cst (.int 1)) .nil))) (.cons (.blt .tuple (.cons (.lc (.nm 6) (.rng1 (.cst (.int 6))) (.tup (.cons (.var 6) (.cons (.cst (.int 0)) (.cons (.cst (.int 1)) (.cons (.cst (.int 1)) .nil)))))) .nil)) .nil)))) (.cons (.ret (.and (.cmp .eq (.call 36 (.cons (.var 2) .nil)) (.cst (.int 2))) (.cmp .eq (.call 36 (.cons (.var 3) .nil)) (.cst (.int 42))))) .nil))))⟩
/-- knot_in -/
def f43_knot_in : Fn := ⟨2, 6, (.cons (.ifs (.cmp .eq (.blt .len (.cons (.var 1) .nil)) (.cst (.int 1))) (.cons (.ret (.cst (.none))) .nil) .nil) (.cons (.asg (.nm 2) (.call 32 (.cons (.var 0) (.cons (.var 1) .nil)))) (.cons (.ifs (.not (.var 2)) (.cons (.ret (.var 0)) .nil) .nil) (.cons (.asg (.tp [4, 5]) (.call 30 (.cons (.var 0) (.cons (.var 1) (.cons (.idx (.idx (.var 2) (.cst (.int 0))) (.cst (.int 0))) (.cons (.idx (.idx (.var 2) (.cst (.int 0))) (.cst (.int 1))) .nil)))))) (.cons (.asg (.nm 3) (.call 43 (.cons (.idx (.var 4) (.cst (.int 0))) (.cons (.idx (.var 4) (.cst (.int 1))) .nil)))) (.cons (.ifs (.cmp .isn (.var 3) (.cst (.none))) (.cons (.ret (.var 3)) .nil) .nil) (.cons (.ret (.call 43 (.cons (.idx (.var 5) (.cst (.int 0))) (.cons (.idx (.var 5) (.cst (.int 1))) .nil)))) .nil)))))))⟩
/-- knot -/
def f47_knot : Fn := ⟨1, 1, (.cons (.ret (.call 43 (.cons (.bin .add (.tup (.cons (.cst (.int 0)) (.cons (.cst (.int 0)) .nil))) (.idx (.var 0) (.cst (.int 0)))) (.cons (.idx (.var 0) (.cst (.int 1))) .nil)))) .nil)⟩
/-- is_inside -/
def f44_is_inside : Fn := ⟨2, 2, (.cons (.ifs (.or (.cmp .lt (.idx (.var 0) (.cst (.int 0))) (.idx (.var 1) (.cst (.int 0)))) (.cmp .lt (.idx (.var 0) (.cst (.int 1))) (.idx (.var 1) (.cst (.int 1))))) (.cons (.ret (.cst (.bool false))) .nil) .nil) (.cons (.ret (.and (.cmp .le (.bin .add (.idx (.var 0) (.cst (.int 0))) (.idx (.var 0) (.cst (.int 2)))) (.bin .add (.idx (.var 1) (.cst (.int 0))) (.idx (.var 1) (.cst (.int 2))))) (.cmp .le (.bin .add (.idx (.var 0) (.cst (.int 1))) (.idx (.var 0) (.cst (.int 3)))) (.bin .add (.idx (.var 1) (.cst (.int 1))) (.idx (.var 1) (.cst (.int 3))))))) .nil))⟩
/-- is_apart -/
def f45_is_apart : Fn := ⟨2, 2, (.cons (.ifs (.or (.cmp .ge (.idx (.var 0) (.cst (.int 0))) (.bin .add (.idx (.var 1) (.cst (.int 0))) (.idx (.var 1) (.cst (.int 2))))) (.cmp .ge (.idx (.var 1) (.cst (.int 0))) (.bin .add (.idx (.var 0) (.cst (.int 0))) (.idx (.var 0) (.cst (.int 2)))))) (.cons (.ret (.cst (.bool true))) .nil) .nil) (.cons (.ret (.or (.cmp .ge (.idx (.var 0) (.cst (.int 1))) (.bin .add (.idx (.var 1) (.cst (.int 1))) (.idx (.var 1) (.cst (.int 3))))) (.cmp .ge (.idx (.var 1) (.cst (.int 1))) (.bin .add (.idx (.var 0) (.cst (.int 1))) (.idx (.var 0) (.cst (.int 3))))))) .nil))⟩
/-- is_knot -/
def f49_is_knot : Fn := ⟨2, 6, (.cons (.asg (.tp [3, 4]) (.var 0)) (.cons (.ifs (.not (.call 2 (.cons (.var 1) (.cons (.var 3) .nil)))) (.cons (.ret (.cst (.bool false))) .nil) .nil) (.cons (.asg (.nm 2) (.lcf (.nm 5) (.seq (.var 4)) (.call 44 (.cons (.var 5) (.cons (.var 1) .nil))) (.var 5))) (.cons (.ifs (.or (.not (.blt .all (.cons (.lc (.nm 5) (.seq (.var 4)) (.or (.call 44 (.cons (.var 5) (.cons (.var 1) .nil))) (.call 45 (.cons (.var 5) (.cons (.var 1) .nil))))) .nil))) (.cmp .lt (.blt .len (.cons (.var 2) .nil)) (.cst (.int 2)))) (.cons (.ret (.cst (.bool false))) .nil) .nil) (.cons (.ret (.not (.call 32 (.cons (.var 1) (.cons (.var 2) .nil))))) .nil)))))⟩
/-- law -/
def f112_law : Fn := ⟨1, 16, (.cons (.for_ (.nm 1) (.rng1 (.cst (.int 12))) (.cons (.asg (.nm 2) (.bin .add (.call 14 (.cons (.var 0) (.cons (.bin .mod (.var 1) (.cst (.int 9))) .nil))) (.bin .mul (.cst (.int 31)) (.var 1)))) (.cons (.asg (.nm 3) (.call 15 (.cons (.var 2) .nil))) (.cons (.asg (.nm 4) (.call 47 (.cons (.var 3) .nil))) (.cons (.ifs (.cmp .ne (.cmp .eq (.call 36 (.cons (.var 3) .nil)) (.cst (.int 0))) (.cmp .isn (.var 4) (.cst (.none)))) (.cons (.ret (.cst (.bool false))) .nil) .nil) (.cons (.ifs (.cmp .isn (.var 4) (.cst (.none))) (.cons (.asg (.tp [11, 12, 13, 14]) (.var 4)) (.cons (.asg (.nm 9) (.lcf (.nm 15) (.seq (.idx (.var 3) (.cst (.int 1)))) (.and (.chn .le .lt (.var 11) (.idx (.var 15) (.cst (.int 0))) (.bin .add (.var 11) (.var 13))) (.chn .le .lt (.var 12) (.idx (.var 15) (.cst (.int 1))) (.bin .add (.var 12) (.var 14)))) (.var 15))) (.cons (.ifs (.or (.cmp .isn (.call 49 (.cons (.var 3) (.cons (.var 4) .nil))) (.cst (.bool true))) (.or (.cmp .lt (.blt .len (.cons (.var 9) .nil)) (.cst (.int 5))) (.or (.cmp .lt (.var 13) (.cst (.int 3))) (.cmp .lt (.var 14) (.cst (.int 3)))))) (.cons (.ret (.cst (.bool false))) .nil) .nil) .nil))) .nil) (.cons (.asg (.nm 5) (.tup (.cons (.blt .max (.cons (.cst (.int 3)) (.cons (.idx (.idx (.var 3) (.cst (.int 0))) (.cst (.int 0))) .nil))) (.cons (.blt .max (.cons (.cst (.int 3)) (.cons (.idx (.idx (.var 3) (.cst (.int 0))) (.cst (.int 1))) .nil))) .nil)))) (.cons (.asg (.nm 6) (.tup (.cons (.var 5) (.cons (.blt .tuple (.cons (.blt .sorted (.cons (.call 10 (.cons (.var 2) (.cons (.bin .add (.tup (.cons (.cst (.int 0)) (.cons (.cst (.int 0)) .nil))) (.var 5)) .nil))) .nil)) .nil)) .nil)))) (.cons (.ifs (.or (.cmp .ne (.call 47 (.cons (.var 6) .nil)) (.bin .add (.tup (.cons (.cst (.int 0)) (.cons (.cst (.int 0)) .nil))) (.var 5))) (.or (.cmp .ne (.call 29 (.cons (.var 6) .nil)) (.tup (.cons (.tup .nil) (.cons (.tup .nil) .nil)))) (.cmp .isn (.call 49 (.cons (.var 6) (.cons (.bin .add (.tup (.cons (.cst (.int 0)) (.cons (.cst (.int 0)) .nil))) (.var 5)) .nil))) (.cst (.bool true))))) (.cons (.ret (.cst (.bool false))) .nil) .nil) (.cons (.asg (.nm 7) (.call 9 (.cons (.call 6 (.cons (.var 2) (.cons (.var 5) (.cons (.cst (.int 7)) .nil)))) (.cons (.var 5) .nil)))) (.cons (.for_ (.nm 8) (.rng1 (.cst (.int 6))) (.cons (.asg (.tp [11, 12]) (.tup (.cons (.call 4 (.cons (.bin .add (.var 2) (.var 8)) (.cons (.cst (.int 9811)) (.cons (.idx (.var 5) (.cst (.int 0))) .nil)))) (.cons (.call 4 (.cons (.bin .add (.var 2) (.var 8)) (.cons (.cst (.int 9803)) (.cons (.idx (.var 5) (.cst (.int 1))) .nil)))) .nil)))) (.cons (.asg (.nm 10) (.tup (.cons (.var 11) (.cons (.var 12) (.cons (.bin .sub (.idx (.var 5) (.cst (.int 0))) (.var 11)) (.cons (.bin .sub (.idx (.var 5) (.cst (.int 1))) (.var 12)) .nil)))))) (.cons (.ifs (.or (.call 49 (.cons (.var 7) (.cons (.var 10) .nil))) (.call 49 (.cons (.var 7) (.cons (.tup (.cons (.cst (.int 0)) (.cons (.cst (.int 0)) (.cons (.bin .add (.var 11) (.cst (.int 1))) (.cons (.bin .add (.var 12) (.cst (.int 1))) .nil))))) .nil)))) (.cons (.ret (.cst (.bool false))) .nil) .nil) .nil)))) (.cons (.ifs (.or (.cmp .isn (.call 47 (.cons (.var 7) .nil)) (.cst (.none))) (.cmp .lt (.call 36 (.cons (.var 7) .nil)) (.cst (.int 1)))) (.cons (.ret (.cst (.bool false))) .nil) .nil) .nil)))))))))))) (.cons (.ret (.cst (.bool true))) .nil))⟩
/-- must_have -/
def f108_must_have : Fn := ⟨2, 2, (.cons (.ifs (.cmp .nin (.var 1) (.idx (.var 0) (.cst (.int 1)))) (.cons (.rse 2) .nil) .nil) .nil)⟩
/-- parted -/
def f77_parted : Fn := ⟨4, 11, (.cons (.exp (.call 108 (.cons (.var 0) (.cons (.var 1) .nil)))) (.cons (.asg (.tp [6, 7, 8, 9]) (.var 1)) (.cons (.asg (.nm 4) (.ite (.cmp .eq (.var 2) (.cst (.str t_side))) (.var 8) (.var 9))) (.cons (.ifs (.or (.not (.chn .lt .lt (.cst (.int 0)) (.var 3) (.var 4))) (.cmp .ge (.blt .len (.cons (.idx (.var 0) (.cst (.int 1))) .nil)) (.cst (.int 7)))) (.cons (.rse 3) .nil) .nil) (.cons (.asg (.nm 5) (.lst (.cons (.tup (.cons (.var 6) (.cons (.var 7) (.cons (.var 8) (.cons (.var 3) .nil))))) (.cons (.tup (.cons (.var 6) (.cons (.bin .add (.var 7) (.var 3)) (.cons (.var 8) (.cons (.bin .sub (.var 9) (.var 3)) .nil))))) .nil)))) (.cons (.ifs (.cmp .eq (.var 2) (.cst (.str t_side))) (.cons (.asg (.nm 5) (.lst (.cons (.tup (.cons (.var 6) (.cons (.var 7) (.cons (.var 3) (.cons (.var 9) .nil))))) (.cons (.tup (.cons (.bin .add (.var 6) (.var 3)) (.cons (.var 7) (.cons (.bin .sub (.var 8) (.var 3)) (.cons (.var 9) .nil))))) .nil)))) .nil) .nil) (.cons (.ret (.tup (.cons (.idx (.var 0) (.cst (.int 0))) (.cons (.blt .tuple (.cons (.blt .sorted (.cons (.bin .add (.lcf (.nm 10) (.seq (.idx (.var 0) (.cst (.int 1)))) (.cmp .ne (.var 10) (.var 1)) (.var 10)) (.var 5)) .nil)) .nil)) .nil)))) .nil)))))))⟩
/-- pane_of_both -/
def f71_pane_of_both : Fn := ⟨2, 4, (.cons (.par 2 3 (.blt .min (.cons (.var 0) (.cons (.var 1) .nil))) (.blt .max (.cons (.var 0) (.cons (.var 1) .nil)))) (.cons (.ifs (.and (.cmp .eq (.idx (.var 2) (.cst (.int 1))) (.idx (.var 3) (.cst (.int 1)))) (.and (.cmp .eq (.idx (.var 2) (.cst (.int 3))) (.idx (.var 3) (.cst (.int 3)))) (.cmp .eq (.bin .add (.idx (.var 2) (.cst (.int 0))) (.idx (.var 2) (.cst (.int 2)))) (.idx (.var 3) (.cst (.int 0)))))) (.cons (.ret (.tup (.cons (.idx (.var 2) (.cst (.int 0))) (.cons (.idx (.var 2) (.cst (.int 1))) (.cons (.bin .add (.idx (.var 2) (.cst (.int 2))) (.idx (.var 3) (.cst (.int 2)))) (.cons (.idx (.var 2) (.cst (.int 3))) .nil)))))) .nil) .nil) (.cons (.ifs (.and (.cmp .eq (.idx (.var 2) (.cst (.int 0))) (.idx (.var 3) (.cst (.int 0)))) (.and (.cmp .eq (.idx (.var 2) (.cst (.int 2))) (.idx (.var 3) (.cst (.int 2)))) (.cmp .eq (.bin .add (.idx (.var 2) (.cst (.int 1))) (.idx (.var 2) (.cst (.int 3)))) (.idx (.var 3) (.cst (.int 1)))))) (.cons (.ret (.tup (.cons (.idx (.var 2) (.cst (.int 0))) (.cons (.idx (.var 2) (.cst (.int 1))) (.cons (.idx (.var 2) (.cst (.int 2))) (.cons (.bin .add (.idx (.var 2) (.cst (.int 3))) (.idx (.var 3) (.cst (.int 3)))) .nil)))))) .nil) .nil) (.cons (.ret (.cst (.none))) .nil))))⟩
/-- joined -/
def f78_joined : Fn := ⟨3, 5, (.cons (.exp (.call 108 (.cons (.var 0) (.cons (.var 1) .nil)))) (.cons (.exp (.call 108 (.cons (.var 0) (.cons (.var 2) .nil)))) (.cons (.asg (.nm 3) (.call 71 (.cons (.var 1) (.cons (.var 2) .nil)))) (.cons (.ifs (.cmp .is_ (.var 3) (.cst (.none))) (.cons (.rse 4) .nil) .nil) (.cons (.ret (.tup (.cons (.idx (.var 0) (.cst (.int 0))) (.cons (.blt .tuple (.cons (.blt .sorted (.cons (.bin .add (.lcf (.nm 4) (.seq (.idx (.var 0) (.cst (.int 1)))) (.cmp .nin (.var 4) (.tup (.cons (.var 1) (.cons (.var 2) .nil)))) (.var 4)) (.lst (.cons (.var 3) .nil))) .nil)) .nil)) .nil)))) .nil)))))⟩
/-- joins -/
def f76_joins : Fn := ⟨1, 6, (.cons (.asg (.nm 1) (.idx (.var 0) (.cst (.int 1)))) (.cons (.own 2 (.lst .nil)) (.cons (.for_ (.tp [3, 4]) (.enum (.var 1)) (.cons (.ext 2 (.lcf (.nm 5) (.seq (.slc (.var 1) (.cons (.bin .add (.var 3) (.cst (.int 1))) .nil) .nil)) (.cmp .isn (.call 71 (.cons (.var 4) (.cons (.var 5) .nil))) (.cst (.none))) (.tup (.cons (.var 4) (.cons (.var 5) .nil))))) .nil)) (.cons (.ret (.blt .tuple (.cons (.var 2) .nil))) .nil))))⟩
/-- _law_cut -/
def f75_law_cut : Fn := ⟨2, 5, (.cons (.asg (.nm 2) (.lcf (.nm 3) (.seq (.idx (.var 1) (.cst (.int 1)))) (.or (.cmp .gt (.idx (.var 3) (.cst (.int 2))) (.cst (.int 1))) (.cmp .gt (.idx (.var 3) (.cst (.int 3))) (.cst (.int 1)))) (.var 3))) (.cons (.ifs (.or (.cmp .eq (.var 2) (.lst .nil)) (.cmp .gt (.blt .len (.cons (.idx (.var 1) (.cst (.int 1))) .nil)) (.cst (.int 6)))) (.cons (.ret (.cst (.none))) .nil) .nil) (.cons (.asg (.nm 3) (.idx (.var 2) (.call 4 (.cons (.var 0) (.cons (.cst (.int 9719)) (.cons (.blt .len (.cons (.var 2) .nil)) .nil)))))) (.cons (.asg (.nm 4) (.ite (.and (.cmp .gt (.idx (.var 3) (.cst (.int 2))) (.cst (.int 1))) (.or (.cmp .eq (.idx (.var 3) (.cst (.int 3))) (.cst (.int 1))) (.cmp .eq (.bin .mod (.var 0) (.cst (.int 2))) (.cst (.int 0))))) (.cst (.str t_side)) (.cst (.str t_stack)))) (.cons (.ret (.tup (.cons (.var 3) (.cons (.var 4) (.cons (.bin .add (.cst (.int 1)) (.call 4 (.cons (.var 0) (.cons (.cst (.int 9697)) (.cons (.bin .sub (.idx (.var 3) (.bin .add (.cst (.int 2)) (.blt .int (.cons (.cmp .eq (.var 4) (.cst (.str t_stack))) .nil)))) (.cst (.int 1))) .nil))))) .nil))))) .nil)))))⟩
/-- law -/
def f113_law : Fn := ⟨1, 16, (.cons (.for_ (.nm 1) (.rng1 (.cst (.int 8))) (.cons (.asg (.nm 2) (.call 15 (.cons (.bin .add (.call 14 (.cons (.var 0) (.cons (.var 1) .nil))) (.bin .mul (.cst (.int 3)) (.var 1))) .nil))) (.cons (.for_ (.nm 3) (.rng1 (.cst (.int 6))) (.cons (.asg (.nm 4) (.bin .add (.bin .add (.call 14 (.cons (.var 0) (.cons (.bin .add (.cst (.int 8)) (.bin .mod (.var 3) (.cst (.int 2)))) .nil))) (.bin .mul (.cst (.int 7)) (.var 3))) (.bin .mul (.cst (.int 11)) (.var 1)))) (.cons (.asg (.nm 5) (.call 75 (.cons (.var 4) (.cons (.var 2) .nil)))) (.cons (.asg (.nm 6) (.call 76 (.cons (.var 2) .nil))) (.cons (.asg (.nm 7) (.cmp .gt (.call 36 (.cons (.var 2) .nil)) (.cst (.int 0)))) (.cons (.ifs (.and (.var 7) (.and (.cmp .eq (.var 6) (.tup .nil)) (.cmp .gt (.blt .len (.cons (.idx (.var 2) (.cst (.int 1))) .nil)) (.cst (.int 1))))) (.cons (.ret (.cst (.bool false))) .nil) .nil) (.cons (.ifs (.and (.cmp .isn (.var 5) (.cst (.none))) (.cmp .gt (.bin .mod (.var 4) (.cst (.int 3))) (.cst (.int 0)))) (.cons (.asg (.nm 8) (.call 77 (.cons (.var 2) (.cons (.idx (.var 5) (.cst (.int 0))) (.cons (.idx (.var 5) (.cst (.int 1))) (.cons (.idx (.var 5) (.cst (.int 2))) .nil)))))) (.cons (.asg (.nm 9) (.blt .tuple (.cons (.lcf (.nm 15) (.seq (.idx (.var 8) (.cst (.int 1)))) (.cmp .nin (.var 15) (.idx (.var 2) (.cst (.int 1)))) (.var 15)) .nil))) (.cons (.ifs (.or (.cmp .nin (.var 9) (.call 76 (.cons (.var 8) .nil))) (.or (.cmp .ne (.call 78 (.cons (.var 8) (.cons (.idx (.var 9) (.cst (.int 1))) (.cons (.idx (.var 9) (.cst (.int 0))) .nil)))) (.var 2)) (.cmp .isn (.call 16 (.cons (.var 8) .nil)) (.cst (.bool true))))) (.cons (.ret (.cst (.bool false))) .nil) .nil) (.cons (.ifs (.and (.var 7) (.or (.cmp .eq (.call 36 (.cons (.var 8) .nil)) (.cst (.int 0))) (.cmp .isn (.call 47 (.cons (.var 8) .nil)) (.cst (.none))))) (.cons (.ret (.cst (.bool false))) .nil) .nil) (.cons (.asg (.nm 2) (.var 8)) .nil))))) (.cons (.ifs (.cmp .ne (.var 6) (.tup .nil)) (.cons (.asg (.tp [13, 14]) (.idx (.var 6) (.call 4 (.cons (.var 4) (.cons (.cst (.int 9689)) (.cons (.blt .len (.cons (.var 6) .nil)) .nil)))))) (.cons (.asg (.nm 8) (.call 78 (.cons (.var 2) (.cons (.var 13) (.cons (.var 14) .nil))))) (.cons (.asg (.nm 10) (.idx (.lcf (.nm 15) (.seq (.idx (.var 8) (.cst (.int 1)))) (.cmp .nin (.var 15) (.idx (.var 2) (.cst (.int 1)))) (.var 15)) (.cst (.int 0)))) (.cons (.asg (.nm 11) (.ite (.and (.cmp .eq (.idx (.var 13) (.cst (.int 1))) (.idx (.var 14) (.cst (.int 1)))) (.cmp .ne (.idx (.var 13) (.cst (.int 0))) (.idx (.var 14) (.cst (.int 0))))) (.cst (.str t_side)) (.cst (.str t_stack)))) (.cons (.asg (.nm 12) (.ite (.cmp .eq (.var 11) (.cst (.str t_side))) (.idx (.var 13) (.cst (.int 2))) (.idx (.var 13) (.cst (.int 3))))) (.cons (.ifs (.or (.cmp .ne (.call 77 (.cons (.var 8) (.cons (.var 10) (.cons (.var 11) (.cons (.var 12) .nil))))) (.var 2)) (.cmp .isn (.call 16 (.cons (.var 8) .nil)) (.cst (.bool true)))) (.cons (.ret (.cst (.bool false))) .nil) .nil) (.cons (.asg (.nm 2) (.var 8)) .nil))))))) .nil) .nil)) .nil))))))) .nil))) (.cons (.ret (.cst (.bool true))) .nil))⟩
/-- pictures_on -/
def f94_pictures_on : Fn := ⟨3, 16, (.cons (.asg (.tp [7, 8]) (.var 0)) (.cons (.own 3 (.lst .nil)) (.cons (.for_ (.nm 4) (.rng1 (.var 8)) (.cons (.ext 3 (.lcf (.nm 14) (.rng1 (.var 7)) (.cmp .nin (.tup (.cons (.var 14) (.cons (.var 4) .nil))) (.var 2)) (.tup (.cons (.var 4) (.cons (.var 14) .nil))))) .nil)) (.cons (.ifs (.not (.var 3)) (.cons (.ret (.lst (.cons (.tup (.cons (.var 0) (.cons (.blt .tuple (.cons (.blt .sorted (.cons (.var 1) .nil)) .nil)) .nil))) .nil))) .nil) .nil) (.cons (.asg (.tp [9, 10]) (.idx (.var 3) (.cst (.int 0)))) (.cons (.own 5 (.lst .nil)) (.cons (.for_ (.nm 6) (.rng2 (.bin .add (.var 10) (.cst (.int 1))) (.bin .add (.var 7) (.cst (.int 1)))) (.cons (.for_ (.nm 11) (.rng2 (.bin .add (.var 9) (.cst (.int 1))) (.bin .add (.var 8) (.cst (.int 1)))) (.cons (.asg (.nm 12) (.tup (.cons (.var 10) (.cons (.var 9) (.cons (.bin .sub (.var 6) (.var 10)) (.cons (.bin .sub (.var 11) (.var 9)) .nil)))))) (.cons (.asg (.nm 13) (.call 3 (.cons (.var 12) .nil))) (.cons (.ifs (.not (.blt .any (.cons (.lc (.nm 15) (.seq (.var 13)) (.cmp .in_ (.var 15) (.var 2))) .nil))) (.cons (.ext 5 (.call 94 (.cons (.var 0) (.cons (.bin .add (.var 1) (.lst (.cons (.var 12) .nil))) (.cons (.bin .add (.var 2) (.var 13)) .nil))))) .nil) .nil) .nil)))) .nil)) (.cons (.rtl 5) .nil))))))))⟩
/-- all_pictures -/
def f95_all_pictures : Fn := ⟨1, 1, (.cons (.ret (.blt .tuple (.cons (.blt .sorted (.cons (.call 94 (.cons (.var 0) (.cons (.lst .nil) (.cons (.lst .nil) .nil)))) .nil)) .nil))) .nil)⟩
/-- count_pictures -/
def f97_count_pictures : Fn := ⟨1, 1, (.cons (.ret (.blt .len (.cons (.call 95 (.cons (.var 0) .nil)) .nil))) .nil)⟩
/-- count_cut -/
def f98_count_cut : Fn := ⟨1, 2, (.cons (.ret (.blt .len (.cons (.lcf (.nm 1) (.seq (.call 95 (.cons (.var 0) .nil))) (.cmp .is_ (.call 47 (.cons (.var 1) .nil)) (.cst (.none))) (.var 1)) .nil))) .nil)⟩
/-- _law_filled -/
def f96_law_filled : Fn := ⟨2, 12, (.cons (.mnew 2) (.cons (.for_ (.tp [7, 8, 6, 9]) (.seq (.var 1)) (.cons (.for_ (.nm 10) (.rng1 (.bin .mul (.var 6) (.var 9))) (.cons (.mput 2 (.cons (.bin .add (.var 7) (.bin .mod (.var 10) (.var 6))) (.cons (.bin .add (.var 8) (.bin .fdiv (.var 10) (.var 6))) .nil)) (.cst (.bool true))) .nil)) .nil)) (.cons (.asg (.nm 3) (.lc (.nm 10) (.rng1 (.bin .mul (.idx (.var 0) (.cst (.int 0))) (.idx (.var 0) (.cst (.int 1))))) (.tup (.cons (.bin .mod (.var 10) (.idx (.var 0) (.cst (.int 0)))) (.cons (.bin .fdiv (.var 10) (.idx (.var 0) (.cst (.int 0)))) .nil))))) (.cons (.asg (.nm 4) (.lcf (.nm 11) (.seq (.var 3)) (.cmp .nin (.var 11) (.var 2)) (.var 11))) (.cons (.ifs (.cmp .eq (.var 4) (.lst .nil)) (.cons (.ret (.lst (.cons (.tup (.cons (.var 0) (.cons (.blt .tuple (.cons (.blt .sorted (.cons (.var 1) .nil)) .nil)) .nil))) .nil))) .nil) .nil) (.cons (.asg (.tp [7, 8]) (.idx (.var 4) (.cst (.int 0)))) (.cons (.own 5 (.lst .nil)) (.cons (.for_ (.nm 6) (.rng2 (.cst (.int 1)) (.bin .add (.bin .sub (.idx (.var 0) (.cst (.int 0))) (.var 7)) (.cst (.int 1)))) (.cons (.ifs (.cmp .nin (.tup (.cons (.bin .sub (.bin .add (.var 7) (.var 6)) (.cst (.int 1))) (.cons (.var 8) .nil))) (.var 4)) (.cons (.rtl 5) .nil) .nil) (.cons (.for_ (.nm 9) (.rng2 (.cst (.int 1)) (.bin .add (.bin .sub (.idx (.var 0) (.cst (.int 1))) (.var 8)) (.cst (.int 1)))) (.cons (.ext 5 (.call 96 (.cons (.var 0) (.cons (.bin .add (.var 1) (.lst (.cons (.tup (.cons (.var 7) (.cons (.var 8) (.cons (.var 6) (.cons (.var 9) .nil))))) .nil))) .nil)))) .nil)) .nil))) (.cons (.rtl 5) .nil)))))))))⟩
/-- law -/
def f114_law : Fn := ⟨1, 9, (.cons (.asg (.nm 1) (.lst (.cons (.tup (.cons (.cst (.int 1)) (.cons (.cst (.int 1)) .nil))) (.cons (.tup (.cons (.cst (.int 1)) (.cons (.cst (.int 2)) .nil))) (.cons (.tup (.cons (.cst (.int 2)) (.cons (.cst (.int 1)) .nil))) (.cons (.tup (.cons (.cst (.int 1)) (.cons (.cst (.int 3)) .nil))) (.cons (.tup (.cons (.cst (.int 3)) (.cons (.cst (.int 1)) .nil))) (.cons (.tup (.cons (.cst (.int 2)) (.cons (.cst (.int 2)) .nil))) (.cons (.tup (.cons (.cst (.int 1)) (.cons (.cst (.int 4)) .nil))) .nil))))))))) (.cons (.asg (.nm 1) (.bin .add (.var 1) (.lst (.cons (.tup (.cons (.cst (.int 4)) (.cons (.cst (.int 1)) .nil))) (.cons (.tup (.cons (.cst (.int 1)) (.cons (.cst (.int 5)) .nil))) (.cons (.tup (.cons (.cst (.int 5)) (.cons (.cst (.int 1)) .nil))) (.cons (.tup (.cons (.cst (.int 2)) (.cons (.cst (.int 3)) .nil))) (.cons (.tup (.cons (.cst (.int 3)) (.cons (.cst (.int 2)) .nil))) (.cons (.tup (.cons (.cst (.int 1)) (.cons (.cst (.int 6)) .nil))) .nil))))))))) (.cons (.asg (.nm 2) (.idx (.var 1) (.call 4 (.cons (.call 14 (.cons (.var 0) (.cons (.cst (.int 0)) .nil))) (.cons (.cst (.int 9631)) (.cons (.cst (.int 13)) .nil)))))) (.cons (.asg (.nm 3) (.blt .tuple (.cons (.blt .sorted (.cons (.call 96 (.cons (.var 2) (.cons (.lst .nil) .nil))) .nil)) .nil))) (.cons (.ifs (.not (.call 24 (.cons (.tup (.cons (.call 95 (.cons (.var 2) .nil)) (.cons (.call 97 (.cons (.var 2) .nil)) .nil))) (.cons (.tup (.cons (.var 3) (.cons (.blt .len (.cons (.var 3) .nil)) .nil))) .nil)))) (.cons (.ret (.cst (.bool false))) .nil) .nil) (.cons (.asg (.nm 4) (.lcf (.nm 8) (.seq (.var 3)) (.cmp .ne (.call 35 (.cons (.var 8) .nil)) (.tup .nil)) (.var 8))) (.cons (.ifs (.or (.cmp .ne (.call 98 (.cons (.var 2) .nil)) (.blt .len (.cons (.var 4) .nil))) (.cmp .ne (.blt .len (.cons (.var 4) .nil)) (.blt .len (.cons (.var 3) .nil)))) (.cons (.ret (.cst (.bool false))) .nil) .nil) (.cons (.asg (.nm 5) (.lst (.cons (.tup (.cons (.tup (.cons (.cst (.int 2)) (.cons (.cst (.int 2)) .nil))) (.cons (.cst (.int 8)) (.cons (.cst (.int 8)) .nil)))) (.cons (.tup (.cons (.tup (.cons (.cst (.int 2)) (.cons (.cst (.int 3)) .nil))) (.cons (.cst (.int 34)) (.cons (.cst (.int 34)) .nil)))) (.cons (.tup (.cons (.tup (.cons (.cst (.int 3)) (.cons (.cst (.int 3)) .nil))) (.cons (.cst (.int 322)) (.cons (.cst (.int 320)) .nil)))) .nil))))) (.cons (.asg (.nm 5) (.bin .add (.var 5) (.lst (.cons (.tup (.cons (.tup (.cons (.cst (.int 2)) (.cons (.cst (.int 4)) .nil))) (.cons (.cst (.int 148)) (.cons (.cst (.int 148)) .nil)))) (.cons (.tup (.cons (.tup (.cons (.cst (.int 4)) (.cons (.cst (.int 2)) .nil))) (.cons (.cst (.int 148)) (.cons (.cst (.int 148)) .nil)))) (.cons (.tup (.cons (.tup (.cons (.cst (.int 1)) (.cons (.cst (.int 6)) .nil))) (.cons (.cst (.int 32)) (.cons (.cst (.int 32)) .nil)))) .nil)))))) (.cons (.asg (.tp [2, 6, 7]) (.idx (.var 5) (.call 4 (.cons (.call 14 (.cons (.var 0) (.cons (.cst (.int 1)) .nil))) (.cons (.cst (.int 9629)) (.cons (.cst (.int 6)) .nil)))))) (.cons (.ret (.and (.cmp .eq (.call 97 (.cons (.var 2) .nil)) (.var 6)) (.cmp .eq (.call 98 (.cons (.var 2) .nil)) (.var 7)))) .nil)))))))))))⟩
/-- turned_pane -/
def f115_turned_pane : Fn := ⟨3, 10, (.cons (.asg (.tp [3, 4, 5]) (.dget [(t_same, .tuple [.bool false, .bool false, .bool false]), (t_right, .tuple [.bool true, .bool false, .bool true]), (t_half, .tuple [.bool false, .bool true, .bool true]), (t_left, .tuple [.bool true, .bool true, .bool false]), (t_mirror, .tuple [.bool false, .bool true, .bool false]), (t_flip, .tuple [.bool false, .bool false, .bool true]), (t_over, .tuple [.bool true, .bool false, .bool false]), (t_under, .tuple [.bool true, .bool true, .bool true])] (.var 2))) (.cons (.asg (.tp [6, 7, 8, 9]) (.var 0)) (.cons (.ifs (.var 4) (.cons (.asg (.nm 6) (.bin .sub (.bin .sub (.idx (.var 1) (.cst (.int 0))) (.var 6)) (.var 8))) .nil) .nil) (.cons (.ifs (.var 5) (.cons (.asg (.nm 7) (.bin .sub (.bin .sub (.idx (.var 1) (.cst (.int 1))) (.var 7)) (.var 9))) .nil) .nil) (.cons (.ifs (.var 3) (.cons (.ret (.tup (.cons (.var 7) (.cons (.var 6) (.cons (.var 9) (.cons (.var 8) .nil)))))) .nil) .nil) (.cons (.ret (.tup (.cons (.var 6) (.cons (.var 7) (.cons (.var 8) (.cons (.var 9) .nil)))))) .nil))))))⟩
/-- turned -/
def f116_turned : Fn := ⟨2, 6, (.cons (.asg (.tp [3, 4]) (.var 0)) (.cons (.asg (.nm 2) (.var 3)) (.cons (.ifs (.idx (.dget [(t_same, .tuple [.bool false, .bool false, .bool false]), (t_right, .tuple [.bool true, .bool false, .bool true]), (t_half, .tuple [.bool false, .bool true, .bool true]), (t_left, .tuple [.bool true, .bool true, .bool false]), (t_mirror, .tuple [.bool false, .bool true, .bool false]), (t_flip, .tuple [.bool false, .bool false, .bool true]), (t_over, .tuple [.bool true, .bool false, .bool false]), (t_under, .tuple [.bool true, .bool true, .bool true])] (.var 1)) (.cst (.int 0))) (.cons (.asg (.nm 2) (.rev (.var 3))) .nil) .nil) (.cons (.ret (.tup (.cons (.var 2) (.cons (.blt .tuple (.cons (.blt .sorted (.cons (.lc (.nm 5) (.seq (.var 4)) (.call 115 (.cons (.var 5) (.cons (.var 3) (.cons (.var 1) .nil))))) .nil)) .nil)) .nil)))) .nil))))⟩
/-- turned_tree -/
def f117_turned_tree : Fn := ⟨3, 13, (.cons (.ifs (.cmp .eq (.var 0) (.cst (.tuple [.str t_pane]))) (.cons (.ret (.cst (.tuple [.str t_pane]))) .nil) .nil) (.cons (.asg (.tp [4, 5, 6]) (.dget [(t_same, .tuple [.bool false, .bool false, .bool false]), (t_right, .tuple [.bool true, .bool false, .bool true]), (t_half, .tuple [.bool false, .bool true, .bool true]), (t_left, .tuple [.bool true, .bool true, .bool false]), (t_mirror, .tuple [.bool false, .bool true, .bool false]), (t_flip, .tuple [.bool false, .bool false, .bool true]), (t_over, .tuple [.bool true, .bool false, .bool false]), (t_under, .tuple [.bool true, .bool true, .bool true])] (.var 2))) (.cons (.asg (.tp [7, 8, 9, 10]) (.var 0)) (.cons (.asg (.tp [11, 12]) (.call 18 (.cons (.var 7) (.cons (.var 8) (.cons (.var 1) .nil))))) (.cons (.asg (.nm 3) (.tup (.cons (.call 117 (.cons (.var 9) (.cons (.var 11) (.cons (.var 2) .nil)))) (.cons (.call 117 (.cons (.var 10) (.cons (.var 12) (.cons (.var 2) .nil)))) .nil)))) (.cons (.ifs (.or (.and (.cmp .eq (.var 7) (.cst (.str t_side))) (.var 5)) (.and (.cmp .eq (.var 7) (.cst (.str t_stack))) (.var 6))) (.cons (.asg (.nm 8) (.bin .sub (.idx (.var 1) (.blt .int (.cons (.cmp .eq (.var 7) (.cst (.str t_stack))) .nil))) (.var 8))) (.cons (.asg (.nm 3) (.rev (.var 3))) .nil)) .nil) (.cons (.ifs (.var 4) (.cons (.asg (.nm 7) (.dget [(t_side, .str t_stack), (t_stack, .str t_side)] (.var 7))) .nil) .nil) (.cons (.ret (.bin .add (.tup (.cons (.var 7) (.cons (.var 8) .nil))) (.var 3))) .nil))))))))⟩
/-- _law_spot -/
def f63_law_spot : Fn := ⟨3, 7, (.cons (.asg (.tp [3, 4]) (.var 0)) (.cons (.asg (.tp [5, 6]) (.var 1)) (.cons (.ret (.dsel [t_same, t_right, t_half, t_left, t_mirror, t_flip, t_over, t_under] (.cons (.tup (.cons (.var 3) (.cons (.var 4) .nil))) (.cons (.tup (.cons (.bin .sub (.bin .sub (.var 6) (.cst (.int 1))) (.var 4)) (.cons (.var 3) .nil))) (.cons (.tup (.cons (.bin .sub (.bin .sub (.var 5) (.cst (.int 1))) (.var 3)) (.cons (.bin .sub (.bin .sub (.var 6) (.cst (.int 1))) (.var 4)) .nil))) (.cons (.tup (.cons (.var 4) (.cons (.bin .sub (.bin .sub (.var 5) (.cst (.int 1))) (.var 3)) .nil))) (.cons (.tup (.cons (.bin .sub (.bin .sub (.var 5) (.cst (.int 1))) (.var 3)) (.cons (.var 4) .nil))) (.cons (.tup (.cons (.var 3) (.cons (.bin .sub (.bin .sub (.var 6) (.cst (.int 1))) (.var 4)) .nil))) (.cons (.tup (.cons (.var 4) (.cons (.var 3) .nil))) (.cons (.tup (.cons (.bin .sub (.bin .sub (.var 6) (.cst (.int 1))) (.var 4)) (.cons (.bin .sub (.bin .sub (.var 5) (.cst (.int 1))) (.var 3)) .nil))) .nil)))))))) (.var 2))) .nil)))⟩
/-- _law_turned -/
def f65_law_turned : Fn := ⟨2, 13, (.cons (.asg (.tp [3, 4]) (.var 0)) (.cons (.own 2 (.lst .nil)) (.cons (.for_ (.tp [5, 6, 7, 8]) (.seq (.var 4)) (.cons (.asg (.nm 9) (.call 63 (.cons (.tup (.cons (.var 5) (.cons (.var 6) .nil))) (.cons (.var 3) (.cons (.var 1) .nil))))) (.cons (.asg (.nm 10) (.call 63 (.cons (.tup (.cons (.bin .sub (.bin .add (.var 5) (.var 7)) (.cst (.int 1))) (.cons (.bin .sub (.bin .add (.var 6) (.var 8)) (.cst (.int 1))) .nil))) (.cons (.var 3) (.cons (.var 1) .nil))))) (.cons (.asg (.nm 11) (.tup (.cons (.blt .min (.cons (.idx (.var 9) (.cst (.int 0))) (.cons (.idx (.var 10) (.cst (.int 0))) .nil))) (.cons (.blt .min (.cons (.idx (.var 9) (.cst (.int 1))) (.cons (.idx (.var 10) (.cst (.int 1))) .nil))) .nil)))) (.cons (.asg (.nm 12) (.tup (.cons (.blt .max (.cons (.idx (.var 9) (.cst (.int 0))) (.cons (.idx (.var 10) (.cst (.int 0))) .nil))) (.cons (.blt .max (.cons (.idx (.var 9) (.cst (.int 1))) (.cons (.idx (.var 10) (.cst (.int 1))) .nil))) .nil)))) (.cons (.app 2 (.bin .add (.var 11) (.tup (.cons (.bin .add (.bin .sub (.idx (.var 12) (.cst (.int 0))) (.idx (.var 11) (.cst (.int 0)))) (.cst (.int 1))) (.cons (.bin .add (.bin .sub (.idx (.var 12) (.cst (.int 1))) (.idx (.var 11) (.cst (.int 1)))) (.cst (.int 1))) .nil))))) .nil)))))) (.cons (.ifs (.cmp .in_ (.var 1) (.tup (.cons (.cst (.str t_right)) (.cons (.cst (.str t_left)) (.cons (.cst (.str t_over)) (.cons (.cst (.str t_under)) .nil)))))) (.cons (.asg (.nm 3) (.tup (.cons (.idx (.var 3) (.cst (.int 1))) (.cons (.idx (.var 3) (.cst (.int 0))) .nil)))) .nil) .nil) (.cons (.ret (.tup (.cons (.var 3) (.cons (.blt .tuple (.cons (.blt .sorted (.cons (.var 2) .nil)) .nil)) .nil)))) .nil)))))⟩
/-- _law_turns -/
def f68_law_turns : Fn := ⟨0, 0, (.cons (.ret (.tup (.cons (.cst (.str t_same)) (.cons (.cst (.str t_right)) (.cons (.cst (.str t_half)) (.cons (.cst (.str t_left)) (.cons (.cst (.str t_mirror)) (.cons (.cst (.str t_flip)) (.cons (.cst (.str t_over)) (.cons (.cst (.str t_under)) .nil)))))))))) .nil)⟩
/-- _law_cuts -/
def f64_law_cuts : Fn := ⟨4, 12, (.cons (.ifs (.cmp .eq (.var 0) (.tup (.cons (.cst (.str t_pane)) .nil))) (.cons (.ret (.lst .nil)) .nil) .nil) (.cons (.asg (.tp [5, 6, 7, 8]) (.var 0)) (.cons (.asg (.tp [9, 10]) (.call 5 (.cons (.var 5) (.cons (.var 6) (.cons (.var 3) .nil))))) (.cons (.asg (.nm 4) (.lst .nil)) (.cons (.ifs (.cmp .eq (.var 5) (.cst (.str t_side))) (.cons (.asg (.nm 4) (.lc (.nm 11) (.rng1 (.idx (.var 3) (.cst (.int 1)))) (.tup (.cons (.tup (.cons (.bin .sub (.bin .add (.var 1) (.var 6)) (.cst (.int 1))) (.cons (.bin .add (.var 2) (.var 11)) .nil))) (.cons (.tup (.cons (.bin .add (.var 1) (.var 6)) (.cons (.bin .add (.var 2) (.var 11)) .nil))) .nil))))) (.cons (.ret (.bin .add (.bin .add (.var 4) (.call 64 (.cons (.var 7) (.cons (.var 1) (.cons (.var 2) (.cons (.var 9) .nil)))))) (.call 64 (.cons (.var 8) (.cons (.bin .add (.var 1) (.var 6)) (.cons (.var 2) (.cons (.var 10) .nil))))))) .nil)) .nil) (.cons (.asg (.nm 4) (.lc (.nm 11) (.rng1 (.idx (.var 3) (.cst (.int 0)))) (.tup (.cons (.tup (.cons (.bin .add (.var 1) (.var 11)) (.cons (.bin .sub (.bin .add (.var 2) (.var 6)) (.cst (.int 1))) .nil))) (.cons (.tup (.cons (.bin .add (.var 1) (.var 11)) (.cons (.bin .add (.var 2) (.var 6)) .nil))) .nil))))) (.cons (.ret (.bin .add (.bin .add (.var 4) (.call 64 (.cons (.var 7) (.cons (.var 1) (.cons (.var 2) (.cons (.var 9) .nil)))))) (.call 64 (.cons (.var 8) (.cons (.var 1) (.cons (.bin .add (.var 2) (.var 6)) (.cons (.var 10) .nil))))))) .nil)))))))⟩
/-- law -/
def f118_law : Fn := ⟨1, 11, (.cons (.for_ (.nm 1) (.rng1 (.cst (.int 8))) (.cons (.asg (.nm 3) (.call 15 (.cons (.bin .add (.call 14 (.cons (.var 0) (.cons (.var 1) .nil))) (.bin .mul (.cst (.int 3)) (.var 1))) .nil))) (.cons (.asg (.nm 4) (.idx (.var 3) (.cst (.int 0)))) (.cons (.asg (.nm 5) (.call 6 (.cons (.bin .add (.call 14 (.cons (.var 0) (.cons (.cst (.int 8)) .nil))) (.bin .mul (.cst (.int 5)) (.var 1))) (.cons (.var 4) (.cons (.cst (.int 7)) .nil))))) (.cons (.for_ (.nm 6) (.seq (.call 68 .nil)) (.cons (.asg (.nm 7) (.call 65 (.cons (.var 3) (.cons (.var 6) .nil)))) (.cons (.ifs (.not (.call 24 (.cons (.call 116 (.cons (.var 3) (.cons (.var 6) .nil))) (.cons (.var 7) .nil)))) (.cons (.ret (.cst (.bool false))) .nil) .nil) (.cons (.asg (.nm 8) (.call 117 (.cons (.var 5) (.cons (.var 4) (.cons (.var 6) .nil))))) (.cons (.ifs (.not (.call 24 (.cons (.call 9 (.cons (.var 8) (.cons (.idx (.var 7) (.cst (.int 0))) .nil))) (.cons (.call 65 (.cons (.call 9 (.cons (.var 5) (.cons (.var 4) .nil))) (.cons (.var 6) .nil))) .nil)))) (.cons (.ret (.cst (.bool false))) .nil) .nil) (.cons (.own 9 (.lst .nil)) (.cons (.for_ (.nm 10) (.seq (.call 64 (.cons (.var 5) (.cons (.cst (.int 0)) (.cons (.cst (.int 0)) (.cons (.var 4) .nil)))))) (.cons (.app 9 (.blt .tuple (.cons (.blt .sorted (.cons (.lst (.cons (.call 63 (.cons (.idx (.var 10) (.cst (.int 0))) (.cons (.var 4) (.cons (.var 6) .nil)))) (.cons (.call 63 (.cons (.idx (.var 10) (.cst (.int 1))) (.cons (.var 4) (.cons (.var 6) .nil)))) .nil))) .nil)) .nil))) .nil)) (.cons (.ifs (.or (.cmp .ne (.blt .sorted (.cons (.var 9) .nil)) (.blt .sorted (.cons (.call 64 (.cons (.var 8) (.cons (.cst (.int 0)) (.cons (.cst (.int 0)) (.cons (.idx (.var 7) (.cst (.int 0))) .nil))))) .nil))) (.and (.cmp .eq (.var 6) (.cst (.str t_same))) (.cmp .ne (.var 8) (.var 5)))) (.cons (.ret (.cst (.bool false))) .nil) .nil) .nil)))))))) .nil))))) (.cons (.asg (.nm 2) (.tup (.cons (.tup (.cons (.cst (.int 3)) (.cons (.cst (.int 1)) .nil))) (.cons (.tup (.cons (.tup (.cons (.cst (.int 0)) (.cons (.cst (.int 0)) (.cons (.cst (.int 1)) (.cons (.cst (.int 1)) .nil))))) (.cons (.tup (.cons (.cst (.int 1)) (.cons (.cst (.int 0)) (.cons (.cst (.int 2)) (.cons (.cst (.int 1)) .nil))))) .nil))) .nil)))) (.cons (.ifs (.cmp .ne (.call 116 (.cons (.var 2) (.cons (.cst (.str t_right)) .nil))) (.tup (.cons (.tup (.cons (.cst (.int 1)) (.cons (.cst (.int 3)) .nil))) (.cons (.tup (.cons (.tup (.cons (.cst (.int 0)) (.cons (.cst (.int 0)) (.cons (.cst (.int 1)) (.cons (.cst (.int 1)) .nil))))) (.cons (.tup (.cons (.cst (.int 0)) (.cons (.cst (.int 1)) (.cons (.cst (.int 1)) (.cons (.cst (.int 2)) .nil))))) .nil))) .nil)))) (.cons (.ret (.cst (.bool false))) .nil) .nil) (.cons (.ret (.cmp .eq (.idx (.call 116 (.cons (.var 2) (.cons (.cst (.str t_mirror)) .nil))) (.cst (.int 1))) (.tup (.cons (.tup (.cons (.cst (.int 0)) (.cons (.cst (.int 0)) (.cons (.cst (.int 2)) (.cons (.cst (.int 1)) .nil))))) (.cons (.tup (.cons (.cst (.int 2)) (.cons (.cst (.int 0)) (.cons (.cst (.int 1)) (.cons (.cst (.int 1)) .nil))))) .nil))))) .nil))))⟩
/-- least_turned -/
def f119_least_turned : Fn := ⟨1, 2, (.cons (.ret (.blt .min1 (.cons (.lc (.nm 1) (.dks [(t_same, .tuple [.bool false, .bool false, .bool false]), (t_right, .tuple [.bool true, .bool false, .bool true]), (t_half, .tuple [.bool false, .bool true, .bool true]), (t_left, .tuple [.bool true, .bool true, .bool false]), (t_mirror, .tuple [.bool false, .bool true, .bool false]), (t_flip, .tuple [.bool false, .bool false, .bool true]), (t_over, .tuple [.bool true, .bool false, .bool false]), (t_under, .tuple [.bool true, .bool true, .bool true])]) (.call 116 (.cons (.var 0) (.cons (.var 1) .nil)))) .nil))) .nil)⟩
/-- turns_to -/
def f120_turns_to : Fn := ⟨2, 3, (.cons (.ret (.blt .tuple (.cons (.lcf (.nm 2) (.dks [(t_same, .tuple [.bool false, .bool false, .bool false]), (t_right, .tuple [.bool true, .bool false, .bool true]), (t_half, .tuple [.bool false, .bool true, .bool true]), (t_left, .tuple [.bool true, .bool true, .bool false]), (t_mirror, .tuple [.bool false, .bool true, .bool false]), (t_flip, .tuple [.bool false, .bool false, .bool true]), (t_over, .tuple [.bool true, .bool false, .bool false]), (t_under, .tuple [.bool true, .bool true, .bool true])]) (.cmp .eq (.call 116 (.cons (.var 0) (.cons (.var 2) .nil))) (.var 1)) (.var 2)) .nil))) .nil)⟩
/-- law -/
def f121_law : Fn := ⟨1, 9, (.cons (.for_ (.nm 1) (.rng1 (.cst (.int 10))) (.cons (.asg (.nm 3) (.call 15 (.cons (.bin .add (.call 14 (.cons (.var 0) (.cons (.bin .mod (.var 1) (.cst (.int 9))) .nil))) (.bin .mul (.cst (.int 31)) (.var 1))) .nil))) (.cons (.asg (.nm 4) (.lc (.nm 8) (.seq (.call 68 .nil)) (.call 65 (.cons (.var 3) (.cons (.var 8) .nil))))) (.cons (.ifs (.not (.call 24 (.cons (.call 119 (.cons (.var 3) .nil)) (.cons (.blt .min1 (.cons (.var 4) .nil)) .nil)))) (.cons (.ret (.cst (.bool false))) .nil) .nil) (.cons (.asg (.nm 5) (.idx (.var 4) (.call 4 (.cons (.bin .add (.call 14 (.cons (.var 0) (.cons (.cst (.int 9)) .nil))) (.var 1)) (.cons (.cst (.int 9743)) (.cons (.cst (.int 8)) .nil)))))) (.cons (.for_ (.nm 6) (.seq (.tup (.cons (.var 5) (.cons (.var 3) (.cons (.call 15 (.cons (.bin .add (.call 14 (.cons (.var 0) (.cons (.cst (.int 9)) .nil))) (.bin .mul (.cst (.int 7)) (.var 1))) .nil)) .nil))))) (.cons (.asg (.nm 7) (.blt .tuple (.cons (.lcf (.nm 8) (.seq (.call 68 .nil)) (.cmp .eq (.call 65 (.cons (.var 3) (.cons (.var 8) .nil))) (.var 6)) (.var 8)) .nil))) (.cons (.ifs (.not (.call 24 (.cons (.call 120 (.cons (.var 3) (.cons (.var 6) .nil))) (.cons (.var 7) .nil)))) (.cons (.ret (.cst (.bool false))) .nil) .nil) .nil))) .nil)))))) (.cons (.asg (.nm 2) (.tup (.cons (.tup (.cons (.cst (.int 1)) (.cons (.cst (.int 1)) .nil))) (.cons (.tup (.cons (.tup (.cons (.cst (.int 0)) (.cons (.cst (.int 0)) (.cons (.cst (.int 1)) (.cons (.cst (.int 1)) .nil))))) .nil)) .nil)))) (.cons (.ret (.and (.cmp .eq (.call 120 (.cons (.var 2) (.cons (.var 2) .nil))) (.call 68 .nil)) (.cmp .eq (.call 119 (.cons (.tup (.cons (.tup (.cons (.cst (.int 2)) (.cons (.cst (.int 1)) .nil))) (.cons (.tup (.cons (.tup (.cons (.cst (.int 0)) (.cons (.cst (.int 0)) (.cons (.cst (.int 2)) (.cons (.cst (.int 1)) .nil))))) .nil)) .nil))) .nil)) (.tup (.cons (.tup (.cons (.cst (.int 1)) (.cons (.cst (.int 2)) .nil))) (.cons (.tup (.cons (.tup (.cons (.cst (.int 0)) (.cons (.cst (.int 0)) (.cons (.cst (.int 1)) (.cons (.cst (.int 2)) .nil))))) .nil)) .nil)))))) .nil)))⟩
/-- law -/
def f122_law : Fn := ⟨1, 16, (.cons (.asg (.nm 1) (.tup (.cons (.cst (.str t_same)) (.cons (.cst (.str t_right)) (.cons (.cst (.str t_half)) (.cons (.cst (.str t_left)) (.cons (.cst (.str t_mirror)) (.cons (.cst (.str t_flip)) (.cons (.cst (.str t_over)) (.cons (.cst (.str t_under)) .nil)))))))))) (.cons (.for_ (.nm 2) (.rng1 (.cst (.int 8))) (.cons (.asg (.nm 3) (.call 15 (.cons (.bin .add (.call 14 (.cons (.var 0) (.cons (.var 2) .nil))) (.bin .mul (.cst (.int 3)) (.var 2))) .nil))) (.cons (.asg (.nm 4) (.idx (.var 3) (.cst (.int 0)))) (.cons (.asg (.nm 5) (.idx (.var 1) (.call 4 (.cons (.bin .add (.call 14 (.cons (.var 0) (.cons (.cst (.int 8)) .nil))) (.var 2)) (.cons (.cst (.int 9739)) (.cons (.cst (.int 8)) .nil)))))) (.cons (.asg (.nm 6) (.idx (.var 1) (.call 4 (.cons (.bin .add (.call 14 (.cons (.var 0) (.cons (.cst (.int 9)) .nil))) (.var 2)) (.cons (.cst (.int 9733)) (.cons (.cst (.int 8)) .nil)))))) (.cons (.asg (.nm 7) (.call 116 (.cons (.var 3) (.cons (.var 5) .nil)))) (.cons (.asg (.nm 8) (.call 116 (.cons (.var 7) (.cons (.var 6) .nil)))) (.cons (.ifs (.or (.cmp .eq (.call 120 (.cons (.var 3) (.cons (.var 8) .nil))) (.tup .nil)) (.or (.cmp .eq (.call 120 (.cons (.var 8) (.cons (.var 3) .nil))) (.tup .nil)) (.cmp .nin (.var 5) (.call 120 (.cons (.var 3) (.cons (.var 7) .nil)))))) (.cons (.ret (.cst (.bool false))) .nil) .nil) (.cons (.ifs (.or (.cmp .ne (.call 119 (.cons (.var 8) .nil)) (.call 119 (.cons (.var 3) .nil))) (.cmp .ne (.call 36 (.cons (.var 8) .nil)) (.call 36 (.cons (.var 3) .nil)))) (.cons (.ret (.cst (.bool false))) .nil) .nil) (.cons (.asg (.nm 9) (.lc (.nm 14) (.seq (.call 33 (.cons (.var 3) .nil))) (.call 117 (.cons (.var 14) (.cons (.var 4) (.cons (.var 5) .nil)))))) (.cons (.ifs (.cmp .ne (.blt .tuple (.cons (.blt .sorted (.cons (.var 9) .nil)) .nil)) (.call 33 (.cons (.var 7) .nil))) (.cons (.ret (.cst (.bool false))) .nil) .nil) (.cons (.asg (.nm 10) (.call 47 (.cons (.var 3) .nil))) (.cons (.ifs (.cmp .isn (.var 10) (.cst (.none))) (.cons (.asg (.nm 11) (.idx (.idx (.call 116 (.cons (.tup (.cons (.var 4) (.cons (.tup (.cons (.var 10) .nil)) .nil))) (.cons (.var 5) .nil))) (.cst (.int 1))) (.cst (.int 0)))) (.cons (.ifs (.cmp .isn (.call 49 (.cons (.var 7) (.cons (.var 11) .nil))) (.cst (.bool true))) (.cons (.ret (.cst (.bool false))) .nil) .nil) .nil)) .nil) (.cons (.asg (.tp [12, 13]) (.call 29 (.cons (.var 7) .nil))) (.cons (.ifs (.cmp .ne (.blt .sorted (.cons (.lst (.cons (.blt .len (.cons (.var 12) .nil)) (.cons (.blt .len (.cons (.var 13) .nil)) .nil))) .nil)) (.blt .sorted (.cons (.lc (.nm 15) (.seq (.call 29 (.cons (.var 3) .nil))) (.blt .len (.cons (.var 15) .nil))) .nil))) (.cons (.ret (.cst (.bool false))) .nil) .nil) (.cons (.ifs (.cmp .ne (.call 116 (.cons (.call 116 (.cons (.var 3) (.cons (.cst (.str t_right)) .nil))) (.cons (.cst (.str t_left)) .nil))) (.var 3)) (.cons (.ret (.cst (.bool false))) .nil) .nil) (.cons (.ifs (.cmp .ne (.call 116 (.cons (.call 116 (.cons (.var 3) (.cons (.cst (.str t_mirror)) .nil))) (.cons (.cst (.str t_flip)) .nil))) (.call 116 (.cons (.var 3) (.cons (.cst (.str t_half)) .nil)))) (.cons (.ret (.cst (.bool false))) .nil) .nil) (.cons (.ifs (.cmp .ne (.call 116 (.cons (.call 116 (.cons (.var 3) (.cons (.cst (.str t_half)) .nil))) (.cons (.cst (.str t_over)) .nil))) (.call 116 (.cons (.var 3) (.cons (.cst (.str t_under)) .nil)))) (.cons (.ret (.cst (.bool false))) .nil) .nil) .nil)))))))))))))))))) (.cons (.ret (.cst (.bool true))) .nil)))⟩
/-- must_fit -/
def f109_must_fit : Fn := ⟨2, 2, (.cons (.ifs (.cmp .ne (.blt .len (.cons (.var 1) .nil)) (.call 20 (.cons (.var 0) .nil))) (.cons (.rse 6) .nil) .nil) .nil)⟩
/-- least_in -/
def f79_least_in : Fn := ⟨2, 5, (.cons (.ifs (.cmp .eq (.var 0) (.cst (.tuple [.str t_pane]))) (.cons (.ret (.idx (.var 1) (.cst (.int 0)))) .nil) .nil) (.cons (.asg (.nm 2) (.call 20 (.cons (.idx (.var 0) (.cst (.int 2))) .nil))) (.cons (.par 3 4 (.call 79 (.cons (.idx (.var 0) (.cst (.int 2))) (.cons (.slc (.var 1) .nil (.cons (.var 2) .nil)) .nil))) (.call 79 (.cons (.idx (.var 0) (.cst (.int 3))) (.cons (.slc (.var 1) (.cons (.var 2) .nil) .nil) .nil)))) (.cons (.ifs (.cmp .eq (.idx (.var 0) (.cst (.int 0))) (.cst (.str t_side))) (.cons (.ret (.tup (.cons (.bin .add (.idx (.var 3) (.cst (.int 0))) (.idx (.var 4) (.cst (.int 0)))) (.cons (.blt .max (.cons (.idx (.var 3) (.cst (.int 1))) (.cons (.idx (.var 4) (.cst (.int 1))) .nil))) .nil)))) .nil) .nil) (.cons (.ret (.tup (.cons (.blt .max (.cons (.idx (.var 3) (.cst (.int 0))) (.cons (.idx (.var 4) (.cst (.int 0))) .nil))) (.cons (.bin .add (.idx (.var 3) (.cst (.int 1))) (.idx (.var 4) (.cst (.int 1)))) .nil)))) .nil)))))⟩
/-- least_size -/
def f90_least_size : Fn := ⟨2, 2, (.cons (.exp (.call 109 (.cons (.var 0) (.cons (.var 1) .nil)))) (.cons (.ret (.call 79 (.cons (.var 0) (.cons (.var 1) .nil)))) .nil))⟩
/-- laid_in -/
def f80_laid_in : Fn := ⟨3, 7, (.cons (.ifs (.cmp .eq (.var 0) (.cst (.tuple [.str t_pane]))) (.cons (.ret (.cst (.tuple [.str t_pane]))) .nil) .nil) (.cons (.asg (.nm 3) (.call 20 (.cons (.idx (.var 0) (.cst (.int 2))) .nil))) (.cons (.asg (.nm 4) (.idx (.call 79 (.cons (.idx (.var 0) (.cst (.int 2))) (.cons (.slc (.var 1) .nil (.cons (.var 3) .nil)) .nil))) (.blt .int (.cons (.cmp .eq (.idx (.var 0) (.cst (.int 0))) (.cst (.str t_stack))) .nil)))) (.cons (.asg (.tp [5, 6]) (.call 18 (.cons (.idx (.var 0) (.cst (.int 0))) (.cons (.var 4) (.cons (.var 2) .nil))))) (.cons (.ret (.tup (.cons (.idx (.var 0) (.cst (.int 0))) (.cons (.var 4) (.cons (.call 80 (.cons (.idx (.var 0) (.cst (.int 2))) (.cons (.slc (.var 1) .nil (.cons (.var 3) .nil)) (.cons (.var 5) .nil)))) (.cons (.call 80 (.cons (.idx (.var 0) (.cst (.int 3))) (.cons (.slc (.var 1) (.cons (.var 3) .nil) .nil) (.cons (.var 6) .nil)))) .nil)))))) .nil)))))⟩
/-- laid_out -/
def f91_laid_out : Fn := ⟨4, 5, (.cons (.exp (.call 109 (.cons (.var 0) (.cons (.var 1) .nil)))) (.cons (.asg (.nm 4) (.call 79 (.cons (.var 0) (.cons (.var 1) .nil)))) (.cons (.ifs (.or (.cmp .lt (.var 2) (.idx (.var 4) (.cst (.int 0)))) (.cmp .lt (.var 3) (.idx (.var 4) (.cst (.int 1))))) (.cons (.rse 5) .nil) .nil) (.cons (.ret (.call 80 (.cons (.var 0) (.cons (.var 1) (.cons (.tup (.cons (.var 2) (.cons (.var 3) .nil))) .nil))))) .nil))))⟩
/-- after_here -/
def f123_after_here : Fn := ⟨2, 6, (.cons (.ifs (.cmp .eq (.var 0) (.cst (.tuple [.str t_pane]))) (.cons (.ret (.cst (.none))) .nil) .nil) (.cons (.asg (.tp [2, 3, 4, 5]) (.var 0)) (.cons (.ifs (.cmp .eq (.var 1) (.cst (.str t_left))) (.cons (.ifs (.cmp .ne (.idx (.var 5) (.cst (.int 0))) (.var 2)) (.cons (.ret (.cst (.none))) .nil) .nil) (.cons (.ret (.tup (.cons (.var 2) (.cons (.bin .add (.var 3) (.idx (.var 5) (.cst (.int 1)))) (.cons (.tup (.cons (.var 2) (.cons (.var 3) (.cons (.var 4) (.cons (.idx (.var 5) (.cst (.int 2))) .nil))))) (.cons (.idx (.var 5) (.cst (.int 3))) .nil)))))) .nil)) .nil) (.cons (.ifs (.cmp .eq (.var 1) (.cst (.str t_right))) (.cons (.ifs (.cmp .ne (.idx (.var 4) (.cst (.int 0))) (.var 2)) (.cons (.ret (.cst (.none))) .nil) .nil) (.cons (.ret (.tup (.cons (.var 2) (.cons (.idx (.var 4) (.cst (.int 1))) (.cons (.idx (.var 4) (.cst (.int 2))) (.cons (.tup (.cons (.var 2) (.cons (.bin .sub (.var 3) (.idx (.var 4) (.cst (.int 1)))) (.cons (.idx (.var 4) (.cst (.int 3))) (.cons (.var 5) .nil))))) .nil)))))) .nil)) .nil) (.cons (.ifs (.or (.cmp .ne (.idx (.var 4) (.cst (.int 0))) (.dget [(t_side, .str t_stack), (t_stack, .str t_side)] (.var 2))) (.cmp .ne (.slc (.var 4) .nil (.cons (.cst (.int 2)) .nil)) (.slc (.var 5) .nil (.cons (.cst (.int 2)) .nil)))) (.cons (.ret (.cst (.none))) .nil) .nil) (.cons (.ret (.tup (.cons (.idx (.var 4) (.cst (.int 0))) (.cons (.idx (.var 4) (.cst (.int 1))) (.cons (.tup (.cons (.var 2) (.cons (.var 3) (.cons (.idx (.var 4) (.cst (.int 2))) (.cons (.idx (.var 5) (.cst (.int 2))) .nil))))) (.cons (.tup (.cons (.var 2) (.cons (.var 3) (.cons (.idx (.var 4) (.cst (.int 3))) (.cons (.idx (.var 5) (.cst (.int 3))) .nil))))) .nil)))))) .nil))))))⟩
/-- after_move -/
def f124_after_move : Fn := ⟨3, 5, (.cons (.ifs (.cmp .eq (.var 1) (.cst (.str t_empty))) (.cons (.ret (.call 123 (.cons (.var 0) (.cons (.var 2) .nil)))) .nil) .nil) (.cons (.ifs (.or (.cmp .eq (.var 0) (.cst (.tuple [.str t_pane]))) (.cmp .nin (.idx (.var 1) (.cst (.int 0))) (.tup (.cons (.cst (.str t_1)) (.cons (.cst (.str t_2)) .nil))))) (.cons (.ret (.cst (.none))) .nil) .nil) (.cons (.asg (.nm 3) (.bin .add (.cst (.int 1)) (.blt .int (.cons (.idx (.var 1) (.cst (.int 0))) .nil)))) (.cons (.asg (.nm 4) (.call 124 (.cons (.idx (.var 0) (.var 3)) (.cons (.slc (.var 1) (.cons (.cst (.int 1)) .nil) .nil) (.cons (.var 2) .nil))))) (.cons (.ifs (.cmp .is_ (.var 4) (.cst (.none))) (.cons (.ret (.cst (.none))) .nil) .nil) (.cons (.ret (.bin .add (.bin .add (.slc (.var 0) .nil (.cons (.var 3) .nil)) (.tup (.cons (.var 4) .nil))) (.slc (.var 0) (.cons (.bin .add (.var 3) (.cst (.int 1))) .nil) .nil))) .nil))))))⟩
/-- moves_from -/
def f125_moves_from : Fn := ⟨2, 4, (.cons (.ifs (.cmp .eq (.var 0) (.cst (.tuple [.str t_pane]))) (.cons (.ret (.lst .nil)) .nil) .nil) (.cons (.asg (.nm 2) (.lcf (.nm 3) (.seq (.tup (.cons (.cst (.str t_cross)) (.cons (.cst (.str t_left)) (.cons (.cst (.str t_right)) .nil))))) (.cmp .isn (.call 123 (.cons (.var 0) (.cons (.var 3) .nil))) (.cst (.none))) (.tup (.cons (.var 1) (.cons (.var 3) .nil))))) (.cons (.ret (.bin .add (.bin .add (.var 2) (.call 125 (.cons (.idx (.var 0) (.cst (.int 2))) (.cons (.bin .add (.var 1) (.cst (.str t_1))) .nil)))) (.call 125 (.cons (.idx (.var 0) (.cst (.int 3))) (.cons (.bin .add (.var 1) (.cst (.str t_2))) .nil))))) .nil)))⟩
/-- moves -/
def f126_moves : Fn := ⟨1, 1, (.cons (.ret (.blt .tuple (.cons (.blt .sorted (.cons (.call 125 (.cons (.var 0) (.cons (.cst (.str t_empty)) .nil))) .nil)) .nil))) .nil)⟩
/-- moved -/
def f127_moved : Fn := ⟨2, 2, (.cons (.ifs (.cmp .nin (.var 1) (.call 126 (.cons (.var 0) .nil))) (.cons (.rse 1) .nil) .nil) (.cons (.ret (.call 124 (.cons (.var 0) (.cons (.idx (.var 1) (.cst (.int 0))) (.cons (.idx (.var 1) (.cst (.int 1))) .nil))))) .nil))⟩
/-- _law_kinds -/
def f88_law_kinds : Fn := ⟨1, 1, (.cons (.ifs (.cmp .eq (.var 0) (.tup (.cons (.cst (.str t_pane)) .nil))) (.cons (.ret (.var 0)) .nil) .nil) (.cons (.ret (.tup (.cons (.idx (.var 0) (.cst (.int 0))) (.cons (.call 88 (.cons (.idx (.var 0) (.cst (.int 2))) .nil)) (.cons (.call 88 (.cons (.idx (.var 0) (.cst (.int 3))) .nil)) .nil))))) .nil))⟩
/-- _law_chains -/
def f89_law_chains : Fn := ⟨3, 6, (.cons (.ifs (.cmp .eq (.var 0) (.tup (.cons (.cst (.str t_pane)) .nil))) (.cons (.ret (.tup (.cons (.idx (.idx (.var 1) (.cst (.int 0))) (.var 2)) (.cons (.slc (.var 1) (.cons (.cst (.int 1)) .nil) .nil) .nil)))) .nil) .nil) (.cons (.asg (.tp [3, 4]) (.call 89 (.cons (.idx (.var 0) (.cst (.int 2))) (.cons (.var 1) (.cons (.var 2) .nil))))) (.cons (.asg (.tp [5, 4]) (.call 89 (.cons (.idx (.var 0) (.cst (.int 3))) (.cons (.var 4) (.cons (.var 2) .nil))))) (.cons (.ret (.tup (.cons (.ite (.cmp .eq (.idx (.var 0) (.cst (.int 0))) (.idx (.tup (.cons (.cst (.str t_side)) (.cons (.cst (.str t_stack)) .nil))) (.var 2))) (.bin .add (.var 3) (.var 5)) (.blt .max (.cons (.var 3) (.cons (.var 5) .nil)))) (.cons (.var 4) .nil)))) .nil))))⟩
/-- law -/
def f128_law : Fn := ⟨1, 17, (.cons (.for_ (.nm 1) (.rng1 (.cst (.int 10))) (.cons (.asg (.nm 2) (.bin .add (.call 14 (.cons (.var 0) (.cons (.bin .mod (.var 1) (.cst (.int 9))) .nil))) (.bin .mul (.cst (.int 31)) (.var 1)))) (.cons (.asg (.nm 3) (.call 8 (.cons (.var 2) .nil))) (.cons (.asg (.nm 4) (.call 6 (.cons (.var 2) (.cons (.var 3) (.cons (.cst (.int 7)) .nil))))) (.cons (.asg (.nm 5) (.tup .nil)) (.cons (.for_ (.nm 6) (.rng1 (.blt .len (.cons (.call 7 (.cons (.var 4) (.cons (.cst (.int 0)) (.cons (.cst (.int 0)) (.cons (.var 3) .nil))))) .nil))) (.cons (.asg (.nm 13) (.tup (.cons (.bin .add (.cst (.int 1)) (.call 4 (.cons (.bin .add (.var 2) (.bin .mul (.cst (.int 7)) (.var 6))) (.cons (.cst (.int 9679)) (.cons (.cst (.int 9)) .nil))))) (.cons (.bin .add (.cst (.int 1)) (.call 4 (.cons (.bin .add (.var 2) (.bin .mul (.cst (.int 11)) (.var 6))) (.cons (.cst (.int 9677)) (.cons (.cst (.int 9)) .nil))))) .nil)))) (.cons (.asg (.nm 5) (.bin .add (.var 5) (.tup (.cons (.var 13) .nil)))) .nil))) (.cons (.asg (.tp [14, 15]) (.call 90 (.cons (.var 4) (.cons (.var 5) .nil)))) (.cons (.ifs (.cmp .ne (.tup (.cons (.var 14) (.cons (.var 15) .nil))) (.tup (.cons (.idx (.call 89 (.cons (.var 4) (.cons (.var 5) (.cons (.cst (.int 0)) .nil)))) (.cst (.int 0))) (.cons (.idx (.call 89 (.cons (.var 4) (.cons (.var 5) (.cons (.cst (.int 1)) .nil)))) (.cst (.int 0))) .nil)))) (.cons (.ret (.cst (.bool false))) .nil) .nil) (.cons (.asg (.nm 7) (.tup (.cons (.bin .add (.var 14) (.call 4 (.cons (.var 2) (.cons (.cst (.int 9649)) (.cons (.cst (.int 4)) .nil))))) (.cons (.bin .add (.var 15) (.call 4 (.cons (.var 2) (.cons (.cst (.int 9643)) (.cons (.cst (.int 4)) .nil))))) .nil)))) (.cons (.asg (.nm 8) (.call 91 (.cons (.var 4) (.cons (.var 5) (.cons (.idx (.var 7) (.cst (.int 0))) (.cons (.idx (.var 7) (.cst (.int 1))) .nil)))))) (.cons (.asg (.nm 9) (.call 7 (.cons (.var 8) (.cons (.cst (.int 0)) (.cons (.cst (.int 0)) (.cons (.var 7) .nil)))))) (.cons (.ifs (.cmp .ne (.lcf (.tp [6, 16]) (.enum (.var 9)) (.or (.cmp .lt (.idx (.var 16) (.cst (.int 2))) (.idx (.idx (.var 5) (.var 6)) (.cst (.int 0)))) (.cmp .lt (.idx (.var 16) (.cst (.int 3))) (.idx (.idx (.var 5) (.var 6)) (.cst (.int 1))))) (.var 6)) (.lst .nil)) (.cons (.ret (.cst (.bool false))) .nil) .nil) (.cons (.ifs (.or (.cmp .ne (.call 88 (.cons (.var 8) .nil)) (.call 88 (.cons (.var 4) .nil))) (.cmp .ne (.call 91 (.cons (.var 8) (.cons (.var 5) (.cons (.idx (.var 7) (.cst (.int 0))) (.cons (.idx (.var 7) (.cst (.int 1))) .nil))))) (.var 8))) (.cons (.ret (.cst (.bool false))) .nil) .nil) (.cons (.asg (.nm 10) (.call 117 (.cons (.var 4) (.cons (.var 3) (.cons (.cst (.str t_over)) .nil))))) (.cons (.ifs (.cmp .ne (.call 90 (.cons (.var 10) (.cons (.blt .tuple (.cons (.lc (.nm 13) (.seq (.var 5)) (.rev (.var 13))) .nil)) .nil))) (.tup (.cons (.var 15) (.cons (.var 14) .nil)))) (.cons (.ret (.cst (.bool false))) .nil) .nil) (.cons (.asg (.nm 11) (.call 117 (.cons (.var 4) (.cons (.var 3) (.cons (.cst (.str t_half)) .nil))))) (.cons (.ifs (.cmp .ne (.call 90 (.cons (.var 11) (.cons (.rev (.var 5)) .nil))) (.tup (.cons (.var 14) (.cons (.var 15) .nil)))) (.cons (.ret (.cst (.bool false))) .nil) .nil) (.cons (.for_ (.nm 12) (.seq (.slc (.call 126 (.cons (.var 4) .nil)) .nil (.cons (.cst (.int 4)) .nil))) (.cons (.ifs (.and (.cmp .ne (.idx (.var 12) (.cst (.int 1))) (.cst (.str t_cross))) (.cmp .ne (.call 90 (.cons (.call 127 (.cons (.var 4) (.cons (.var 12) .nil))) (.cons (.var 5) .nil))) (.tup (.cons (.var 14) (.cons (.var 15) .nil))))) (.cons (.ret (.cst (.bool false))) .nil) .nil) .nil)) .nil)))))))))))))))))) (.cons (.ret (.cst (.bool true))) .nil))⟩
/-- law -/
def f129_law : Fn := ⟨1, 12, (.cons (.asg (.nm 1) (.lst (.cons (.tup (.cons (.cst (.int 2)) (.cons (.cst (.int 2)) .nil))) (.cons (.tup (.cons (.cst (.int 1)) (.cons (.cst (.int 6)) .nil))) (.cons (.tup (.cons (.cst (.int 2)) (.cons (.cst (.int 3)) .nil))) (.cons (.tup (.cons (.cst (.int 3)) (.cons (.cst (.int 2)) .nil))) (.cons (.tup (.cons (.cst (.int 2)) (.cons (.cst (.int 4)) .nil))) (.cons (.tup (.cons (.cst (.int 4)) (.cons (.cst (.int 2)) .nil))) (.cons (.tup (.cons (.cst (.int 5)) (.cons (.cst (.int 1)) .nil))) (.cons (.tup (.cons (.cst (.int 1)) (.cons (.cst (.int 3)) .nil))) .nil)))))))))) (.cons (.asg (.nm 2) (.idx (.var 1) (.call 4 (.cons (.call 14 (.cons (.var 0) (.cons (.cst (.int 0)) .nil))) (.cons (.cst (.int 9623)) (.cons (.cst (.int 8)) .nil)))))) (.cons (.asg (.nm 3) (.call 95 (.cons (.var 2) .nil))) (.cons (.asg (.nm 4) (.call 95 (.cons (.rev (.var 2)) .nil))) (.cons (.ifs (.or (.cmp .ne (.lenset (.var 3)) (.call 97 (.cons (.var 2) .nil))) (.cmp .ne (.blt .len (.cons (.var 4) .nil)) (.blt .len (.cons (.var 3) .nil)))) (.cons (.ret (.cst (.bool false))) .nil) .nil) (.cons (.for_ (.nm 5) (.rng1 (.cst (.int 12))) (.cons (.asg (.nm 7) (.idx (.var 3) (.call 4 (.cons (.bin .add (.call 14 (.cons (.var 0) (.cons (.cst (.int 1)) .nil))) (.bin .mul (.cst (.int 7)) (.var 5))) (.cons (.cst (.int 9619)) (.cons (.blt .len (.cons (.var 3) .nil)) .nil)))))) (.cons (.asg (.nm 8) (.blt .sum (.cons (.lc (.nm 11) (.seq (.idx (.var 7) (.cst (.int 1)))) (.bin .mul (.idx (.var 11) (.cst (.int 2))) (.idx (.var 11) (.cst (.int 3))))) .nil))) (.cons (.ifs (.or (.cmp .ne (.idx (.var 7) (.cst (.int 0))) (.var 2)) (.cmp .ne (.var 8) (.bin .mul (.idx (.var 2) (.cst (.int 0))) (.idx (.var 2) (.cst (.int 1)))))) (.cons (.ret (.cst (.bool false))) .nil) .nil) (.cons (.for_ (.nm 9) (.seq (.tup (.cons (.cst (.str t_right)) (.cons (.cst (.str t_left)) (.cons (.cst (.str t_over)) (.cons (.cst (.str t_under)) .nil)))))) (.cons (.ifs (.cmp .nin (.call 116 (.cons (.var 7) (.cons (.var 9) .nil))) (.var 4)) (.cons (.ret (.cst (.bool false))) .nil) .nil) .nil)) (.cons (.ifs (.cmp .ne (.lcf (.nm 9) (.seq (.tup (.cons (.cst (.str t_half)) (.cons (.cst (.str t_mirror)) (.cons (.cst (.str t_flip)) .nil))))) (.cmp .nin (.call 116 (.cons (.var 7) (.cons (.var 9) .nil))) (.var 3)) (.var 9)) (.lst .nil)) (.cons (.ret (.cst (.bool false))) .nil) .nil) (.cons (.asg (.nm 10) (.call 6 (.cons (.bin .add (.call 14 (.cons (.var 0) (.cons (.cst (.int 2)) .nil))) (.bin .mul (.cst (.int 5)) (.var 5))) (.cons (.var 2) (.cons (.cst (.int 8)) .nil))))) (.cons (.ifs (.cmp .nin (.call 9 (.cons (.var 10) (.cons (.var 2) .nil))) (.var 3)) (.cons (.ret (.cst (.bool false))) .nil) .nil) .nil)))))))) (.cons (.ifs (.cmp .ne (.call 98 (.cons (.var 2) .nil)) (.blt .len (.cons (.lcf (.nm 7) (.seq (.var 3)) (.cmp .is_ (.call 47 (.cons (.var 7) .nil)) (.cst (.none))) (.var 7)) .nil))) (.cons (.ret (.cst (.bool false))) .nil) .nil) (.cons (.asg (.nm 6) (.bin .add (.cst (.int 2)) (.call 4 (.cons (.call 14 (.cons (.var 0) (.cons (.cst (.int 3)) .nil))) (.cons (.cst (.int 9613)) (.cons (.cst (.int 5)) .nil)))))) (.cons (.ret (.and (.cmp .eq (.call 97 (.cons (.tup (.cons (.var 6) (.cons (.cst (.int 1)) .nil))) .nil)) (.bin .mul (.cst (.int 2)) (.call 97 (.cons (.tup (.cons (.bin .sub (.var 6) (.cst (.int 1))) (.cons (.cst (.int 1)) .nil))) .nil)))) (.cmp .eq (.call 97 (.cons (.tup (.cons (.cst (.int 1)) (.cons (.cst (.int 1)) .nil))) .nil)) (.cst (.int 1))))) .nil)))))))))⟩
/-- _law_told -/
def f136_law_told : Fn := ⟨5, 6, (.cons (.tryw 5 (.cons (.ret (.ite (.cmp .eq (.var 0) (.cst (.str t_least))) (.call 90 (.cons (.var 1) (.cons (.var 2) .nil))) (.call 91 (.cons (.var 1) (.cons (.var 2) (.cons (.var 3) (.cons (.var 4) .nil))))))) .nil)) .nil)⟩
/-- _law_needed -/
def f81_law_needed : Fn := ⟨2, 5, (.cons (.ifs (.cmp .eq (.var 0) (.tup (.cons (.cst (.str t_pane)) .nil))) (.cons (.ret (.tup (.cons (.idx (.var 1) (.cst (.int 0))) (.cons (.slc (.var 1) (.cons (.cst (.int 1)) .nil) .nil) .nil)))) .nil) .nil) (.cons (.asg (.tp [2, 3]) (.call 81 (.cons (.idx (.var 0) (.cst (.int 2))) (.cons (.var 1) .nil)))) (.cons (.asg (.tp [4, 3]) (.call 81 (.cons (.idx (.var 0) (.cst (.int 3))) (.cons (.var 3) .nil)))) (.cons (.ifs (.cmp .eq (.idx (.var 0) (.cst (.int 0))) (.cst (.str t_side))) (.cons (.ret (.tup (.cons (.tup (.cons (.bin .add (.idx (.var 2) (.cst (.int 0))) (.idx (.var 4) (.cst (.int 0)))) (.cons (.blt .max (.cons (.idx (.var 2) (.cst (.int 1))) (.cons (.idx (.var 4) (.cst (.int 1))) .nil))) .nil))) (.cons (.var 3) .nil)))) .nil) .nil) (.cons (.ret (.tup (.cons (.tup (.cons (.blt .max (.cons (.idx (.var 2) (.cst (.int 0))) (.cons (.idx (.var 4) (.cst (.int 0))) .nil))) (.cons (.bin .add (.idx (.var 2) (.cst (.int 1))) (.idx (.var 4) (.cst (.int 1)))) .nil))) (.cons (.var 3) .nil)))) .nil)))))⟩
/-- _law_laid -/
def f82_law_laid : Fn := ⟨2, 6, (.cons (.ifs (.cmp .eq (.var 0) (.tup (.cons (.cst (.str t_pane)) .nil))) (.cons (.ret (.tup (.cons (.var 0) (.cons (.slc (.var 1) (.cons (.cst (.int 1)) .nil) .nil) .nil)))) .nil) .nil) (.cons (.asg (.nm 2) (.idx (.idx (.call 81 (.cons (.idx (.var 0) (.cst (.int 2))) (.cons (.var 1) .nil))) (.cst (.int 0))) (.blt .int (.cons (.cmp .eq (.idx (.var 0) (.cst (.int 0))) (.cst (.str t_stack))) .nil)))) (.cons (.asg (.tp [3, 4]) (.call 82 (.cons (.idx (.var 0) (.cst (.int 2))) (.cons (.var 1) .nil)))) (.cons (.asg (.tp [5, 4]) (.call 82 (.cons (.idx (.var 0) (.cst (.int 3))) (.cons (.var 4) .nil)))) (.cons (.ret (.tup (.cons (.tup (.cons (.idx (.var 0) (.cst (.int 0))) (.cons (.var 2) (.cons (.var 3) (.cons (.var 5) .nil))))) (.cons (.var 4) .nil)))) .nil)))))⟩
/-- law -/
def f138_law : Fn := ⟨1, 17, (.cons (.for_ (.nm 1) (.rng1 (.cst (.int 12))) (.cons (.asg (.nm 2) (.bin .add (.call 14 (.cons (.var 0) (.cons (.bin .mod (.var 1) (.cst (.int 9))) .nil))) (.bin .mul (.cst (.int 31)) (.var 1)))) (.cons (.asg (.nm 3) (.call 6 (.cons (.var 2) (.cons (.call 8 (.cons (.var 2) .nil)) (.cons (.cst (.int 7)) .nil))))) (.cons (.asg (.nm 4) (.tup .nil)) (.cons (.for_ (.nm 5) (.rng1 (.blt .len (.cons (.call 7 (.cons (.var 3) (.cons (.cst (.int 0)) (.cons (.cst (.int 0)) (.cons (.tup (.cons (.cst (.int 99)) (.cons (.cst (.int 99)) .nil))) .nil))))) .nil))) (.cons (.asg (.nm 10) (.tup (.cons (.bin .add (.cst (.int 1)) (.call 4 (.cons (.bin .add (.var 2) (.bin .mul (.cst (.int 7)) (.var 5))) (.cons (.cst (.int 9679)) (.cons (.cst (.int 9)) .nil))))) (.cons (.bin .add (.cst (.int 1)) (.call 4 (.cons (.bin .add (.var 2) (.bin .mul (.cst (.int 11)) (.var 5))) (.cons (.cst (.int 9677)) (.cons (.cst (.int 9)) .nil))))) .nil)))) (.cons (.asg (.nm 4) (.bin .add (.var 4) (.tup (.cons (.var 10) .nil)))) .nil))) (.cons (.asg (.tp [11, 12]) (.idx (.call 81 (.cons (.var 3) (.cons (.var 4) .nil))) (.cst (.int 0)))) (.cons (.ifs (.not (.call 24 (.cons (.call 136 (.cons (.cst (.str t_least)) (.cons (.var 3) (.cons (.var 4) (.cons (.cst (.int 0)) (.cons (.cst (.int 0)) .nil)))))) (.cons (.tup (.cons (.var 11) (.cons (.var 12) .nil))) .nil)))) (.cons (.ret (.cst (.bool false))) .nil) .nil) (.cons (.asg (.nm 6) (.idx (.call 82 (.cons (.var 3) (.cons (.var 4) .nil))) (.cst (.int 0)))) (.cons (.asg (.nm 7) (.call 4 (.cons (.var 2) (.cons (.cst (.int 9661)) (.cons (.cst (.int 5)) .nil))))) (.cons (.asg (.nm 8) (.lst (.cons (.tup (.cons (.var 11) (.cons (.var 12) (.cons (.var 6) .nil)))) (.cons (.tup (.cons (.bin .add (.var 11) (.var 7)) (.cons (.bin .add (.var 12) (.cst (.int 2))) (.cons (.var 6) .nil)))) .nil)))) (.cons (.asg (.nm 8) (.bin .add (.var 8) (.lst (.cons (.tup (.cons (.bin .sub (.var 11) (.cst (.int 1))) (.cons (.var 12) (.cons (.cst (.str t_no_20_room)) .nil)))) (.cons (.tup (.cons (.var 11) (.cons (.bin .sub (.var 12) (.cst (.int 1))) (.cons (.cst (.str t_no_20_room)) .nil)))) .nil))))) (.cons (.for_ (.tp [13, 14, 15]) (.seq (.var 8)) (.cons (.ifs (.not (.call 24 (.cons (.call 136 (.cons (.cst (.str t_laid)) (.cons (.var 3) (.cons (.var 4) (.cons (.var 13) (.cons (.var 14) .nil)))))) (.cons (.var 15) .nil)))) (.cons (.ret (.cst (.bool false))) .nil) .nil) .nil)) (.cons (.for_ (.nm 9) (.seq (.tup (.cons (.slc (.var 4) (.cons (.cst (.int 1)) .nil) .nil) (.cons (.bin .add (.var 4) (.tup (.cons (.tup (.cons (.cst (.int 1)) (.cons (.cst (.int 1)) .nil))) .nil))) .nil)))) (.cons (.ifs (.cmp .ne (.lc (.nm 16) (.seq (.tup (.cons (.cst (.str t_least)) (.cons (.cst (.str t_laid)) .nil)))) (.call 136 (.cons (.var 16) (.cons (.var 3) (.cons (.var 9) (.cons (.bin .sub (.var 11) (.cst (.int 1))) (.cons (.var 12) .nil))))))) (.bin .mul (.lst (.cons (.cst (.str t_no_20_needs)) .nil)) (.cst (.int 2)))) (.cons (.ret (.cst (.bool false))) .nil) .nil) .nil)) .nil))))))))))))) (.cons (.ret (.cst (.bool true))) .nil))⟩
/-- _law_after -/
def f55_law_after : Fn := ⟨3, 10, (.cons (.ifs (.cmp .eq (.var 0) (.tup (.cons (.cst (.str t_pane)) .nil))) (.cons (.ret (.cst (.none))) .nil) .nil) (.cons (.asg (.tp [3, 4, 5, 6]) (.var 0)) (.cons (.ifs (.cmp .ne (.var 1) (.cst (.str t_empty))) (.cons (.own 7 (.lst (.cons (.var 5) (.cons (.var 6) .nil)))) (.cons (.asg (.nm 8) (.fnd t_12 (.idx (.var 1) (.cst (.int 0))))) (.cons (.asg (.nm 9) (.call 55 (.cons (.idx (.var 7) (.var 8)) (.cons (.slc (.var 1) (.cons (.cst (.int 1)) .nil) .nil) (.cons (.var 2) .nil))))) (.cons (.put 7 (.var 8) (.var 9)) (.cons (.ret (.ite (.cmp .is_ (.var 9) (.cst (.none))) (.cst (.none)) (.tup (.cons (.var 3) (.cons (.var 4) (.cons (.idx (.var 7) (.cst (.int 0))) (.cons (.idx (.var 7) (.cst (.int 1))) .nil))))))) .nil))))) .nil) (.cons (.ifs (.and (.cmp .eq (.var 2) (.cst (.str t_left))) (.cmp .eq (.idx (.var 6) (.cst (.int 0))) (.var 3))) (.cons (.ret (.tup (.cons (.var 3) (.cons (.bin .add (.var 4) (.idx (.var 6) (.cst (.int 1)))) (.cons (.tup (.cons (.var 3) (.cons (.var 4) (.cons (.var 5) (.cons (.idx (.var 6) (.cst (.int 2))) .nil))))) (.cons (.idx (.var 6) (.cst (.int 3))) .nil)))))) .nil) .nil) (.cons (.ifs (.and (.cmp .eq (.var 2) (.cst (.str t_right))) (.cmp .eq (.idx (.var 5) (.cst (.int 0))) (.var 3))) (.cons (.ret (.tup (.cons (.var 3) (.cons (.idx (.var 5) (.cst (.int 1))) (.cons (.idx (.var 5) (.cst (.int 2))) (.cons (.tup (.cons (.var 3) (.cons (.bin .sub (.var 4) (.idx (.var 5) (.cst (.int 1)))) (.cons (.idx (.var 5) (.cst (.int 3))) (.cons (.var 6) .nil))))) .nil)))))) .nil) .nil) (.cons (.ifs (.and (.cmp .eq (.var 2) (.cst (.str t_cross))) (.and (.cmp .eq (.blt .len (.cons (.var 5) .nil)) (.cst (.int 4))) (.and (.cmp .ne (.idx (.var 5) (.cst (.int 0))) (.var 3)) (.cmp .eq (.slc (.var 6) .nil (.cons (.cst (.int 2)) .nil)) (.slc (.var 5) .nil (.cons (.cst (.int 2)) .nil)))))) (.cons (.ret (.tup (.cons (.idx (.var 5) (.cst (.int 0))) (.cons (.idx (.var 5) (.cst (.int 1))) (.cons (.tup (.cons (.var 3) (.cons (.var 4) (.cons (.idx (.var 5) (.cst (.int 2))) (.cons (.idx (.var 6) (.cst (.int 2))) .nil))))) (.cons (.tup (.cons (.var 3) (.cons (.var 4) (.cons (.idx (.var 5) (.cst (.int 3))) (.cons (.idx (.var 6) (.cst (.int 3))) .nil))))) .nil)))))) .nil) .nil) (.cons (.ret (.cst (.none))) .nil)))))))⟩
/-- _law_ways -/
def f54_law_ways : Fn := ⟨1, 2, (.cons (.ifs (.cmp .eq (.var 0) (.tup (.cons (.cst (.str t_pane)) .nil))) (.cons (.ret (.lst (.cons (.cst (.str t_empty)) .nil))) .nil) .nil) (.cons (.ret (.bin .add (.bin .add (.lst (.cons (.cst (.str t_empty)) .nil)) (.lc (.nm 1) (.seq (.call 54 (.cons (.idx (.var 0) (.cst (.int 2))) .nil))) (.bin .add (.cst (.str t_1)) (.var 1)))) (.lc (.nm 1) (.seq (.call 54 (.cons (.idx (.var 0) (.cst (.int 3))) .nil))) (.bin .add (.cst (.str t_2)) (.var 1))))) .nil))⟩
/-- _law_moves -/
def f57_law_moves : Fn := ⟨1, 4, (.cons (.own 1 (.lst .nil)) (.cons (.for_ (.nm 2) (.seq (.call 54 (.cons (.var 0) .nil))) (.cons (.for_ (.nm 3) (.seq (.tup (.cons (.cst (.str t_cross)) (.cons (.cst (.str t_left)) (.cons (.cst (.str t_right)) .nil))))) (.cons (.ifs (.cmp .isn (.call 55 (.cons (.var 0) (.cons (.var 2) (.cons (.var 3) .nil)))) (.cst (.none))) (.cons (.app 1 (.tup (.cons (.var 2) (.cons (.var 3) .nil)))) .nil) .nil) .nil)) .nil)) (.cons (.ret (.blt .tuple (.cons (.blt .sorted (.cons (.var 1) .nil)) .nil))) .nil)))⟩
/-- _law_crossed -/
def f56_law_crossed : Fn := ⟨2, 7, (.cons (.ifs (.or (.cmp .lt (.idx (.var 1) (.cst (.int 0))) (.cst (.int 2))) (.or (.cmp .lt (.idx (.var 1) (.cst (.int 1))) (.cst (.int 2))) (.cmp .eq (.call 4 (.cons (.var 0) (.cons (.cst (.int 9791)) (.cons (.cst (.int 2)) .nil)))) (.cst (.int 0))))) (.cons (.ret (.call 6 (.cons (.var 0) (.cons (.var 1) (.cons (.cst (.int 5)) .nil))))) .nil) .nil) (.cons (.par 4 5 (.bin .add (.cst (.int 1)) (.call 4 (.cons (.var 0) (.cons (.cst (.int 9787)) (.cons (.bin .sub (.idx (.var 1) (.cst (.int 0))) (.cst (.int 1))) .nil))))) (.bin .add (.cst (.int 1)) (.call 4 (.cons (.var 0) (.cons (.cst (.int 9781)) (.cons (.bin .sub (.idx (.var 1) (.cst (.int 1))) (.cst (.int 1))) .nil)))))) (.cons (.own 2 (.lst .nil)) (.cons (.for_ (.nm 3) (.seq (.tup (.cons (.var 4) (.cons (.bin .sub (.idx (.var 1) (.cst (.int 0))) (.var 4)) .nil)))) (.cons (.for_ (.nm 6) (.seq (.tup (.cons (.var 5) (.cons (.bin .sub (.idx (.var 1) (.cst (.int 1))) (.var 5)) .nil)))) (.cons (.app 2 (.call 6 (.cons (.bin .add (.bin .add (.var 0) (.var 3)) (.bin .mul (.cst (.int 7)) (.var 6))) (.cons (.tup (.cons (.var 3) (.cons (.var 6) .nil))) (.cons (.bin .add (.cst (.int 1)) (.blt .int (.cons (.cmp .eq (.var 2) (.lst .nil)) .nil))) .nil))))) .nil)) .nil)) (.cons (.ret (.tup (.cons (.cst (.str t_side)) (.cons (.var 4) (.cons (.tup (.cons (.cst (.str t_stack)) (.cons (.var 5) (.cons (.idx (.var 2) (.cst (.int 0))) (.cons (.idx (.var 2) (.cst (.int 1))) .nil))))) (.cons (.tup (.cons (.cst (.str t_stack)) (.cons (.var 5) (.cons (.idx (.var 2) (.cst (.int 2))) (.cons (.idx (.var 2) (.cst (.int 3))) .nil))))) .nil)))))) .nil)))))⟩
/-- _law_told -/
def f134_law_told : Fn := ⟨2, 3, (.cons (.tryw 2 (.cons (.ret (.call 127 (.cons (.var 0) (.cons (.var 1) .nil)))) .nil)) .nil)⟩
/-- law -/
def f139_law : Fn := ⟨1, 10, (.cons (.for_ (.nm 1) (.rng1 (.cst (.int 12))) (.cons (.asg (.nm 4) (.bin .add (.call 14 (.cons (.var 0) (.cons (.bin .mod (.var 1) (.cst (.int 9))) .nil))) (.bin .mul (.cst (.int 31)) (.var 1)))) (.cons (.asg (.nm 5) (.call 8 (.cons (.var 4) .nil))) (.cons (.asg (.nm 6) (.ite (.cmp .eq (.bin .mod (.var 1) (.cst (.int 2))) (.cst (.int 0))) (.call 6 (.cons (.var 4) (.cons (.var 5) (.cons (.cst (.int 7)) .nil)))) (.call 56 (.cons (.var 4) (.cons (.var 5) .nil))))) (.cons (.ifs (.not (.call 24 (.cons (.call 126 (.cons (.var 6) .nil)) (.cons (.call 57 (.cons (.var 6) .nil)) .nil)))) (.cons (.ret (.cst (.bool false))) .nil) .nil) (.cons (.for_ (.nm 7) (.seq (.bin .add (.call 54 (.cons (.var 6) .nil)) (.lst (.cons (.cst (.str t_3)) (.cons (.cst (.str t_1111111)) (.cons (.cst (.str t_x)) .nil)))))) (.cons (.for_ (.nm 8) (.seq (.tup (.cons (.cst (.str t_left)) (.cons (.cst (.str t_right)) (.cons (.cst (.str t_cross)) (.cons (.cst (.str t_up)) (.cons (.cst (.str t_empty)) .nil))))))) (.cons (.asg (.nm 9) (.cst (.none))) (.cons (.ifs (.cmp .in_ (.var 7) (.call 54 (.cons (.var 6) .nil))) (.cons (.asg (.nm 9) (.call 55 (.cons (.var 6) (.cons (.var 7) (.cons (.var 8) .nil))))) .nil) .nil) (.cons (.ifs (.not (.call 24 (.cons (.call 134 (.cons (.var 6) (.cons (.tup (.cons (.var 7) (.cons (.var 8) .nil))) .nil))) (.cons (.or (.var 9) (.cst (.str t_no_20_move))) .nil)))) (.cons (.ret (.cst (.bool false))) .nil) .nil) .nil)))) .nil)) .nil)))))) (.cons (.asg (.nm 2) (.tup (.cons (.cst (.str t_side)) (.cons (.cst (.int 1)) (.cons (.tup (.cons (.cst (.str t_stack)) (.cons (.cst (.int 2)) (.cons (.tup (.cons (.cst (.str t_pane)) .nil)) (.cons (.tup (.cons (.cst (.str t_pane)) .nil)) .nil))))) (.cons (.tup (.cons (.cst (.str t_stack)) (.cons (.cst (.int 2)) (.cons (.tup (.cons (.cst (.str t_pane)) .nil)) (.cons (.tup (.cons (.cst (.str t_pane)) .nil)) .nil))))) .nil)))))) (.cons (.asg (.nm 3) (.tup (.cons (.cst (.str t_side)) (.cons (.cst (.int 1)) (.cons (.tup (.cons (.cst (.str t_pane)) .nil)) (.cons (.tup (.cons (.cst (.str t_pane)) .nil)) .nil)))))) (.cons (.ret (.cmp .eq (.call 127 (.cons (.var 2) (.cons (.tup (.cons (.cst (.str t_empty)) (.cons (.cst (.str t_cross)) .nil))) .nil))) (.tup (.cons (.cst (.str t_stack)) (.cons (.cst (.int 2)) (.cons (.var 3) (.cons (.var 3) .nil))))))) .nil))))⟩
/-- is_tree_in -/
def f19_is_tree_in : Fn := ⟨2, 8, (.cons (.ifs (.cmp .eq (.var 0) (.cst (.tuple [.str t_pane]))) (.cons (.ret (.cst (.bool true))) .nil) .nil) (.cons (.ifs (.or (.not (.isi .tuple (.var 0))) (.or (.cmp .ne (.blt .len (.cons (.var 0) .nil)) (.cst (.int 4))) (.not (.isi .str (.idx (.var 0) (.cst (.int 0))))))) (.cons (.ret (.cst (.bool false))) .nil) .nil) (.cons (.asg (.tp [2, 3, 4, 5]) (.var 0)) (.cons (.ifs (.or (.cmp .nin (.var 2) (.tup (.cons (.cst (.str t_side)) (.cons (.cst (.str t_stack)) .nil)))) (.not (.call 0 (.cons (.var 3) (.cons (.cst (.int 1)) (.cons (.bin .sub (.idx (.var 1) (.blt .int (.cons (.cmp .eq (.var 2) (.cst (.str t_stack))) .nil))) (.cst (.int 1))) .nil)))))) (.cons (.ret (.cst (.bool false))) .nil) .nil) (.cons (.asg (.tp [6, 7]) (.call 18 (.cons (.var 2) (.cons (.var 3) (.cons (.var 1) .nil))))) (.cons (.ret (.and (.call 19 (.cons (.var 4) (.cons (.var 6) .nil))) (.call 19 (.cons (.var 5) (.cons (.var 7) .nil))))) .nil))))))⟩
/-- is_tree -/
def f22_is_tree : Fn := ⟨2, 2, (.cons (.ret (.and (.call 19 (.cons (.var 0) (.cons (.var 1) .nil))) (.cmp .le (.call 20 (.cons (.var 0) .nil)) (.cst (.int 7))))) .nil)⟩
/-- _law_odd -/
def f11_law_odd : Fn := ⟨2, 4, (.cons (.ifs (.and (.isi .tuple (.var 0)) (.and (.cmp .ne (.var 0) (.tup .nil)) (.cmp .gt (.call 4 (.cons (.var 1) (.cons (.cst (.int 9781)) (.cons (.cst (.int 5)) .nil)))) (.cst (.int 0))))) (.cons (.asg (.nm 3) (.call 4 (.cons (.var 1) (.cons (.cst (.int 9769)) (.cons (.blt .len (.cons (.var 0) .nil)) .nil))))) (.cons (.ret (.bin .add (.bin .add (.slc (.var 0) .nil (.cons (.var 3) .nil)) (.tup (.cons (.call 11 (.cons (.idx (.var 0) (.var 3)) (.cons (.bin .add (.bin .add (.var 1) (.bin .mul (.cst (.int 31)) (.var 3))) (.cst (.int 7))) .nil))) .nil))) (.slc (.var 0) (.cons (.bin .add (.var 3) (.cst (.int 1))) .nil) .nil))) .nil)) .nil) (.cons (.asg (.nm 2) (.lst (.cons (.cst (.none)) (.cons (.cst (.bool true)) (.cons (.cst (.bool false)) (.cons (.cst (.int 0)) (.cons (.cst (.int 1)) (.cons (.neg (.cst (.int 1))) (.cons (.cst (.int 2)) (.cons (.cst (.int 7)) (.cons (.cst (.int 10)) (.cons (.cst (.int 1000)) (.cons (.cst (.str t_empty)) (.cons (.cst (.str t_a)) (.cons (.cst (.str t_A)) (.cons (.tup .nil) (.cons (.tup (.cons (.cst (.str t_a)) .nil)) (.cons (.lst (.cons (.cst (.int 1)) .nil)) .nil)))))))))))))))))) (.cons (.ifs (.isi .tuple (.var 0)) (.cons (.asg (.nm 2) (.bin .add (.var 2) (.bin .mul (.lst (.cons (.blt .list (.cons (.var 0) .nil)) (.cons (.bin .add (.var 0) (.slc (.var 0) (.cons (.neg (.cst (.int 1))) .nil) .nil)) (.cons (.slc (.var 0) .nil (.cons (.neg (.cst (.int 1))) .nil)) (.cons (.rev (.var 0)) (.cons (.slc (.var 0) (.cons (.cst (.int 1)) .nil) .nil) (.cons (.tup (.cons (.var 0) .nil)) .nil))))))) (.cst (.int 2))))) .nil) (.cons (.ifs (.isi .str (.var 0)) (.cons (.asg (.nm 2) (.bin .add (.var 2) (.bin .mul (.lst (.cons (.bin .add (.var 0) (.cst (.str t_a))) (.cons (.slc (.var 0) .nil (.cons (.neg (.cst (.int 1))) .nil)) (.cons (.upp (.var 0)) (.cons (.bin .add (.var 0) (.cst (.str t__20_))) (.cons (.bin .mul (.var 0) (.cst (.int 2))) (.cons (.lst (.cons (.var 0) .nil)) (.cons (.bin .add (.var 0) (.slc (.var 0) .nil (.cons (.cst (.int 1)) .nil))) .nil)))))))) (.cst (.int 2))))) .nil) (.cons (.ifs (.isi .int (.var 0)) (.cons (.asg (.nm 2) (.bin .add (.var 2) (.bin .mul (.lst (.cons (.bin .add (.var 0) (.cst (.int 1))) (.cons (.bin .sub (.var 0) (.cst (.int 1))) (.cons (.bin .sub (.cst (.int 0)) (.var 0)) (.cons (.tup (.cons (.var 0) .nil)) (.cons (.bin .add (.var 0) (.cst (.int 2))) (.cons (.bin .mul (.var 0) (.cst (.int 2))) .nil))))))) (.cst (.int 2))))) .nil) .nil) .nil)) .nil)) (.cons (.ret (.idx (.var 2) (.call 4 (.cons (.var 1) (.cons (.cst (.int 9749)) (.cons (.blt .len (.cons (.var 2) .nil)) .nil)))))) .nil))))⟩
/-- _law_is_tree -/
def f21_law_is_tree : Fn := ⟨2, 7, (.cons (.ifs (.cmp .eq (.var 0) (.tup (.cons (.cst (.str t_pane)) .nil))) (.cons (.ret (.cst (.int 1))) .nil) .nil) (.cons (.ifs (.or (.not (.isi .tuple (.var 0))) (.or (.cmp .ne (.blt .len (.cons (.var 0) .nil)) (.cst (.int 4))) (.not (.isi .str (.idx (.var 0) (.cst (.int 0))))))) (.cons (.ret (.cst (.int 0))) .nil) .nil) (.cons (.ifs (.cmp .nin (.idx (.var 0) (.cst (.int 0))) (.tup (.cons (.cst (.str t_side)) (.cons (.cst (.str t_stack)) .nil)))) (.cons (.ret (.cst (.int 0))) .nil) .nil) (.cons (.asg (.nm 2) (.idx (.var 0) (.cst (.int 1)))) (.cons (.ifs (.or (.not (.isi .int (.var 2))) (.or (.isi .bool (.var 2)) (.not (.chn .lt .lt (.cst (.int 0)) (.var 2) (.idx (.var 1) (.blt .int (.cons (.cmp .eq (.idx (.var 0) (.cst (.int 0))) (.cst (.str t_stack))) .nil))))))) (.cons (.ret (.cst (.int 0))) .nil) .nil) (.cons (.asg (.tp [3, 4]) (.call 5 (.cons (.idx (.var 0) (.cst (.int 0))) (.cons (.var 2) (.cons (.var 1) .nil))))) (.cons (.par 5 6 (.call 21 (.cons (.idx (.var 0) (.cst (.int 2))) (.cons (.var 3) .nil))) (.call 21 (.cons (.idx (.var 0) (.cst (.int 3))) (.cons (.var 4) .nil)))) (.cons (.ret (.ite (.and (.cmp .gt (.var 5) (.cst (.int 0))) (.cmp .gt (.var 6) (.cst (.int 0)))) (.bin .add (.var 5) (.var 6)) (.cst (.int 0)))) .nil))))))))⟩
/-- law -/
def f140_law : Fn := ⟨1, 15, (.cons (.for_ (.nm 1) (.rng1 (.cst (.int 10))) (.cons (.asg (.nm 5) (.bin .add (.call 14 (.cons (.var 0) (.cons (.bin .mod (.var 1) (.cst (.int 9))) .nil))) (.bin .mul (.cst (.int 31)) (.var 1)))) (.cons (.asg (.nm 6) (.call 8 (.cons (.var 5) .nil))) (.cons (.asg (.nm 7) (.call 6 (.cons (.var 5) (.cons (.var 6) (.cons (.cst (.int 7)) .nil))))) (.cons (.own 8 (.lst (.cons (.tup (.cons (.var 7) (.cons (.var 6) .nil))) (.cons (.tup (.cons (.var 7) (.cons (.rev (.var 6)) .nil))) .nil)))) (.cons (.own 8 (.bin .add (.var 8) (.lst (.cons (.tup (.cons (.var 7) (.cons (.call 8 (.cons (.bin .add (.var 5) (.cst (.int 1))) .nil)) .nil))) (.cons (.tup (.cons (.blt .list (.cons (.var 7) .nil)) (.cons (.var 6) .nil))) .nil))))) (.cons (.app 8 (.tup (.cons (.tup (.cons (.cst (.str t_side)) (.cons (.cst (.int 1)) (.cons (.var 7) (.cons (.var 7) .nil))))) (.cons (.tup (.cons (.blt .min (.cons (.cst (.int 6)) (.cons (.bin .add (.idx (.var 6) (.cst (.int 0))) (.cst (.int 1))) .nil))) (.cons (.idx (.var 6) (.cst (.int 1))) .nil))) .nil)))) (.cons (.for_ (.nm 9) (.rng1 (.cst (.int 20))) (.cons (.app 8 (.tup (.cons (.call 11 (.cons (.var 7) (.cons (.bin .add (.bin .add (.call 14 (.cons (.var 0) (.cons (.cst (.int 9)) .nil))) (.bin .mul (.cst (.int 17)) (.var 9))) (.bin .mul (.cst (.int 5)) (.var 1))) .nil))) (.cons (.var 6) .nil)))) .nil)) (.cons (.frz 8) (.cons (.for_ (.tp [10, 11]) (.seq (.var 8)) (.cons (.asg (.nm 12) (.call 21 (.cons (.var 10) (.cons (.var 11) .nil)))) (.cons (.par 13 14 (.call 22 (.cons (.var 10) (.cons (.var 11) .nil))) (.chn .lt .lt (.cst (.int 0)) (.var 12) (.cst (.int 8)))) (.cons (.ifs (.or (.and (.cmp .isn (.var 13) (.cst (.bool true))) (.var 14)) (.and (.cmp .isn (.var 13) (.cst (.bool false))) (.not (.var 14)))) (.cons (.ret (.cst (.bool false))) .nil) .nil) .nil)))) (.cons (.ifs (.cmp .ne (.call 20 (.cons (.var 7) .nil)) (.call 21 (.cons (.var 7) (.cons (.var 6) .nil)))) (.cons (.ret (.cst (.bool false))) .nil) .nil) .nil))))))))))) (.cons (.asg (.nm 2) (.tup (.cons (.cst (.str t_pane)) .nil))) (.cons (.for_ (.nm 3) (.rng1 (.cst (.int 5))) (.cons (.asg (.nm 2) (.tup (.cons (.cst (.str t_side)) (.cons (.cst (.int 1)) (.cons (.tup (.cons (.cst (.str t_pane)) .nil)) (.cons (.var 2) .nil)))))) (.cons (.ifs (.or (.cmp .isn (.call 22 (.cons (.var 2) (.cons (.tup (.cons (.cst (.int 6)) (.cons (.cst (.int 2)) .nil))) .nil))) (.cst (.bool true))) (.cmp .isn (.call 22 (.cons (.var 2) (.cons (.tup (.cons (.bin .add (.var 3) (.cst (.int 1))) (.cons (.cst (.int 2)) .nil))) .nil))) (.cst (.bool false)))) (.cons (.ret (.cst (.bool false))) .nil) .nil) .nil))) (.cons (.asg (.nm 4) (.tup (.cons (.cst (.str t_stack)) (.cons (.cst (.int 1)) (.cons (.tup (.cons (.cst (.str t_pane)) .nil)) (.cons (.var 2) .nil)))))) (.cons (.ret (.and (.cmp .is_ (.call 22 (.cons (.var 4) (.cons (.tup (.cons (.cst (.int 6)) (.cons (.cst (.int 6)) .nil))) .nil))) (.cst (.bool true))) (.cmp .is_ (.call 22 (.cons (.tup (.cons (.cst (.str t_stack)) (.cons (.cst (.int 1)) (.cons (.tup (.cons (.cst (.str t_pane)) .nil)) (.cons (.var 4) .nil))))) (.cons (.tup (.cons (.cst (.int 6)) (.cons (.cst (.int 6)) .nil))) .nil))) (.cst (.bool false))))) .nil)))))⟩
end PP

set_option Elab.async false
set_option linter.all false
set_option autoImplicit false
set_option maxRecDepth 100000
set_option maxHeartbeats 1000000
namespace PP
open PySem
/-! ### evaluation -/
theorem call_eq {T : Nat → Option Fn} {n i : Nat} {fn : Fn} {as : List R} (h : T i = some fn) (hl : as.length = fn.np) : call T (n + 1) i as = outR (xs (call T n) fn.body (startS fn.n as)) := by
  show (match T i with
    | some d => if as.length = d.np then outR (xs (call T n) d.body (startS d.n as)) else .bad
    | none => .bad) = _
  rw [h]
  exact if_pos hl
theorem xs_nx {C : Nat → List R → Rs R} {s : Sm} {ss : Sms} {ρ ρ1 : Sto} (h : x1 C s ρ = .ok (.nx ρ1)) : xs C (.cons s ss) ρ = xs C ss ρ1 := by
  rw [xs.eq_2, h]; rfl
theorem xs_rt {C : Nat → List R → Rs R} {s : Sm} {ss : Sms} {ρ : Sto} {r : R} (h : x1 C s ρ = .ok (.rt r)) : xs C (.cons s ss) ρ = .ok (.rt r) := by
  rw [xs.eq_2, h]; rfl
def tl : Sms → Sms
  | .cons _ s => s
  | .nil => .nil
def hd : Sms → Sm
  | .cons s _ => s
  | .nil => .pas
theorem xs_step {C : Nat → List R → Rs R} {b : Sms} {ρ ρ1 : Sto} (hb : b = .cons (hd b) (tl b)) (h : x1 C (hd b) ρ = .ok (.nx ρ1)) : xs C b ρ = xs C (tl b) ρ1 := by
  have q := xs_nx (ss := tl b) h
  rw [← hb] at q
  exact q
theorem xs_end {C : Nat → List R → Rs R} {b : Sms} {ρ : Sto} {r : R} (hb : b = .cons (hd b) (tl b)) (h : x1 C (hd b) ρ = .ok (.rt r)) : xs C b ρ = .ok (.rt r) := by
  have q := xs_rt (ss := tl b) h
  rw [← hb] at q
  exact q
variable {T : Nat → Option Fn} {n : Nat}
/-! ### the law's draws -/
def mixI (c p m : Int) : Int := (c * 48271 % p) * ((c * 48271 % p) + 7) % p % m
theorem mixI_bd {c p m : Int} (hm : 0 < m) : 0 ≤ mixI c p m ∧ mixI c p m < m := ⟨Int.emod_nonneg _ (by omega), Int.emod_lt_of_pos _ hm⟩
theorem c_mix (h : T 4 = some f4_law_mix) {c p m : Int} (hp : 0 < p) (hp2 : p < 100000) (hm : 0 < m) : call T (n+1) 4 [.d (.int c), .d (.int p), .d (.int m)] = .ok (.d (.int (mixI c p m))) := by
  have h1 : 0 ≤ c * 48271 % p := Int.emod_nonneg _ (by omega)
  have h2 : c * 48271 % p < p := Int.emod_lt_of_pos _ hp
  have hb : bnd (c * 48271 % p) = true := by
    unfold bnd
    simp
    omega
  have hb2 : bnd 48271 = true := by decide
  simp [call, h, f4_law_mix, xs, x1, ev, startS, binR, mulR, addR, modR, R.lend, R.frz, setT, outR, retR, hp, hm, hb, hb2, Rs.bind, mixI]
theorem c_cell (h : T 14 = some f14_law_cell) (ns : List Int) (k : Nat) : ∃ c : Int, call T (n+1) 14 [.s (ns.map PyData.int), .d (.int k)] = .ok (.d (.int c)) := by
  by_cases hk : k < ns.length
  · refine ⟨ns[k], ?_⟩
    have e : L2.atI (ns.map PyData.int) (k : Int) = some (.int ns[k]) := L2.atI_nat (by simp [hk])
    have hk' : (k : Int) < ns.length := by omega
    simp [call, h, f14_law_cell, xs, x1, ev, evs, evT, startS, R.lend, cmpR, ltR, bltR, lenR, R.seq?, idxR, outR, retR, e, hk']
  · refine ⟨0, ?_⟩
    have hk' : ¬ (k : Int) < ns.length := by omega
    simp [call, h, f14_law_cell, xs, x1, ev, evs, evT, startS, R.lend, cmpR, ltR, bltR, lenR, R.seq?, idxR, outR, retR, hk']
theorem c_window (h4 : T 4 = some f4_law_mix) (h : T 8 = some f8_law_window) (c : Int) : ∃ w g : Int, call T (n+2) 8 [.d (.int c)] = .ok (.d (.tuple [.int w, .int g])) ∧ 1 ≤ w ∧ w ≤ 6 ∧ 1 ≤ g ∧ g ≤ 6 := by
  have b1 := mixI_bd (c := c) (p := 9973) (m := 6) (by decide)
  have b2 := mixI_bd (c := c) (p := 9967) (m := 6) (by decide)
  refine ⟨1 + mixI c 9973 6, 1 + mixI c 9967 6, ?_, by omega, by omega, by omega, by omega⟩
  rw [call_eq h rfl]
  have e1 := c_mix (n := n) h4 (c := c) (p := 9973) (m := 6) (by decide) (by decide) (by decide)
  have e2 := c_mix (n := n) h4 (c := c) (p := 9967) (m := 6) (by decide) (by decide) (by decide)
  simp [f8_law_window, xs, x1, ev, evs, startS, R.lend, R.arg, R.frz, argAll, frzAll, mapR, binR, addR, outR, retR, e1, e2, fit, lim]
/-! ### trees -/
inductive Tr where
  | pane
  | cut (s : Bool) (at_ : Int) (a b : Tr)
def kd : Bool → Str
  | true => t_side
  | false => t_stack
def Tr.enc : Tr → D
  | .pane => .tuple [.str t_pane]
  | .cut s k a b => .tuple [.str (kd s), .int k, a.enc, b.enc]
def Tr.count : Tr → Nat
  | .pane => 1
  | .cut _ _ a b => a.count + b.count
def Tr.WF : Tr → Int → Int → Prop
  | .pane, w, h => 1 ≤ w ∧ 1 ≤ h
  | .cut true k a b, w, h => 1 ≤ k ∧ k < w ∧ a.WF k h ∧ b.WF (w - k) h
  | .cut false k a b, w, h => 1 ≤ k ∧ k < h ∧ a.WF w k ∧ b.WF w (h - k)
structure TB (T : Nat → Option Fn) : Prop where
  mix : T 4 = some f4_law_mix
  parts : T 5 = some f5_law_parts
  tree : T 6 = some f6_law_tree
  panes : T 7 = some f7_law_panes
  window : T 8 = some f8_law_window
  cell : T 14 = some f14_law_cell
theorem c_lparts (h : TB T) (s : Bool) (k w g : Int) : call T (n+1) 5 [.d (.str (kd s)), .d (.int k), .d (.tuple [.int w, .int g])] =
    .ok (.d (.tuple (if s then [.tuple [.int k, .int g], .tuple [.int (w - k), .int g]] else [.tuple [.int w, .int k], .tuple [.int w, .int (g - k)]]))) := by
  rw [call_eq h.parts rfl]
  cases s <;> rfl
def sz (s : Bool) (w g : Int) : Int := if s then w else g
theorem c_treeRest (h : TB T) (k : Nat) (s : Bool) (c w g : Int) (m : Nat) (K : D) (hs : 1 < sz s w g) (hm : 2 ≤ m)
    (ih : ∀ (m' : Nat), m' < m → ∀ c' w' g' : Int, 1 ≤ w' → w' ≤ w → 1 ≤ g' → g' ≤ g → ∃ t : Tr, call T (k + 1) 6 [.d (.int c'), .d (.tuple [.int w', .int g']), .d (.int m')] = .ok (.d t.enc) ∧ t.WF w' g' ∧ t.count ≤ max m' 1)
    (hw : 1 ≤ w) (hg : 1 ≤ g) :
    ∃ t : Tr, xs (call T (k + 1)) (tl (tl (tl f6_law_tree.body))) [some (.d (.int c)), some (.d (.tuple [.int w, .int g])), some (.d (.int m)), some (.d K), some (.d (.str (kd s))), none, none, none, none] = .ok (.rt (.d t.enc)) ∧ t.WF w g ∧ t.count ≤ m := by
  have b1 := mixI_bd (c := c) (p := 9931) (m := sz s w g - 1) (by omega)
  have b2 := mixI_bd (c := c) (p := 9929) (m := (m : Int) - 1) (by omega)
  have e1 := c_mix (n := k) h.mix (c := c) (p := 9931) (m := sz s w g - 1) (by decide) (by decide) (by omega)
  have e2 := c_mix (n := k) h.mix (c := c) (p := 9929) (m := (m : Int) - 1) (by decide) (by decide) (by omega)
  generalize hat : mixI c 9931 (sz s w g - 1) = a at *
  generalize hah : mixI c 9929 ((m : Int) - 1) = b at *
  obtain ⟨b', rfl⟩ : ∃ b' : Nat, b = b' := ⟨b.toNat, by omega⟩
  have e3 := c_lparts (n := k) h s (1 + a) w g
  have i1 : ((1 : Int) + b') = ((1 + b' : Nat) : Int) := by omega
  have i2 : ((m : Int) - (1 + b')) = ((m - (1 + b') : Nat) : Int) := by omega
  cases s with
  | true =>
    have hs' : 1 < w := hs
    have ew : sz true w g = w := rfl
    rw [ew] at e1 b1
    obtain ⟨t1, q1, w1, n1⟩ := ih (1 + b') (by omega) (c + 7) (1 + a) g (by omega) (by omega) (by omega) (by omega)
    obtain ⟨t2, q2, w2, n2⟩ := ih (m - (1 + b')) (by omega) (c + 11) (w - (1 + a)) g (by omega) (by omega) (by omega) (by omega)
    rw [← i1] at q1
    rw [← i2] at q2
    refine ⟨.cut true (1 + a) t1 t2, ?_, ⟨by omega, by omega, w1, w2⟩, by show t1.count + t2.count ≤ m; omega⟩
    simp only [kd] at e3 ⊢
    simp [f6_law_tree, tl, xs, x1, ev, evs, R.lend, R.arg, R.frz, argAll, frzAll, mapR, binR, addR, subR, bltR, intR, boolR, cmpR, eqR, R.isD, shallow, R.see, PyData.eqv, PyData.depth, idxR, R.seq?, L2.atI, L2.ixN, outR, retR, fit, lim, setT, setAll, e1, e2, e3, q1, q2, Tr.enc, kd]
  | false =>
    have hs' : 1 < g := hs
    have ew : sz false w g = g := rfl
    rw [ew] at e1 b1
    obtain ⟨t1, q1, w1, n1⟩ := ih (1 + b') (by omega) (c + 7) w (1 + a) (by omega) (by omega) (by omega) (by omega)
    obtain ⟨t2, q2, w2, n2⟩ := ih (m - (1 + b')) (by omega) (c + 11) w (g - (1 + a)) (by omega) (by omega) (by omega) (by omega)
    rw [← i1] at q1
    rw [← i2] at q2
    refine ⟨.cut false (1 + a) t1 t2, ?_, ⟨by omega, by omega, w1, w2⟩, by show t1.count + t2.count ≤ m; omega⟩
    simp only [kd] at e3 ⊢
    simp [f6_law_tree, tl, xs, x1, ev, evs, R.lend, R.arg, R.frz, argAll, frzAll, mapR, binR, addR, subR, bltR, intR, boolR, cmpR, eqR, R.isD, shallow, R.see, PyData.eqv, PyData.depth, idxR, R.seq?, L2.atI, L2.ixN, outR, retR, fit, lim, setT, setAll, e1, e2, e3, q1, q2, Tr.enc, kd]
def kindsD (w g : Int) : List D := (if 1 < w then [.str t_side] else []) ++ (if 1 < g then [.str t_stack] else [])
theorem kinds_eval {C : Nat → List R → Rs R} (c w g : Int) (m : D) : x1 C (hd f6_law_tree.body) [some (.d (.int c)), some (.d (.tuple [.int w, .int g])), some (.d m), none, none, none, none, none, none] =
    .ok (.nx [some (.d (.int c)), some (.d (.tuple [.int w, .int g])), some (.d m), some (.d (.list (kindsD w g))), none, none, none, none, none]) := by
  by_cases a1 : 1 < w <;> by_cases a2 : 1 < g <;>
  simp [f6_law_tree, hd, x1, ev, evs, R.lend, R.frz, frzAll, mapR, binR, addR, mulR, R.lst?, bltR, intR, boolR, cmpR, gtR, idxR, R.seq?, L2.atI, L2.ixN, fit, lim, setT, a1, a2, kindsD]
theorem kinds_at (w g : Int) (j : Int) (h0 : 0 ≤ j) (h1 : j < (kindsD w g).length) : ∃ s : Bool, L2.atI (kindsD w g) j = some (.str (kd s)) ∧ 1 < sz s w g := by
  unfold kindsD at *
  by_cases a1 : 1 < w <;> by_cases a2 : 1 < g
  · simp only [a1, a2, if_true] at h1 ⊢
    have : j = 0 ∨ j = 1 := by simp at h1; omega
    rcases this with rfl | rfl
    · exact ⟨true, rfl, a1⟩
    · exact ⟨false, rfl, a2⟩
  · simp only [a1, a2, if_true, if_false] at h1 ⊢
    have : j = 0 := by simp at h1; omega
    subst this
    exact ⟨true, rfl, a1⟩
  · simp only [a1, a2, if_true, if_false] at h1 ⊢
    have : j = 0 := by simp at h1; omega
    subst this
    exact ⟨false, rfl, a2⟩
  · simp only [a1, a2, if_false] at h1
    simp at h1
    omega
theorem kinds_nil' (w g : Int) : PyData.eqvAll (kindsD w g) [] = (kindsD w g).isEmpty := by
  unfold kindsD
  by_cases a1 : 1 < w <;> by_cases a2 : 1 < g <;> simp [a1, a2, PyData.eqvAll]
theorem kinds_nil (w g : Int) : PyData.eqv (.list (kindsD w g)) (.list []) = (kindsD w g).isEmpty := by
  unfold kindsD
  by_cases a1 : 1 < w <;> by_cases a2 : 1 < g <;> simp [a1, a2, PyData.eqv, PyData.eqvAll]
theorem c_tree (h : TB T) : ∀ (m : Nat) (n : Nat) (c w g : Int), 1 ≤ w → 1 ≤ g → m + 2 ≤ n →
    ∃ t : Tr, call T n 6 [.d (.int c), .d (.tuple [.int w, .int g]), .d (.int m)] = .ok (.d t.enc) ∧ t.WF w g ∧ t.count ≤ max m 1 := by
  intro m
  induction m using Nat.strongRecOn with
  | ind m ih =>
    intro n c w g hw1 hg1 hn
    obtain ⟨k, rfl⟩ : ∃ k, n = k + 2 := ⟨n - 2, by omega⟩
    rw [call_eq h.tree rfl]
    show ∃ t : Tr, outR (xs (call T (k + 1)) f6_law_tree.body [some (.d (.int c)), some (.d (.tuple [.int w, .int g])), some (.d (.int m)), none, none, none, none, none, none]) = _ ∧ _
    rw [xs_step rfl (kinds_eval c w g _)]
    have m9 := c_mix (n := k) h.mix (c := c) (p := 9949) (m := 9) (by decide) (by decide) (by decide)
    by_cases stop : (m : Int) < 2 ∨ (kindsD w g).isEmpty = true ∨ mixI c 9949 9 = 0
    · refine ⟨.pane, ?_, ⟨hw1, hg1⟩, by show 1 ≤ max m 1; omega⟩
      rw [xs_end (r := .d (.tuple [.str t_pane])) rfl]
      · rfl
      · by_cases s1 : (m : Int) < 2
        · simp [f6_law_tree, hd, tl, x1, xs, ev, evs, evT, R.lend, R.frz, frzAll, mapR, cmpR, ltR, retR, fit, lim, s1]
        · by_cases s2 : (kindsD w g).isEmpty = true
          · simp [f6_law_tree, hd, tl, x1, xs, ev, evs, evT, R.lend, R.frz, frzAll, mapR, cmpR, ltR, eqR, R.isD, shallow, R.see, PyData.depth, PyData.depthAll, kinds_nil, retR, fit, lim, s1, s2]
          · have s3 : mixI c 9949 9 = 0 := by rcases stop with q | q | q; exact absurd q s1; exact absurd q s2; exact q
            simp [f6_law_tree, hd, tl, x1, xs, ev, evs, evT, R.lend, R.frz, R.arg, argAll, frzAll, mapR, cmpR, ltR, eqR, R.isD, shallow, R.see, PyData.depth, PyData.depthAll, PyData.eqv, kinds_nil', retR, fit, lim, s1, s2, m9, s3]
    · have s1 : ¬ (m : Int) < 2 := fun q => stop (.inl q)
      have s2 : (kindsD w g).isEmpty = false := Bool.eq_false_iff.mpr fun q => stop (.inr (.inl q))
      have s3 : ¬ mixI c 9949 9 = 0 := fun q => stop (.inr (.inr q))
      have hl : 0 < ((kindsD w g).length : Int) := by
        cases e : kindsD w g with
        | nil => rw [e] at s2; cases s2
        | cons a b => simp
      have b1 := mixI_bd (c := c) (p := 9941) (m := (kindsD w g).length) hl
      have m1 := c_mix (n := k) h.mix (c := c) (p := 9941) (m := (kindsD w g).length) (by decide) (by decide) hl
      obtain ⟨s, hs1, hs2⟩ := kinds_at w g _ b1.1 b1.2
      rw [xs_step rfl (ρ1 := [some (.d (.int c)), some (.d (.tuple [.int w, .int g])), some (.d (.int m)), some (.d (.list (kindsD w g))), none, none, none, none, none])]
      · rw [xs_step rfl (ρ1 := [some (.d (.int c)), some (.d (.tuple [.int w, .int g])), some (.d (.int m)), some (.d (.list (kindsD w g))), some (.d (.str (kd s))), none, none, none, none])]
        · obtain ⟨t, q1, q2, q3⟩ := c_treeRest h k s c w g m (.list (kindsD w g)) hs2 (by omega) (fun m' hm' c' w' g' h1 h2 h3 h4 => ih m' hm' (k + 1) c' w' g' h1 h3 (by omega)) hw1 hg1
          exact ⟨t, by rw [q1]; rfl, q2, by omega⟩
        · simp [f6_law_tree, hd, tl, x1, ev, evs, R.lend, R.frz, R.arg, argAll, mapR, bltR, lenR, R.seq?, idxR, setT, m1, hs1]
      · simp [f6_law_tree, hd, tl, x1, xs, ev, evs, evT, R.lend, R.frz, R.arg, argAll, frzAll, mapR, cmpR, ltR, eqR, R.isD, shallow, R.see, PyData.depth, PyData.depthAll, PyData.eqv, kinds_nil', retR, fit, lim, s1, s2, m9, s3]
end PP

set_option Elab.async false
set_option linter.all false
set_option autoImplicit false
set_option maxRecDepth 100000
set_option maxHeartbeats 1000000
namespace PP
open PySem
variable {T : Nat → Option Fn} {n : Nat}
/-! ### small facts -/
theorem fit1 {α : Type} {k : Rs α} : fit 1 k = k := rfl
theorem fit2 {α : Type} {k : Rs α} : fit 2 k = k := rfl
theorem fit3 {α : Type} {k : Rs α} : fit 3 k = k := rfl
theorem fit4 {α : Type} {k : Rs α} : fit 4 k = k := rfl
theorem idx0 (a : D) (xs : List D) : idxR (.d (.tuple (a :: xs))) (.d (.int 0)) = .ok (.d a) := by
  simp [idxR, R.seq?, L2.atI, L2.ixN]; try (rw [if_pos (by omega)]; rfl)
theorem idx1 (a b : D) (xs : List D) : idxR (.d (.tuple (a :: b :: xs))) (.d (.int 1)) = .ok (.d b) := by
  simp [idxR, R.seq?, L2.atI, L2.ixN]; try (rw [if_pos (by omega)]; rfl)
theorem idx2 (a b c : D) (xs : List D) : idxR (.d (.tuple (a :: b :: c :: xs))) (.d (.int 2)) = .ok (.d c) := by
  simp [idxR, R.seq?, L2.atI, L2.ixN]; try (rw [if_pos (by omega)]; rfl)
theorem idx3 (a b c d : D) (xs : List D) : idxR (.d (.tuple (a :: b :: c :: d :: xs))) (.d (.int 3)) = .ok (.d d) := by
  simp [idxR, R.seq?, L2.atI, L2.ixN]; try (rw [if_pos (by omega)]; rfl)
/-! ### panes of trees -/
def tD (ns : List Int) : D := .tuple (ns.map .int)
def Tr.panes : Tr → Int → Int → Int → Int → List (List Int)
  | .pane, l, t, w, h => [[l, t, w, h]]
  | .cut true k a b, l, t, w, h => a.panes l t k h ++ b.panes (l + k) t (w - k) h
  | .cut false k a b, l, t, w, h => a.panes l t w k ++ b.panes l (t + k) w (h - k)
theorem panes_len : ∀ (t : Tr) (l tp w h : Int), (t.panes l tp w h).length = t.count
  | .pane, _, _, _, _ => rfl
  | .cut true k a b, l, tp, w, h => by
    show (a.panes l tp k h ++ b.panes (l + k) tp (w - k) h).length = _
    rw [List.length_append, panes_len a, panes_len b]; rfl
  | .cut false k a b, l, tp, w, h => by
    show (a.panes l tp w k ++ b.panes l (tp + k) w (h - k)).length = _
    rw [List.length_append, panes_len a, panes_len b]; rfl
theorem count_pos : ∀ t : Tr, 1 ≤ t.count
  | .pane => Nat.le_refl 1
  | .cut _ _ a b => by have := count_pos a; show 1 ≤ a.count + b.count; omega
def Tr.isP : Tr → Bool
  | .pane => true
  | _ => false
def paneC : D := .tuple [.str t_pane]
theorem shallow_pane (x : D) : shallow x paneC = true := by
  unfold shallow
  have : paneC.depth = 1 := rfl
  rw [this]
  exact decide_eq_true (by omega)
theorem eqv_pane (t : Tr) : PyData.eqv t.enc paneC = t.isP := by
  cases t with
  | pane => rfl
  | cut s k a b => cases s <;> rfl
theorem eq_pane (t : Tr) : eqR (.d t.enc) (.d paneC) = .ok t.isP := by
  show (if (true && true && shallow t.enc paneC) then Rs.ok (PyData.eqv t.enc paneC) else .bad) = _
  rw [shallow_pane, eqv_pane]; rfl
structure TP (T : Nat → Option Fn) : Prop where
  b : TB T
  parts_of : T 18 = some f18_parts_of
  panes_in : T 20 = some f20_panes_in
  panes_at : T 23 = some f23_panes_at
  picture_of : T 25 = some f25_picture_of
  lpicture_of : T 9 = some f9_law_picture_of
theorem c_parts (h : TP T) (s : Bool) (k w g : Int) : call T (n+1) 18 [.d (.str (kd s)), .d (.int k), .d (.tuple [.int w, .int g])] =
    .ok (.d (.tuple (if s then [.tuple [.int k, .int g], .tuple [.int (w - k), .int g]] else [.tuple [.int w, .int k], .tuple [.int w, .int (g - k)]]))) := by
  rw [call_eq h.parts_of rfl]
  cases s <;> rfl
theorem kd_side (s : Bool) : eqR (.d (.str (kd s))) (.d (.str t_side)) = .ok s := by cases s <;> rfl
theorem kd_stack (s : Bool) : eqR (.d (.str (kd s))) (.d (.str t_stack)) = .ok (!s) := by cases s <;> rfl
theorem c_panes_at (h : TP T) : ∀ (t : Tr) (n : Nat) (l tp w g : Int), t.count + 1 ≤ n → t.count ≤ 1000 →
    call T n 23 [.d t.enc, .d (.int l), .d (.int tp), .d (.tuple [.int w, .int g])] = .ok (.l ((t.panes l tp w g).map tD))
  | .pane, n, l, tp, w, g, hn, hc => by
    obtain ⟨k, rfl⟩ : ∃ k, n = k + 1 := ⟨n - 1, by have := count_pos .pane; omega⟩
    rw [call_eq h.panes_at rfl]
    have e := eq_pane .pane
    rfl
  | .cut s k a b, n, l, tp, w, g, hn, hc => by
    have hc' : a.count + b.count ≤ 1000 := hc
    have hn' : a.count + b.count + 1 ≤ n := hn
    have ca := count_pos a
    have cb := count_pos b
    obtain ⟨m, rfl⟩ : ∃ m, n = m + 2 := ⟨n - 2, by omega⟩
    rw [call_eq h.panes_at rfl]
    have e := eq_pane (.cut s k a b)
    have ep := c_parts (n := m) h s k w g
    have es := kd_side s
    show outR (xs (call T (m + 1)) f23_panes_at.body [some (.d (Tr.cut s k a b).enc), some (.d (.int l)), some (.d (.int tp)), some (.d (.tuple [.int w, .int g])), none, none, none, none, none, none]) = _
    rw [xs_step rfl (ρ1 := [some (.d (Tr.cut s k a b).enc), some (.d (.int l)), some (.d (.int tp)), some (.d (.tuple [.int w, .int g])), none, none, none, none, none, none])]
    · cases s with
      | true =>
        have e1 := c_panes_at h a (m + 1) l tp k g (by omega) (by omega)
        have e2 := c_panes_at h b (m + 1) (l + k) tp (w - k) g (by omega) (by omega)
        have l1 := panes_len a l tp k g
        have l2 := panes_len b (l + k) tp (w - k) g
        simp only [if_true] at ep
        have z : (a.panes l tp k g).length + (b.panes (l + k) tp (w - k) g).length ≤ lim := by
          rw [l1, l2]; unfold lim; omega
        simp [f23_panes_at, tl, x1, xs, ev, evs, evT, R.lend, R.arg, R.frz, argAll, mapR, binR, addR, R.lst?, cmpR, setT, setAll, Tr.enc, ep, es, e1, e2, outR, retR, fit_ok z, Tr.panes]
      | false =>
        have e1 := c_panes_at h a (m + 1) l tp w k (by omega) (by omega)
        have e2 := c_panes_at h b (m + 1) l (tp + k) w (g - k) (by omega) (by omega)
        have l1 := panes_len a l tp w k
        have l2 := panes_len b l (tp + k) w (g - k)
        simp only [Bool.false_eq_true, if_false] at ep
        have z : (a.panes l tp w k).length + (b.panes l (tp + k) w (g - k)).length ≤ lim := by
          rw [l1, l2]; unfold lim; omega
        simp [f23_panes_at, tl, x1, xs, ev, evs, evT, R.lend, R.arg, R.frz, argAll, mapR, binR, addR, R.lst?, cmpR, setT, setAll, Tr.enc, ep, es, e1, e2, outR, retR, fit_ok z, Tr.panes]
    · show x1 (call T (m + 1)) (hd f23_panes_at.body) _ = _
      simp only [f23_panes_at, hd, x1, evT, ev, R.lend, List.getElem?_cons_zero, bind_ok, cmpR]
      have e' : eqR (.d (Tr.cut s k a b).enc) (.d (.tuple [.str t_pane])) = .ok false := e
      rw [e']
      rfl

theorem c_panes_in (h : TP T) : ∀ (t : Tr) (n : Nat), t.count ≤ n →
    call T n 20 [.d t.enc] = .ok (.d (.int t.count))
  | .pane, n, hn => by
    obtain ⟨k, rfl⟩ : ∃ k, n = k + 1 := ⟨n - 1, by have := count_pos .pane; omega⟩
    rw [call_eq h.panes_in rfl]
    rfl
  | .cut s k a b, n, hn => by
    have hn' : a.count + b.count ≤ n := hn
    have ca := count_pos a
    have cb := count_pos b
    obtain ⟨m, rfl⟩ : ∃ m, n = m + 1 := ⟨n - 1, by omega⟩
    rw [call_eq h.panes_in rfl]
    have e' : eqR (.d (Tr.cut s k a b).enc) (.d (.tuple [.str t_pane])) = .ok false := eq_pane (.cut s k a b)
    have e1 := c_panes_in h a m (by omega)
    have e2 := c_panes_in h b m (by omega)
    show outR (xs (call T m) f20_panes_in.body [some (.d (Tr.cut s k a b).enc)]) = _
    rw [xs_step rfl (ρ1 := [some (.d (Tr.cut s k a b).enc)])]
    · have q1 : idxR (.d (Tr.cut s k a b).enc) (.d (.int 2)) = .ok (.d a.enc) := rfl
      have q2 : idxR (.d (Tr.cut s k a b).enc) (.d (.int 3)) = .ok (.d b.enc) := rfl
      simp [f20_panes_in, tl, x1, xs, ev, evs, evT, R.lend, R.arg, R.frz, argAll, mapR, binR, addR, R.lst?, q1, q2, e1, e2, outR, retR, Tr.count]
    · show x1 (call T m) (hd f20_panes_in.body) _ = _
      simp only [f20_panes_in, hd, x1, evT, ev, R.lend, List.getElem?_cons_zero, bind_ok, cmpR]
      rw [e']
      rfl
theorem c_lpanes (h : TB T) : ∀ (t : Tr) (n : Nat) (l tp w g : Int), t.count + 1 ≤ n → t.count ≤ 1000 →
    call T n 7 [.d t.enc, .d (.int l), .d (.int tp), .d (.tuple [.int w, .int g])] = .ok (.l ((t.panes l tp w g).map tD))
  | .pane, n, l, tp, w, g, hn, hc => by
    obtain ⟨k, rfl⟩ : ∃ k, n = k + 1 := ⟨n - 1, by have := count_pos .pane; omega⟩
    rw [call_eq h.panes rfl]
    rfl
  | .cut s k a b, n, l, tp, w, g, hn, hc => by
    have hc' : a.count + b.count ≤ 1000 := hc
    have hn' : a.count + b.count + 1 ≤ n := hn
    have ca := count_pos a
    have cb := count_pos b
    obtain ⟨m, rfl⟩ : ∃ m, n = m + 2 := ⟨n - 2, by omega⟩
    rw [call_eq h.panes rfl]
    have e' : eqR (.d (Tr.cut s k a b).enc) (.d (.tuple [.str t_pane])) = .ok false := eq_pane (.cut s k a b)
    have ep := c_lparts (n := m) h s k w g
    have es := kd_side s
    have et := kd_stack s
    show outR (xs (call T (m + 1)) f7_law_panes.body [some (.d (Tr.cut s k a b).enc), some (.d (.int l)), some (.d (.int tp)), some (.d (.tuple [.int w, .int g])), none, none, none, none, none]) = _
    rw [xs_step rfl (ρ1 := [some (.d (Tr.cut s k a b).enc), some (.d (.int l)), some (.d (.int tp)), some (.d (.tuple [.int w, .int g])), none, none, none, none, none])]
    · have q0 : slcR (.d (Tr.cut s k a b).enc) none (some 2) = .ok (.d (.tuple [.str (kd s), .int k])) := rfl
      have q1 : idxR (.d (Tr.cut s k a b).enc) (.d (.int 2)) = .ok (.d a.enc) := rfl
      have q2 : idxR (.d (Tr.cut s k a b).enc) (.d (.int 3)) = .ok (.d b.enc) := rfl
      cases s with
      | true =>
        have e1 := c_lpanes h a (m + 1) l tp k g (by omega) (by omega)
        have e2 := c_lpanes h b (m + 1) (l + k) tp (w - k) g (by omega) (by omega)
        have l1 := panes_len a l tp k g
        have l2 := panes_len b (l + k) tp (w - k) g
        simp only [if_true] at ep
        have z : (a.panes l tp k g).length + (b.panes (l + k) tp (w - k) g).length ≤ lim := by
          rw [l1, l2]; unfold lim; omega
        simp [f7_law_panes, tl, x1, xs, ev, evs, evT, R.lend, R.arg, R.frz, argAll, frzAll, mapR, binR, addR, mulR, bltR, intR, boolR, optI, bnd, fit1, fit2, fit3, fit4, idx0, idx1, R.lst?, cmpR, setT, setAll, ep, es, et, q0, q1, q2, e1, e2, outR, retR, fit_ok z, Tr.panes]
      | false =>
        have e1 := c_lpanes h a (m + 1) l tp w k (by omega) (by omega)
        have e2 := c_lpanes h b (m + 1) l (tp + k) w (g - k) (by omega) (by omega)
        have l1 := panes_len a l tp w k
        have l2 := panes_len b l (tp + k) w (g - k)
        simp only [Bool.false_eq_true, if_false] at ep
        have z : (a.panes l tp w k).length + (b.panes l (tp + k) w (g - k)).length ≤ lim := by
          rw [l1, l2]; unfold lim; omega
        simp [f7_law_panes, tl, x1, xs, ev, evs, evT, R.lend, R.arg, R.frz, argAll, frzAll, mapR, binR, addR, mulR, bltR, intR, boolR, optI, bnd, fit1, fit2, fit3, fit4, idx0, idx1, R.lst?, cmpR, setT, setAll, ep, es, et, q0, q1, q2, e1, e2, outR, retR, fit_ok z, Tr.panes]
    · show x1 (call T (m + 1)) (hd f7_law_panes.body) _ = _
      simp only [f7_law_panes, hd, x1, evT, ev, evs, R.lend, R.frz, frzAll, mapR, List.getElem?_cons_zero, bind_ok, cmpR]
      show (fit 1 _ >>= fun y => eqR (.d (Tr.cut s k a b).enc) y) >>= _ = _
      rw [fit1, bind_ok, e']
      rfl
end PP

set_option Elab.async false
set_option linter.all false
set_option autoImplicit false
set_option maxRecDepth 100000
set_option maxHeartbeats 1000000
namespace PP
open PySem
variable {T : Nat → Option Fn} {n : Nat}
/-! ### sorting rows of ints -/
def leI (p q : List Int) : Bool := decide (p ≤ q)
def srt (ps : List (List Int)) : List (List Int) := ps.mergeSort leI
theorem leI_tD (p q : List Int) : PySem.W.dataLe false id (tD p) (tD q) = leI p q := by
  show (!PySem.W.dataLt (tD q) (tD p)) = _
  unfold tD
  rw [PySem.W.dataLt_tuple]
  have := PySem.W.dataLt_ints q p
  unfold PySem.W.rowLt at this
  rw [this]
  unfold leI
  by_cases h : q < p
  · have h' : ¬ p ≤ q := fun z => List.not_lt.mpr z h
    simp [h, h']
  · have h' : p ≤ q := List.not_lt.mp h
    simp [h, h']
theorem sortD_tD (ps : List (List Int)) : sortD (ps.map tD) = (srt ps).map tD := by
  have z := PySem.W.sort_maps (r := leI) (s := PySem.W.dataLe false id) tD (l := ps) (fun a _ b _ => (leI_tD a b).symm)
  exact z.symm
theorem alike_tD (p q : List Int) : PySem.W.alike (tD p) (tD q) = true := PySem.W.alike_ints p q
theorem depth_tD (p : List Int) : (tD p).depth = 1 := by
  simp [tD, PyData.depth, PySem.W.depth_ints]
theorem sortOk_tD {ps : List (List Int)} (h : ∀ p ∈ ps, p ≠ []) (hl : ps.length ≤ lim) : sortOk (ps.map tD) = true := by
  unfold sortOk
  simp only [Bool.and_eq_true, Bool.or_eq_true, List.all_eq_true, List.mem_map, decide_eq_true_eq, List.length_map]
  refine ⟨⟨⟨?_, ?_⟩, hl⟩, .inl ?_⟩
  · rintro _ ⟨p, _, rfl⟩ _ ⟨q, _, rfl⟩
    exact alike_tD p q
  · rintro _ ⟨p, _, rfl⟩
    rw [depth_tD]; decide
  · rintro _ ⟨p, hp, rfl⟩
    cases p with
    | nil => exact absurd rfl (h _ hp)
    | cons x xs => rfl
theorem sortR_tD {ps : List (List Int)} (h : ∀ p ∈ ps, p ≠ []) (hl : ps.length ≤ lim) : sortR (ps.map tD) = .ok ((srt ps).map tD) := by
  unfold sortR
  rw [sortOk_tD h hl, if_pos rfl, sortD_tD]
theorem srt_perm (ps : List (List Int)) : (srt ps).Perm ps := List.mergeSort_perm ps leI
theorem srt_le (ps : List (List Int)) : (srt ps).Pairwise (fun p q => p ≤ q) := by
  have := List.pairwise_mergeSort (le := leI) (fun a b c => by unfold leI; simpa using fun h1 h2 => List.le_trans h1 h2) (fun a b => by unfold leI; simpa using List.le_total a b) ps
  refine this.imp ?_
  intro a b h
  exact of_decide_eq_true h
theorem srt_lt {ps : List (List Int)} (h : ps.Nodup) : (srt ps).Pairwise (fun p q => p < q) := by
  have h1 := srt_le ps
  have h2 : (srt ps).Nodup := (srt_perm ps).nodup_iff.mpr h
  refine (h1.and h2).imp ?_
  rintro a b ⟨q, r⟩
  by_cases z : a < b
  · exact z
  · exact absurd (List.le_antisymm q (List.not_lt.mp z)) r
theorem panes_len4 : ∀ (t : Tr) (l tp w h : Int), ∀ p ∈ t.panes l tp w h, p.length = 4
  | .pane, l, tp, w, h, p, hp => by simp [Tr.panes] at hp; rw [hp]; rfl
  | .cut true k a b, l, tp, w, h, p, hp => by
    simp only [Tr.panes, List.mem_append] at hp
    rcases hp with hp | hp
    · exact panes_len4 a _ _ _ _ p hp
    · exact panes_len4 b _ _ _ _ p hp
  | .cut false k a b, l, tp, w, h, p, hp => by
    simp only [Tr.panes, List.mem_append] at hp
    rcases hp with hp | hp
    · exact panes_len4 a _ _ _ _ p hp
    · exact panes_len4 b _ _ _ _ p hp
def wD (w g : Int) : D := .tuple [.int w, .int g]
def picD (w g : Int) (ps : List (List Int)) : D := .tuple [wD w g, .tuple ((srt ps).map tD)]
theorem c_picture_of (h : TP T) (t : Tr) (n : Nat) (w g : Int) (hn : t.count + 2 ≤ n) (hc : t.count ≤ 1000) :
    call T n 25 [.d t.enc, .d (wD w g)] = .ok (.d (picD w g (t.panes 0 0 w g))) := by
  obtain ⟨m, rfl⟩ : ∃ m, n = m + 1 := ⟨n - 1, by omega⟩
  rw [call_eq h.picture_of rfl]
  have e := c_panes_at h t m 0 0 w g (by omega) hc
  have hl := panes_len t 0 0 w g
  have s := sortR_tD (ps := t.panes 0 0 w g) (fun p hp he => by have := panes_len4 t 0 0 w g p hp; rw [he] at this; cases this) (by rw [hl]; unfold lim; omega)
  simp [f25_picture_of, startS, x1, xs, ev, evs, evT, R.lend, R.arg, R.frz, argAll, frzAll, mapR, bltR, sortedR, tupleR, R.lst?, wD, e, s, outR, retR, fit2, picD]
theorem c_lpicture_of (h : TB T) (h9 : T 9 = some f9_law_picture_of) (t : Tr) (n : Nat) (w g : Int) (hn : t.count + 2 ≤ n) (hc : t.count ≤ 1000) :
    call T n 9 [.d t.enc, .d (wD w g)] = .ok (.d (picD w g (t.panes 0 0 w g))) := by
  obtain ⟨m, rfl⟩ : ∃ m, n = m + 1 := ⟨n - 1, by omega⟩
  rw [call_eq h9 rfl]
  have e := c_lpanes h t m 0 0 w g (by omega) hc
  have hl := panes_len t 0 0 w g
  have s := sortR_tD (ps := t.panes 0 0 w g) (fun p hp he => by have := panes_len4 t 0 0 w g p hp; rw [he] at this; cases this) (by rw [hl]; unfold lim; omega)
  simp [f9_law_picture_of, startS, x1, xs, ev, evs, evT, R.lend, R.arg, R.frz, argAll, frzAll, mapR, bltR, sortedR, tupleR, R.lst?, wD, e, s, outR, retR, fit2, picD]
end PP

set_option Elab.async false
set_option linter.all false
set_option autoImplicit false
set_option maxRecDepth 100000
set_option maxHeartbeats 1000000
namespace PP
open PySem
/-! ### evaluation without binders: the arguments first -/
section
variable {α β γ δ : Type}
def b1 (m : Rs α) (f : α → Rs β) : Rs β := m >>= f
def b2 (m : Rs α) (n : Rs β) (f : α → β → Rs γ) : Rs γ := m >>= fun x => n >>= fun y => f x y
def b3 (m : Rs α) (n : Rs β) (k : Rs γ) (f : α → β → γ → Rs δ) : Rs δ := m >>= fun x => n >>= fun y => k >>= fun z => f x y z
@[simp] theorem b1_ok (a : α) (f : α → Rs β) : b1 (.ok a) f = f a := id rfl
@[simp] theorem b2_ok (a : α) (b : β) (f : α → β → Rs γ) : b2 (.ok a) (.ok b) f = f a b := id rfl
@[simp] theorem b3_ok (a : α) (b : β) (c : γ) (f : α → β → γ → Rs δ) : b3 (.ok a) (.ok b) (.ok c) f = f a b c := id rfl
end
variable {C : Nat → List R → Rs R} {ρ : Sto}
def varR : Option (Option R) → Rs R
  | some (some r) => .ok r.lend
  | _ => .bad
def tupG (ds : List D) : Rs R := fit ds.length (.ok (.d (.tuple ds)))
def lstG (ds : List D) : Rs R := fit ds.length (.ok (.l ds))
def andG (C : Nat → List R → Rs R) (b : Ex) (ρ : Sto) (x : R) : Rs Bool → Rs R
  | .ok true => ev C b ρ
  | .ok false => .ok x
  | .err c => .err c
  | .bad => .bad
def orG (C : Nat → List R → Rs R) (b : Ex) (ρ : Sto) (x : R) : Rs Bool → Rs R
  | .ok true => .ok x
  | .ok false => ev C b ρ
  | .err c => .err c
  | .bad => .bad
def andF (C : Nat → List R → Rs R) (b : Ex) (ρ : Sto) (x : R) : Rs R := andG C b ρ x (truR x)
def orF (C : Nat → List R → Rs R) (b : Ex) (ρ : Sto) (x : R) : Rs R := orG C b ρ x (truR x)
def iteF (C : Nat → List R → Rs R) (a b : Ex) (ρ : Sto) : Rs Bool → Rs R
  | .ok true => ev C a ρ
  | .ok false => ev C b ρ
  | .err c => .err c
  | .bad => .bad
def chnG (C : Nat → List R → Rs R) (p : Cm) (c : Ex) (ρ : Sto) (y : R) : Rs Bool → Rs Bool
  | .ok true => b1 (ev C c ρ) (cmpR p y)
  | .ok false => .ok false
  | .err c => .err c
  | .bad => .bad
def chnF (C : Nat → List R → Rs R) (o p : Cm) (c : Ex) (ρ : Sto) (x y : R) : Rs Bool := chnG C p c ρ y (cmpR o x y)
def lensF (x : R) : Rs R := lensetR [x]
def consF (x : R) (xs : List R) : Rs (List R) := .ok (x :: xs)
def rngF : R → Rs (List D)
  | .d (.int j) => if smallI j then .ok (rngL 0 j) else .bad
  | _ => .bad
def rngG : R → R → Rs (List D)
  | .d (.int i), .d (.int j) => if smallI i && smallI j then .ok (rngL i j) else .bad
  | _, _ => .bad
def enumF (xs : List D) : Rs (List D) := .ok (enumL 0 xs)
def andT (C : Nat → List R → Rs R) (b : Ex) (ρ : Sto) : Rs Bool → Rs Bool
  | .ok true => evT C b ρ
  | .ok false => .ok false
  | .err c => .err c
  | .bad => .bad
def orT (C : Nat → List R → Rs R) (b : Ex) (ρ : Sto) : Rs Bool → Rs Bool
  | .ok true => .ok true
  | .ok false => evT C b ρ
  | .err c => .err c
  | .bad => .bad
def nxF (ρ : Sto) : Rs Out := .ok (.nx ρ)
def asgF (t : Tg) (ρ : Sto) (x : D) : Rs Out := b1 (setT t x ρ) nxF
def prF (a b : R) : Rs (List R) := .ok [a, b]
def parF (i j : Nat) (ρ : Sto) (ds : List D) : Rs Out := if ds.length = 2 then .ok (.nx (setAll [i, j] ds ρ)) else .bad
def appK (ρ : Sto) (i : Nat) : Option (Option R) → Rs D → Rs Out
  | some (some (.l xs)), m => m >>= fun x => appS ρ i xs [x]
  | _, _ => .bad
def extG (ρ : Sto) (i : Nat) (xs : List D) : Option (List D) → Rs Out
  | some ys => appS ρ i xs ys
  | none => .bad
def extK (ρ : Sto) (i : Nat) : Option (Option R) → Rs R → Rs Out
  | some (some (.l xs)), m => m >>= fun r => extG ρ i xs r.lst?
  | _, _ => .bad
def putK (ρ : Sto) (i : Nat) : Option (Option R) → Rs D → Rs R → Rs Out
  | some (some (.l xs)), m, k => m >>= fun y => k >>= fun j => putS ρ i xs j y
  | _, _, _ => .bad
def frzK (ρ : Sto) (i : Nat) : Option (Option R) → Rs Out
  | some (some (.l xs)) => .ok (.nx (ρ.set i (some (.d (.list xs)))))
  | _ => .bad
def rtlK : Option (Option R) → Rs Out
  | some (some (.l xs)) => .ok (.rt (.l xs))
  | _ => .bad
def ifK (C : Nat → List R → Rs R) (a b : Sms) (ρ : Sto) : Rs Bool → Rs Out
  | .ok true => xs C a ρ
  | .ok false => xs C b ρ
  | .err c => .err c
  | .bad => .bad
def seqK (C : Nat → List R → Rs R) (ss : Sms) : Rs Out → Rs Out
  | .ok (.nx ρ) => xs C ss ρ
  | .ok (.rt r) => .ok (.rt r)
  | .err c => .err c
  | .bad => .bad
def outK : Rs Out → Rs R
  | .ok (.nx _) => .ok (.d .none)
  | .ok (.rt r) => .ok r
  | .err c => .err c
  | .bad => .bad
@[simp] theorem varR_ok (r : R) : varR (some (some r)) = .ok r.lend := id rfl
@[simp] theorem andG_t (b : Ex) (x : R) : andG C b ρ x (.ok true) = ev C b ρ := id rfl
@[simp] theorem andG_f (b : Ex) (x : R) : andG C b ρ x (.ok false) = .ok x := id rfl
@[simp] theorem orG_t (b : Ex) (x : R) : orG C b ρ x (.ok true) = .ok x := id rfl
@[simp] theorem orG_f (b : Ex) (x : R) : orG C b ρ x (.ok false) = ev C b ρ := id rfl
@[simp] theorem andF_eq (b : Ex) (x : R) : andF C b ρ x = andG C b ρ x (truR x) := id rfl
@[simp] theorem orF_eq (b : Ex) (x : R) : orF C b ρ x = orG C b ρ x (truR x) := id rfl
@[simp] theorem iteF_t (a b : Ex) : iteF C a b ρ (.ok true) = ev C a ρ := id rfl
@[simp] theorem iteF_f (a b : Ex) : iteF C a b ρ (.ok false) = ev C b ρ := id rfl
@[simp] theorem chnG_t (p : Cm) (c : Ex) (y : R) : chnG C p c ρ y (.ok true) = b1 (ev C c ρ) (cmpR p y) := id rfl
@[simp] theorem chnG_f (p : Cm) (c : Ex) (y : R) : chnG C p c ρ y (.ok false) = .ok false := id rfl
@[simp] theorem chnF_eq (o p : Cm) (c : Ex) (x y : R) : chnF C o p c ρ x y = chnG C p c ρ y (cmpR o x y) := id rfl
@[simp] theorem lensF_eq (x : R) : lensF x = lensetR [x] := id rfl
@[simp] theorem consF_eq (x : R) (xs : List R) : consF x xs = .ok (x :: xs) := id rfl
@[simp] theorem andT_t (b : Ex) : andT C b ρ (.ok true) = evT C b ρ := id rfl
@[simp] theorem andT_f (b : Ex) : andT C b ρ (.ok false) = .ok false := id rfl
@[simp] theorem orT_t (b : Ex) : orT C b ρ (.ok true) = .ok true := id rfl
@[simp] theorem orT_f (b : Ex) : orT C b ρ (.ok false) = evT C b ρ := id rfl
@[simp] theorem nxF_eq (ρ : Sto) : nxF ρ = .ok (.nx ρ) := id rfl
@[simp] theorem asgF_eq (t : Tg) (x : D) : asgF t ρ x = b1 (setT t x ρ) nxF := id rfl
@[simp] theorem prF_eq (a b : R) : prF a b = .ok [a, b] := id rfl
@[simp] theorem parF_eq (i j : Nat) (x y : D) : parF i j ρ [x, y] = .ok (.nx (setAll [i, j] [x, y] ρ)) := id rfl
@[simp] theorem appK_eq (i : Nat) (xs : List D) (x : D) : appK ρ i (some (some (.l xs))) (.ok x) = appS ρ i xs [x] := id rfl
@[simp] theorem extG_eq (i : Nat) (xs ys : List D) : extG ρ i xs (some ys) = appS ρ i xs ys := id rfl
@[simp] theorem extK_eq (i : Nat) (xs : List D) (r : R) : extK ρ i (some (some (.l xs))) (.ok r) = extG ρ i xs r.lst? := id rfl
@[simp] theorem putK_eq (i : Nat) (xs : List D) (y : D) (k : R) : putK ρ i (some (some (.l xs))) (.ok y) (.ok k) = putS ρ i xs k y := id rfl
@[simp] theorem frzK_eq (i : Nat) (xs : List D) : frzK ρ i (some (some (.l xs))) = .ok (.nx (ρ.set i (some (.d (.list xs))))) := id rfl
@[simp] theorem rtlK_eq (xs : List D) : rtlK (some (some (.l xs))) = .ok (.rt (.l xs)) := id rfl
@[simp] theorem ifK_t (a b : Sms) : ifK C a b ρ (.ok true) = xs C a ρ := id rfl
@[simp] theorem ifK_f (a b : Sms) : ifK C a b ρ (.ok false) = xs C b ρ := id rfl
@[simp] theorem seqK_nx (ss : Sms) : seqK C ss (.ok (.nx ρ)) = xs C ss ρ := id rfl
@[simp] theorem seqK_rt (ss : Sms) (r : R) : seqK C ss (.ok (.rt r)) = .ok (.rt r) := id rfl
@[simp] theorem outK_nx : outK (.ok (.nx ρ)) = .ok (.d .none) := id rfl
@[simp] theorem outK_rt (r : R) : outK (.ok (.rt r)) = .ok r := id rfl
theorem outR_eq (m : Rs Out) : outR m = outK m := by
  cases m with
  | ok o => cases o <;> rfl
  | _ => rfl
/-! the equations -/
@[simp] theorem ev_var (i : Nat) : ev C (.var i) ρ = varR ρ[i]? := by
  rw [ev]; cases ρ[i]? with
  | none => rfl
  | some o => cases o <;> rfl
@[simp] theorem ev_cst (x : D) : ev C (.cst x) ρ = .ok (.d x) := by rw [ev]
@[simp] theorem ev_tup (es : Exs) : ev C (.tup es) ρ = b1 (b1 (evs C es ρ) frzAll) tupG := by
  rw [ev]; cases evs C es ρ <;> rfl
@[simp] theorem ev_lst (es : Exs) : ev C (.lst es) ρ = b1 (b1 (evs C es ρ) frzAll) lstG := by
  rw [ev]; cases evs C es ρ <;> rfl
@[simp] theorem ev_bin (o : Op2) (a b : Ex) : ev C (.bin o a b) ρ = b2 (ev C a ρ) (ev C b ρ) (binR o) := by rw [ev]; rfl
@[simp] theorem ev_neg (a : Ex) : ev C (.neg a) ρ = b1 (ev C a ρ) negR := by rw [ev]; rfl
@[simp] theorem ev_cmp (o : Cm) (a b : Ex) : ev C (.cmp o a b) ρ = boolR (b2 (ev C a ρ) (ev C b ρ) (cmpR o)) := by
  rw [ev]; cases ev C a ρ <;> cases ev C b ρ <;> rfl
@[simp] theorem ev_chn (o p : Cm) (a b c : Ex) : ev C (.chn o p a b c) ρ = boolR (b2 (ev C a ρ) (ev C b ρ) (chnF C o p c ρ)) := by
  rw [ev]
  cases ev C a ρ with
  | ok x =>
    cases ev C b ρ with
    | ok y =>
      show (cmpR o x y >>= _) = boolR (chnG C p c ρ y (cmpR o x y))
      cases cmpR o x y with
      | ok k =>
        cases k with
        | true => show (ev C c ρ >>= _) = boolR (b1 (ev C c ρ) (cmpR p y)); cases ev C c ρ <;> rfl
        | false => rfl
      | _ => rfl
    | _ => rfl
  | _ => rfl
@[simp] theorem ev_and (a b : Ex) : ev C (.and a b) ρ = b1 (ev C a ρ) (andF C b ρ) := by
  rw [ev]
  cases ev C a ρ with
  | ok x =>
    show (truR x >>= _) = andG C b ρ x (truR x)
    cases truR x with
    | ok k => cases k <;> rfl
    | _ => rfl
  | _ => rfl
@[simp] theorem ev_or (a b : Ex) : ev C (.or a b) ρ = b1 (ev C a ρ) (orF C b ρ) := by
  rw [ev]
  cases ev C a ρ with
  | ok x =>
    show (truR x >>= _) = orG C b ρ x (truR x)
    cases truR x with
    | ok k => cases k <;> rfl
    | _ => rfl
  | _ => rfl
@[simp] theorem ev_not (a : Ex) : ev C (.not a) ρ = boolR (notB (b1 (ev C a ρ) truR)) := by
  rw [ev]; cases ev C a ρ <;> rfl
@[simp] theorem ev_ite (c a b : Ex) : ev C (.ite c a b) ρ = iteF C a b ρ (evT C c ρ) := by
  rw [ev]
  cases evT C c ρ with
  | ok k => cases k <;> rfl
  | _ => rfl
@[simp] theorem ev_idx (a b : Ex) : ev C (.idx a b) ρ = b2 (ev C a ρ) (ev C b ρ) idxR := by rw [ev]; rfl
@[simp] theorem ev_slc (a : Ex) (lo hi : Exs) : ev C (.slc a lo hi) ρ = b3 (ev C a ρ) (b1 (evs C lo ρ) optI) (b1 (evs C hi ρ) optI) slcR := by rw [ev]; rfl
@[simp] theorem ev_rev (a : Ex) : ev C (.rev a) ρ = b1 (ev C a ρ) revR := by rw [ev]; rfl
@[simp] theorem ev_call (f : Nat) (es : Exs) : ev C (.call f es) ρ = b1 (b1 (evs C es ρ) argAll) (C f) := by
  rw [ev]; cases evs C es ρ <;> rfl
@[simp] theorem ev_blt (f : Bf) (es : Exs) : ev C (.blt f es) ρ = b1 (evs C es ρ) (bltR f) := by rw [ev]; rfl
@[simp] theorem ev_isi (t : Ty) (a : Ex) : ev C (.isi t a) ρ = boolR (b1 (ev C a ρ) (isiR [t])) := by
  rw [ev]; cases ev C a ρ <;> rfl
@[simp] theorem ev_isi2 (t u : Ty) (a : Ex) : ev C (.isi2 t u a) ρ = boolR (b1 (ev C a ρ) (isiR [t, u])) := by
  rw [ev]; cases ev C a ρ <;> rfl
@[simp] theorem ev_lenset (a : Ex) : ev C (.lenset a) ρ = b1 (ev C a ρ) lensF := by rw [ev]; rfl
@[simp] theorem ev_dget (kvs : List (Str × D)) (a : Ex) : ev C (.dget kvs a) ρ = b1 (ev C a ρ) (dgetR kvs) := by rw [ev]; rfl
@[simp] theorem ev_stp (a k : Ex) : ev C (.stp a k) ρ = b2 (ev C a ρ) (ev C k ρ) stpR := by rw [ev]; rfl
@[simp] theorem ev_dsel (ks : List Str) (es : Exs) (a : Ex) : ev C (.dsel ks es a) ρ = b2 (b1 (evs C es ρ) frzAll) (ev C a ρ) (dselR ks) := by
  rw [ev]; cases evs C es ρ <;> rfl
@[simp] theorem evs_nil : evs C .nil ρ = .ok [] := by rw [evs]
@[simp] theorem evs_cons (e : Ex) (es : Exs) : evs C (.cons e es) ρ = b2 (ev C e ρ) (evs C es ρ) consF := by rw [evs]; rfl
@[simp] theorem evI_seq (e : Ex) : evI C (.seq e) ρ = b1 (ev C e ρ) R.itm := by rw [evI]; rfl
@[simp] theorem evI_rng1 (a : Ex) : evI C (.rng1 a) ρ = b1 (ev C a ρ) rngF := by
  rw [evI]; cases ev C a ρ with
  | ok x => cases x with
    | d x => cases x <;> rfl
    | _ => rfl
  | _ => rfl
@[simp] theorem evI_rng2 (a b : Ex) : evI C (.rng2 a b) ρ = b2 (ev C a ρ) (ev C b ρ) rngG := by
  rw [evI]; cases ev C a ρ with
  | ok x => cases ev C b ρ with
    | ok y => cases x with
      | d x => cases x <;> (cases y with
        | d y => cases y <;> rfl
        | _ => rfl)
      | _ => rfl
    | _ => rfl
  | _ => rfl
@[simp] theorem evI_enum (e : Ex) : evI C (.enum e) ρ = b1 (ev C e ρ) enumR := by rw [evI]; rfl
@[simp] theorem enum_t (xs : List D) : enumR (.d (.tuple xs)) = .ok (enumL 0 xs) := id rfl
@[simp] theorem evI_zip (a b : Ex) : evI C (.zip a b) ρ = b2 (ev C a ρ) (ev C b ρ) zipR := by rw [evI]; rfl
@[simp] theorem evI_dks (kvs : List (Str × D)) : evI C (.dks kvs) ρ = .ok (kvs.map fun p => .str p.1) := by rw [evI]
@[simp] theorem evT_and (a b : Ex) : evT C (.and a b) ρ = andT C b ρ (evT C a ρ) := by
  rw [evT]
  cases evT C a ρ with
  | ok k => cases k <;> rfl
  | _ => rfl
@[simp] theorem evT_or (a b : Ex) : evT C (.or a b) ρ = orT C b ρ (evT C a ρ) := by
  rw [evT]
  cases evT C a ρ with
  | ok k => cases k <;> rfl
  | _ => rfl
@[simp] theorem evT_not (a : Ex) : evT C (.not a) ρ = notB (evT C a ρ) := by rw [evT]
@[simp] theorem evT_cmp (o : Cm) (a b : Ex) : evT C (.cmp o a b) ρ = b2 (ev C a ρ) (ev C b ρ) (cmpR o) := by rw [evT]; rfl
@[simp] theorem evT_chn (o p : Cm) (a b c : Ex) : evT C (.chn o p a b c) ρ = b2 (ev C a ρ) (ev C b ρ) (chnF C o p c ρ) := by
  rw [evT]
  cases ev C a ρ with
  | ok x =>
    cases ev C b ρ with
    | ok y =>
      show (cmpR o x y >>= _) = chnG C p c ρ y (cmpR o x y)
      cases cmpR o x y with
      | ok k => cases k <;> rfl
      | _ => rfl
    | _ => rfl
  | _ => rfl
@[simp] theorem evT_var (i : Nat) : evT C (.var i) ρ = b1 (varR ρ[i]?) truR := by
  rw [evT]; cases ρ[i]? with
  | none => rfl
  | some o => cases o <;> rfl
@[simp] theorem evT_idx (a b : Ex) : evT C (.idx a b) ρ = b1 (b2 (ev C a ρ) (ev C b ρ) idxR) truR := by rw [evT]; rfl
@[simp] theorem evT_call (f : Nat) (es : Exs) : evT C (.call f es) ρ = b1 (b1 (b1 (evs C es ρ) argAll) (C f)) truR := by
  rw [evT]; cases evs C es ρ <;> rfl
@[simp] theorem evT_blt (f : Bf) (es : Exs) : evT C (.blt f es) ρ = b1 (b1 (evs C es ρ) (bltR f)) truR := by rw [evT]; rfl
@[simp] theorem evT_isi (t : Ty) (a : Ex) : evT C (.isi t a) ρ = b1 (ev C a ρ) (isiR [t]) := by rw [evT]; rfl
@[simp] theorem evT_isi2 (t u : Ty) (a : Ex) : evT C (.isi2 t u a) ρ = b1 (ev C a ρ) (isiR [t, u]) := by rw [evT]; rfl
@[simp] theorem x1_asg (t : Tg) (e : Ex) : x1 C (.asg t e) ρ = b1 (b1 (ev C e ρ) R.frz) (asgF t ρ) := by
  rw [x1]; cases ev C e ρ <;> rfl
@[simp] theorem x1_own (i : Nat) (e : Ex) : x1 C (.own i e) ρ = b1 (ev C e ρ) (ownS ρ i) := by rw [x1]; rfl
@[simp] theorem x1_par (i j : Nat) (x y : Ex) : x1 C (.par i j x y) ρ = b1 (b1 (b2 (ev C x ρ) (ev C y ρ) prF) frzAll) (parF i j ρ) := by
  rw [x1]; cases ev C x ρ <;> cases ev C y ρ <;> rfl
@[simp] theorem x1_app (i : Nat) (e : Ex) : x1 C (.app i e) ρ = appK ρ i ρ[i]? (b1 (ev C e ρ) R.frz) := by
  rw [x1, ownX]
  match ρ[i]? with
  | none => rfl
  | some none => rfl
  | some (some (.l xs)) => cases ev C e ρ <;> rfl
  | some (some (.d _)) => rfl
  | some (some (.b _)) => rfl
  | some (some (.s _)) => rfl
  | some (some (.m _)) => rfl
  | some (some (.n _)) => rfl
  | some (some .q) => rfl
@[simp] theorem x1_ext (i : Nat) (e : Ex) : x1 C (.ext i e) ρ = extK ρ i ρ[i]? (ev C e ρ) := by
  rw [x1, ownX]
  match ρ[i]? with
  | none => rfl
  | some none => rfl
  | some (some (.l xs)) =>
    cases ev C e ρ with
    | ok r => show (match r.lst? with | some ys => appS ρ i xs ys | none => .bad) = extG ρ i xs r.lst?; cases r.lst? <;> rfl
    | _ => rfl
  | some (some (.d _)) => rfl
  | some (some (.b _)) => rfl
  | some (some (.s _)) => rfl
  | some (some (.m _)) => rfl
  | some (some (.n _)) => rfl
  | some (some .q) => rfl
@[simp] theorem x1_put (i : Nat) (k e : Ex) : x1 C (.put i k e) ρ = putK ρ i ρ[i]? (b1 (ev C e ρ) R.frz) (ev C k ρ) := by
  rw [x1, ownX]
  match ρ[i]? with
  | none => rfl
  | some none => rfl
  | some (some (.l xs)) => cases ev C e ρ <;> rfl
  | some (some (.d _)) => rfl
  | some (some (.b _)) => rfl
  | some (some (.s _)) => rfl
  | some (some (.m _)) => rfl
  | some (some (.n _)) => rfl
  | some (some .q) => rfl
@[simp] theorem x1_frz (i : Nat) : x1 C (.frz i) ρ = frzK ρ i ρ[i]? := by
  rw [x1, frzS]
  match ρ[i]? with
  | none => rfl
  | some none => rfl
  | some (some (.l xs)) => rfl
  | some (some (.d _)) => rfl
  | some (some (.b _)) => rfl
  | some (some (.s _)) => rfl
  | some (some (.m _)) => rfl
  | some (some (.n _)) => rfl
  | some (some .q) => rfl
@[simp] theorem x1_ifs (c : Ex) (a b : Sms) : x1 C (.ifs c a b) ρ = ifK C a b ρ (evT C c ρ) := by
  rw [x1]
  cases evT C c ρ with
  | ok k => cases k <;> rfl
  | _ => rfl
@[simp] theorem x1_ret (e : Ex) : x1 C (.ret e) ρ = b1 (ev C e ρ) retR := by rw [x1]; rfl
@[simp] theorem x1_rtl (i : Nat) : x1 C (.rtl i) ρ = rtlK ρ[i]? := by
  rw [x1, rtlS]
  match ρ[i]? with
  | none => rfl
  | some none => rfl
  | some (some (.l xs)) => rfl
  | some (some (.d _)) => rfl
  | some (some (.b _)) => rfl
  | some (some (.s _)) => rfl
  | some (some (.m _)) => rfl
  | some (some (.n _)) => rfl
  | some (some .q) => rfl
@[simp] theorem x1_rse (c : Nat) : x1 C (.rse c) ρ = .err c := by rw [x1]
@[simp] theorem x1_pas : x1 C .pas ρ = .ok (.nx ρ) := by rw [x1]
@[simp] theorem xs_nil' : xs C .nil ρ = .ok (.nx ρ) := by rw [xs]
@[simp] theorem xs_cons' (s : Sm) (ss : Sms) : xs C (.cons s ss) ρ = seqK C ss (x1 C s ρ) := by
  rw [xs]
  cases x1 C s ρ with
  | ok o => cases o <;> rfl
  | _ => rfl
/-! data -/
@[simp] theorem lend_d (x : D) : (R.d x).lend = .d x := id rfl
@[simp] theorem lend_l (x : List D) : (R.l x).lend = .b x := id rfl
@[simp] theorem lend_b (x : List D) : (R.b x).lend = .b x := id rfl
@[simp] theorem lend_s (x : List D) : (R.s x).lend = .s x := id rfl
@[simp] theorem frz_d (x : D) : (R.d x).frz = .ok x := id rfl
@[simp] theorem frz_l (x : List D) : (R.l x).frz = .ok (.list x) := id rfl
@[simp] theorem arg_d (x : D) : (R.d x).arg = .ok (.d x) := id rfl
@[simp] theorem arg_l (x : List D) : (R.l x).arg = .ok (.d (.list x)) := id rfl
@[simp] theorem arg_s (x : List D) : (R.s x).arg = .ok (.s x) := id rfl
def consG (x : R) (xs : List R) : Rs (List R) := .ok (x :: xs)
def consD (x : D) (xs : List D) : Rs (List D) := .ok (x :: xs)
@[simp] theorem argAll_nil : argAll [] = .ok [] := id rfl
@[simp] theorem argAll_consE (r : R) (rs : List R) : argAll (r :: rs) = b2 r.arg (argAll rs) consG := id rfl
@[simp] theorem consG_eq (x : R) (xs : List R) : consG x xs = .ok (x :: xs) := id rfl
@[simp] theorem frzAll_nil : frzAll [] = .ok [] := id rfl
@[simp] theorem frzAll_consE (r : R) (rs : List R) : frzAll (r :: rs) = b2 r.frz (frzAll rs) consD := id rfl
@[simp] theorem consD_eq (x : D) (xs : List D) : consD x xs = .ok (x :: xs) := id rfl
@[simp] theorem ret_d (x : D) : retR (.d x) = .ok (.rt (.d x)) := id rfl
@[simp] theorem ret_l (x : List D) : retR (.l x) = .ok (.rt (.l x)) := id rfl
@[simp] theorem ret_s (x : List D) : retR (.s x) = .ok (.rt (.s x)) := id rfl
@[simp] theorem tupG_0 : tupG [] = .ok (.d (.tuple [])) := id rfl
@[simp] theorem tupG_1 (a : D) : tupG [a] = .ok (.d (.tuple [a])) := id rfl
@[simp] theorem tupG_2 (a b : D) : tupG [a, b] = .ok (.d (.tuple [a, b])) := id rfl
@[simp] theorem tupG_3 (a b c : D) : tupG [a, b, c] = .ok (.d (.tuple [a, b, c])) := id rfl
@[simp] theorem tupG_4 (a b c d : D) : tupG [a, b, c, d] = .ok (.d (.tuple [a, b, c, d])) := id rfl
@[simp] theorem lstG_0 : lstG [] = .ok (.l []) := id rfl
@[simp] theorem lstG_1 (a : D) : lstG [a] = .ok (.l [a]) := id rfl
@[simp] theorem lstG_2 (a b : D) : lstG [a, b] = .ok (.l [a, b]) := id rfl
@[simp] theorem lstG_3 (a b c : D) : lstG [a, b, c] = .ok (.l [a, b, c]) := id rfl
@[simp] theorem boolR_ok (c : Bool) : boolR (.ok c) = .ok (.d (.bool c)) := id rfl
@[simp] theorem notB_ok (c : Bool) : notB (.ok c) = .ok (!c) := id rfl
@[simp] theorem setT_nm (i : Nat) (x : D) : setT (.nm i) x ρ = .ok (ρ.set i (some (.d x))) := id rfl
@[simp] theorem setT_2 (i j : Nat) (x y : D) : setT (.tp [i, j]) (.tuple [x, y]) ρ = .ok ((ρ.set i (some (.d x))).set j (some (.d y))) := id rfl
@[simp] theorem setT_3 (i j k : Nat) (x y z : D) : setT (.tp [i, j, k]) (.tuple [x, y, z]) ρ = .ok (((ρ.set i (some (.d x))).set j (some (.d y))).set k (some (.d z))) := id rfl
@[simp] theorem setT_4 (i j k l : Nat) (x y z w : D) : setT (.tp [i, j, k, l]) (.tuple [x, y, z, w]) ρ = .ok ((((ρ.set i (some (.d x))).set j (some (.d y))).set k (some (.d z))).set l (some (.d w))) := id rfl
@[simp] theorem ownS_l (i : Nat) (xs : List D) : ownS ρ i (.l xs) = .ok (.nx (ρ.set i (some (.l xs)))) := id rfl
@[simp] theorem cmp_eq (a b : R) : cmpR .eq a b = eqR a b := id rfl
@[simp] theorem cmp_ne (a b : R) : cmpR .ne a b = notB (eqR a b) := id rfl
@[simp] theorem cmp_lt (i j : Int) : cmpR .lt (.d (.int i)) (.d (.int j)) = .ok (decide (i < j)) := id rfl
@[simp] theorem cmp_le (i j : Int) : cmpR .le (.d (.int i)) (.d (.int j)) = .ok (decide (i ≤ j)) := id rfl
@[simp] theorem cmp_gt (i j : Int) : cmpR .gt (.d (.int i)) (.d (.int j)) = .ok (decide (j < i)) := id rfl
@[simp] theorem cmp_ge (i j : Int) : cmpR .ge (.d (.int i)) (.d (.int j)) = .ok (decide (j ≤ i)) := id rfl
@[simp] theorem cmp_in (a b : R) : cmpR .in_ a b = inR a b := id rfl
@[simp] theorem cmp_nin (a b : R) : cmpR .nin a b = notB (inR a b) := id rfl
@[simp] theorem cmp_is (a b : R) : cmpR .is_ a b = isR a b := id rfl
@[simp] theorem cmp_isn (a b : R) : cmpR .isn a b = notB (isR a b) := id rfl
@[simp] theorem is_bb (c e : Bool) : isR (.d (.bool c)) (.d (.bool e)) = .ok (decide (c = e)) := id rfl
@[simp] theorem is_nn : isR (.d .none) (.d .none) = .ok true := id rfl
@[simp] theorem is_in (i : Int) : isR (.d (.int i)) (.d .none) = .ok false := id rfl
@[simp] theorem is_sn (i : Str) : isR (.d (.str i)) (.d .none) = .ok false := id rfl
@[simp] theorem is_bn (i : Bool) : isR (.d (.bool i)) (.d .none) = .ok false := id rfl
@[simp] theorem is_tn (i : List D) : isR (.d (.tuple i)) (.d .none) = .ok false := id rfl
@[simp] theorem is_ln (i : List D) : isR (.d (.list i)) (.d .none) = .ok false := id rfl
@[simp] theorem eq_ii (i j : Int) : eqR (.d (.int i)) (.d (.int j)) = .ok (decide (i = j)) := by
  simp [eqR, R.isD, shallow, R.see, PyData.depth, PyData.eqv]
  by_cases h : i = j <;> simp [h]
@[simp] theorem eq_ss (i j : Str) : eqR (.d (.str i)) (.d (.str j)) = .ok (decide (i = j)) := by
  simp [eqR, R.isD, shallow, R.see, PyData.depth, PyData.eqv]
  by_cases h : i = j <;> simp [h]
@[simp] theorem add_ii (i j : Int) : binR .add (.d (.int i)) (.d (.int j)) = .ok (.d (.int (i + j))) := id rfl
@[simp] theorem sub_ii (i j : Int) : binR .sub (.d (.int i)) (.d (.int j)) = .ok (.d (.int (i - j))) := id rfl
@[simp] theorem isi1 (x : D) (t : Ty) : isiR [t] (.d x) = .ok (tyR (.d x) t) := by
  show Rs.ok ([t].any (tyR (.d x))) = _
  simp
@[simp] theorem isi2 (x : D) (t u : Ty) : isiR [t, u] (.d x) = .ok (tyR (.d x) t || tyR (.d x) u) := by
  show Rs.ok ([t, u].any (tyR (.d x))) = _
  simp
@[simp] theorem ty_tt (x : List D) : tyR (.d (.tuple x)) .tuple = true := id rfl
@[simp] theorem ty_ti (x : List D) : tyR (.d (.tuple x)) .int = false := id rfl
@[simp] theorem ty_tb (x : List D) : tyR (.d (.tuple x)) .bool = false := id rfl
@[simp] theorem ty_ts (x : List D) : tyR (.d (.tuple x)) .str = false := id rfl
@[simp] theorem ty_it (x : Int) : tyR (.d (.int x)) .tuple = false := id rfl
@[simp] theorem ty_ii (x : Int) : tyR (.d (.int x)) .int = true := id rfl
@[simp] theorem ty_ib (x : Int) : tyR (.d (.int x)) .bool = false := id rfl
@[simp] theorem ty_is (x : Int) : tyR (.d (.int x)) .str = false := id rfl
@[simp] theorem ty_st (x : Str) : tyR (.d (.str x)) .tuple = false := id rfl
@[simp] theorem ty_si (x : Str) : tyR (.d (.str x)) .int = false := id rfl
@[simp] theorem ty_sb (x : Str) : tyR (.d (.str x)) .bool = false := id rfl
@[simp] theorem ty_ss (x : Str) : tyR (.d (.str x)) .str = true := id rfl
@[simp] theorem ty_bt (x : Bool) : tyR (.d (.bool x)) .tuple = false := id rfl
@[simp] theorem ty_bi (x : Bool) : tyR (.d (.bool x)) .int = true := id rfl
@[simp] theorem ty_bb (x : Bool) : tyR (.d (.bool x)) .bool = true := id rfl
@[simp] theorem ty_bs (x : Bool) : tyR (.d (.bool x)) .str = false := id rfl
@[simp] theorem ty_nt : tyR (.d .none) .tuple = false := id rfl
@[simp] theorem ty_ni : tyR (.d .none) .int = false := id rfl
@[simp] theorem ty_nb : tyR (.d .none) .bool = false := id rfl
@[simp] theorem ty_ns : tyR (.d .none) .str = false := id rfl
@[simp] theorem ty_lt (x : List D) : tyR (.d (.list x)) .tuple = false := id rfl
@[simp] theorem tru_b (c : Bool) : truR (.d (.bool c)) = .ok c := id rfl
@[simp] theorem idx_0 (a : D) (xs : List D) : idxR (.d (.tuple (a :: xs))) (.d (.int 0)) = .ok (.d a) := idx0 a xs
@[simp] theorem idx_1 (a b : D) (xs : List D) : idxR (.d (.tuple (a :: b :: xs))) (.d (.int 1)) = .ok (.d b) := idx1 a b xs
@[simp] theorem idx_2 (a b c : D) (xs : List D) : idxR (.d (.tuple (a :: b :: c :: xs))) (.d (.int 2)) = .ok (.d c) := idx2 a b c xs
@[simp] theorem idx_3 (a b c d : D) (xs : List D) : idxR (.d (.tuple (a :: b :: c :: d :: xs))) (.d (.int 3)) = .ok (.d d) := idx3 a b c d xs
@[simp] theorem len_t (xs : List D) : bltR .len [.d (.tuple xs)] = .ok (.d (.int xs.length)) := id rfl
@[simp] theorem len_L (xs : List D) : bltR .len [.d (.list xs)] = .ok (.d (.int xs.length)) := id rfl
@[simp] theorem len_l (xs : List D) : bltR .len [.l xs] = .ok (.d (.int xs.length)) := id rfl
@[simp] theorem len_b (xs : List D) : bltR .len [.b xs] = .ok (.d (.int xs.length)) := id rfl
@[simp] theorem len_sE (xs : List D) : bltR .len [.s xs] = .ok (.d (.int xs.length)) := id rfl
@[simp] theorem int_i (i : Int) : bltR .int [.d (.int i)] = .ok (.d (.int i)) := id rfl
@[simp] theorem int_b (c : Bool) : bltR .int [.d (.bool c)] = .ok (.d (.int (if c then 1 else 0))) := id rfl
@[simp] theorem tuple_l (xs : List D) : bltR .tuple [.l xs] = .ok (.d (.tuple xs)) := id rfl
@[simp] theorem tuple_L (xs : List D) : bltR .tuple [.d (.list xs)] = .ok (.d (.tuple xs)) := id rfl
@[simp] theorem list_t (xs : List D) : bltR .list [.d (.tuple xs)] = .ok (.l xs) := id rfl
@[simp] theorem max_ii (i j : Int) : bltR .max [.d (.int i), .d (.int j)] = .ok (.d (.int (if j > i then j else i))) := id rfl
@[simp] theorem min_ii (i j : Int) : bltR .min [.d (.int i), .d (.int j)] = .ok (.d (.int (if j < i then j else i))) := id rfl
@[simp] theorem opt0 : optI [] = .ok none := id rfl
@[simp] theorem opt1 (i : Int) : optI [.d (.int i)] = .ok (some i) := id rfl
@[simp] theorem lst_l (xs : List D) : (R.l xs).lst? = some xs := id rfl
@[simp] theorem lst_b (xs : List D) : (R.b xs).lst? = some xs := id rfl
@[simp] theorem lst_L (xs : List D) : (R.d (.list xs)).lst? = some xs := id rfl
@[simp] theorem itm_t (xs : List D) : (R.d (.tuple xs)).itm = .ok xs := id rfl
@[simp] theorem itm_L (xs : List D) : (R.d (.list xs)).itm = .ok xs := id rfl
@[simp] theorem itm_l (xs : List D) : (R.l xs).itm = .ok xs := id rfl
@[simp] theorem zip_tt (xs ys : List D) : zipR (.d (.tuple xs)) (.d (.tuple ys)) = .ok (zipL xs ys) := id rfl
theorem call_go {T : Nat → Option Fn} {n i : Nat} {fn : Fn} {as : List R} (h : T i = some fn) (hl : as.length = fn.np) {st : Sto} (hs : startS fn.n as = st) : call T (n + 1) i as = outK (xs (call T n) fn.body st) := by
  rw [call_eq h hl, outR_eq, hs]
theorem ev_lc {t : Tg} {it : It} {e : Ex} {ys zs : List D} (h1 : evI C it ρ = .ok ys) (h2 : ys.length ≤ lim)
    (h3 : lcL t (fun _ => .ok true) (fun ρ1 => ev C e ρ1) (wipeS ρ t.own) ys = .ok zs) : ev C (.lc t it e) ρ = .ok (.l zs) := by
  rw [ev, h1, bind_ok, fit_ok h2, h3]; rfl
theorem x1_for {t : Tg} {it : It} {b : Sms} {ys : List D} {o : Out} (h1 : evI C it ρ = .ok ys) (h2 : forL t (fun ρ1 => xs C b ρ1) ys ρ = .ok o) : x1 C (.for_ t it b) ρ = .ok o := by
  rw [x1, h1, bind_ok, h2]
/-- a comprehension over a row, item by item -/
theorem lc_map {α : Type} {t : Tg} {e : Ex} (f : α → D) (g : α → D) : ∀ (as : List α), (∀ a ∈ as, ∃ ρ1, setT t (f a) ρ = .ok ρ1 ∧ ∃ r, ev C e ρ1 = .ok r ∧ r.frz = .ok (g a)) →
    lcL t (fun _ => .ok true) (fun ρ1 => ev C e ρ1) ρ (as.map f) = .ok (as.map g)
  | [], _ => rfl
  | a :: as, h => by
    obtain ⟨ρ1, h1, r, h2, h3⟩ := h a (List.mem_cons_self ..)
    have ih := lc_map f g as fun a ha => h a (List.mem_cons_of_mem _ ha)
    show lcL t _ _ ρ (f a :: as.map f) = .ok (g a :: as.map g)
    rw [lcL, h1]
    show (ev C e ρ1 >>= _) = _
    rw [h2, bind_ok, h3, bind_ok, ih]
    rfl
end PP

set_option Elab.async false
set_option linter.all false
set_option autoImplicit false
set_option maxRecDepth 100000
set_option maxHeartbeats 1000000
namespace PP
open PySem
variable {T : Nat → Option Fn} {n : Nat}
/-! ### _law_same -/
mutual
def plain : D → Bool
  | .none => true
  | .bool _ => true
  | .int _ => true
  | .str _ => true
  | .tuple xs => decide (xs.length ≤ lim) && plainAll xs
  | _ => false
def plainAll : List D → Bool
  | [] => true
  | x :: xs => plain x && plainAll xs
end
theorem zip_same : ∀ xs : List D, zipL xs xs = xs.map fun x => .tuple [x, x]
  | [] => rfl
  | x :: xs => by rw [zipL, zip_same xs]; rfl
theorem bools_all {α : Type} : ∀ xs : List α, ∃ bs, bools? (xs.map fun _ => .bool true) = some bs ∧ bs.all id = true
  | [] => ⟨[], rfl, rfl⟩
  | x :: xs => by
    obtain ⟨bs, e, h⟩ := bools_all xs
    exact ⟨true :: bs, by simp [bools?, e], by simpa using h⟩
theorem all_true {α : Type} (xs : List α) : bltR .all [.l (xs.map fun _ => .bool true)] = .ok (.d (.bool true)) := by
  obtain ⟨bs, e, h⟩ := bools_all xs
  show (match bools? (xs.map fun _ => .bool true) with | some bs => Rs.ok (R.d (.bool (bs.all id))) | none => .bad) = _
  rw [e]
  show Rs.ok (R.d (.bool (bs.all id))) = _
  rw [h]
theorem depth_mem {x : D} : ∀ {xs : List D}, x ∈ xs → x.depth ≤ PyData.depthAll xs
  | y :: ys, h => by
    simp only [PyData.depthAll]
    cases h with
    | head => omega
    | tail _ h => have := depth_mem h; omega
theorem plain_mem {x : D} : ∀ {xs : List D}, x ∈ xs → plainAll xs = true → plain x = true
  | y :: ys, h, p => by
    simp only [plainAll, Bool.and_eq_true] at p
    cases h with
    | head => exact p.1
    | tail _ h => exact plain_mem h p.2
theorem c_same (hT : T 24 = some f24_law_same) : ∀ (n : Nat) (x : D), plain x = true → x.depth + 1 ≤ n → call T n 24 [.d x, .d x] = .ok (.d (.bool true)) := by
  intro n
  induction n with
  | zero => intro x _ h; omega
  | succ m ih =>
    intro x hp hn
    rw [call_go hT rfl (st := [some (.d x), some (.d x), none, none]) rfl]
    cases x with
    | none => simp [f24_law_same]
    | bool c => cases c <;> simp [f24_law_same, eqR, R.isD, shallow, R.see, PyData.depth, PyData.eqv]
    | int i => simp [f24_law_same]
    | str i => simp [f24_law_same]
    | list _ => cases hp
    | dict _ => cases hp
    | tuple xs =>
      simp only [plain, Bool.and_eq_true, decide_eq_true_eq] at hp
      have hd : PyData.depthAll xs + 1 ≤ m := by simp only [PyData.depth] at hn; omega
      have hf : (zipL xs xs).length ≤ lim := by rw [zip_same, List.length_map]; exact hp.1
      have hl := lc_map (C := call T m) (t := .tp [2, 3]) (e := .call 24 (.cons (.var 2) (.cons (.var 3) .nil))) (ρ := [some (.d (.tuple xs)), some (.d (.tuple xs)), none, none])
        (fun x => .tuple [x, x]) (fun _ => .bool true) xs (fun a ha => by
          refine ⟨_, setT_2 .., .d (.bool true), ?_, rfl⟩
          have := ih a (plain_mem ha hp.2) (by have := depth_mem ha; omega)
          simp [this])
      rw [← zip_same] at hl
      have hlc := ev_lc (C := call T m) (it := .zip (.var 0) (.var 1)) (ρ := [some (.d (.tuple xs)), some (.d (.tuple xs)), none, none]) (by simp) hf hl
      simp [f24_law_same, hlc, all_true]
end PP

set_option Elab.async false
set_option linter.all false
set_option autoImplicit false
set_option maxRecDepth 100000
set_option maxHeartbeats 1000000
namespace PP
open PySem
variable {T : Nat → Option Fn} {n : Nat}
/-! ### loops -/
theorem forL_inv {α : Type} {t : Tg} {b : Sto → Rs Out} (f : α → D) (I : List α → Sto → Prop) : ∀ (as pre : List α) (ρ : Sto), I pre ρ →
    (∀ pre' a ρ, I pre' ρ → (∃ post, pre' ++ a :: post = pre ++ as) → ∃ ρ1 ρ2, setT t (f a) ρ = .ok ρ1 ∧ b ρ1 = .ok (.nx ρ2) ∧ I (pre' ++ [a]) ρ2) →
    ∃ ρ', forL t b (as.map f) ρ = .ok (.nx ρ') ∧ I (pre ++ as) ρ'
  | [], pre, ρ, h, _ => ⟨ρ, rfl, by simpa using h⟩
  | a :: as, pre, ρ, h, st => by
    obtain ⟨ρ1, ρ2, h1, h2, h3⟩ := st pre a ρ h ⟨as, rfl⟩
    obtain ⟨ρ', e, h'⟩ := forL_inv f I as (pre ++ [a]) ρ2 h3 (fun pre' c ρ hi hp => st pre' c ρ hi (by simpa using hp))
    refine ⟨ρ', ?_, by simpa using h'⟩
    show forL t b (f a :: as.map f) ρ = _
    rw [forL, h1, bind_ok, h2]
    exact e
/-! ### spots -/
def irange (a b : Int) : List Int := (List.range (b - a).toNat).map fun (k : Nat) => a + k
theorem rngL_eq (a b : Int) : rngL a b = (irange a b).map .int := by
  simp [rngL, irange]
theorem mem_irange {a b x : Int} : x ∈ irange a b ↔ a ≤ x ∧ x < b := by
  simp only [irange, List.mem_map, List.mem_range]
  constructor
  · rintro ⟨k, h, rfl⟩; omega
  · intro h; exact ⟨(x - a).toNat, by omega, by omega⟩
theorem len_irange (a b : Int) : (irange a b).length = (b - a).toNat := by simp [irange]
theorem irange_lt (a b : Int) : (irange a b).Pairwise (· < ·) := by
  unfold irange
  rw [List.pairwise_map]
  exact List.pairwise_lt_range.imp (fun h => by omega)
def rowS (l w y : Int) : List (List Int) := (irange l (l + w)).map fun x => [x, y]
def spotsP : List Int → List (List Int)
  | [l, t, w, h] => (irange t (t + h)).flatMap (rowS l w)
  | _ => []
theorem mem_spots {l t w h : Int} {s : List Int} : s ∈ spotsP [l, t, w, h] ↔ ∃ x y, s = [x, y] ∧ l ≤ x ∧ x < l + w ∧ t ≤ y ∧ y < t + h := by
  simp only [spotsP, List.mem_flatMap, mem_irange, rowS, List.mem_map]
  constructor
  · rintro ⟨y, hy, x, hx, rfl⟩; exact ⟨x, y, rfl, hx.1, hx.2, hy.1, hy.2⟩
  · rintro ⟨x, y, rfl, h1, h2, h3, h4⟩; exact ⟨y, ⟨h3, h4⟩, x, ⟨h1, h2⟩, rfl⟩
theorem nodup_spots (l t w h : Int) : (spotsP [l, t, w, h]).Nodup := by
  unfold spotsP List.Nodup
  rw [List.pairwise_flatMap]
  constructor
  · intro y _
    unfold rowS
    rw [List.pairwise_map]
    exact (irange_lt _ _).imp (fun h e => by simp at e; omega)
  · refine (irange_lt _ _).imp ?_
    intro a b hab x hx y hy e
    simp only [rowS, List.mem_map] at hx hy
    obtain ⟨_, _, rfl⟩ := hx
    obtain ⟨_, _, rfl⟩ := hy
    simp at e; omega
theorem len_flat (l w : Int) : ∀ ys : List Int, (ys.flatMap (rowS l w)).length = ys.length * w.toNat
  | [] => by simp
  | y :: ys => by
    rw [List.flatMap_cons, List.length_append, len_flat l w ys]
    simp only [rowS, List.length_map, len_irange, List.length_cons]
    rw [show l + w - l = w by omega, Nat.succ_mul, Nat.add_comm]
theorem len_spots (l t w h : Int) : (spotsP [l, t, w, h]).length = h.toNat * w.toNat := by
  show ((irange t (t + h)).flatMap (rowS l w)).length = _
  rw [len_flat, len_irange, show t + h - t = h by omega]
theorem appS_ok {ρ : Sto} {i : Nat} {xs ys : List D} (h : xs.length + ys.length ≤ lim) : appS ρ i xs ys = .ok (.nx (ρ.set i (some (.l (xs ++ ys))))) := by
  unfold appS; rw [fit_ok h]
theorem small_ok {i : Int} (h : -1000000 ≤ i) (h' : i ≤ 1000000) : smallI i = true := by
  unfold smallI; simp [h, h']
theorem rngG_ok {i j : Int} (h1 : -1000000 ≤ i) (h2 : i ≤ 1000000) (h3 : -1000000 ≤ j) (h4 : j ≤ 1000000) : rngG (.d (.int i)) (.d (.int j)) = .ok ((irange i j).map .int) := by
  show (if smallI i && smallI j then Rs.ok (rngL i j) else .bad) = _
  rw [small_ok h1 h2, small_ok h3 h4, rngL_eq]; rfl
theorem rngF_ok {j : Int} (h3 : -1000000 ≤ j) (h4 : j ≤ 1000000) : rngF (.d (.int j)) = .ok ((irange 0 j).map .int) := by
  show (if smallI j then Rs.ok (rngL 0 j) else .bad) = _
  rw [small_ok h3 h4, rngL_eq]; rfl
structure TS (T : Nat → Option Fn) : Prop where
  whole : T 0 = some f0_is_whole
  window : T 1 = some f1_is_window
  part : T 2 = some f2_is_part
  spots : T 3 = some f3_spots_of
  picture : T 16 = some f16_is_picture
theorem c_spots (h : TS T) {l t w g : Int} (h1 : -1000 ≤ l ∧ l ≤ 1000) (h2 : -1000 ≤ t ∧ t ≤ 1000) (h3 : 0 ≤ w ∧ w ≤ 50) (h4 : 0 ≤ g ∧ g ≤ 50) :
    call T (n + 1) 3 [.d (tD [l, t, w, g])] = .ok (.l ((spotsP [l, t, w, g]).map tD)) := by
  rw [call_go h.spots rfl (st := [some (.d (tD [l, t, w, g])), none, none, none, none, none, none, none]) rfl]
  obtain ⟨ρ', e, v, hv⟩ := forL_inv (t := .nm 2) (b := fun ρ1 => xs (call T n) (.cons (.ext 1 (.lc (.nm 7) (.rng2 (.var 3) (.bin .add (.var 3) (.var 5))) (.tup (.cons (.var 7) (.cons (.var 2) .nil))))) .nil) ρ1)
    PyData.int (fun pre ρ => ∃ v, ρ = [some (.d (tD [l, t, w, g])), some (.l ((pre.flatMap (rowS l w)).map tD)), v, some (.d (.int l)), some (.d (.int t)), some (.d (.int w)), some (.d (.int g)), none])
    (irange t (t + g)) [] [some (.d (tD [l, t, w, g])), some (.l []), none, some (.d (.int l)), some (.d (.int t)), some (.d (.int w)), some (.d (.int g)), none] ⟨none, rfl⟩ (by
      rintro pre y ρ ⟨v, rfl⟩ ⟨post, hp⟩
      refine ⟨_, _, setT_nm .., ?_, some (.d (.int y)), rfl⟩
      have hl := lc_map (C := call T n) (t := .nm 7) (e := .tup (.cons (.var 7) (.cons (.var 2) .nil)))
        (ρ := [some (.d (tD [l, t, w, g])), some (.l ((pre.flatMap (rowS l w)).map tD)), some (.d (.int y)), some (.d (.int l)), some (.d (.int t)), some (.d (.int w)), some (.d (.int g)), none])
        PyData.int (fun x => tD [x, y]) (irange l (l + w)) (fun a ha => by
          refine ⟨_, setT_nm .., .d (tD [a, y]), ?_, rfl⟩
          simp [tD])
      have hlc := ev_lc (C := call T n) (it := .rng2 (.var 3) (.bin .add (.var 3) (.var 5)))
        (ρ := [some (.d (tD [l, t, w, g])), some (.l ((pre.flatMap (rowS l w)).map tD)), some (.d (.int y)), some (.d (.int l)), some (.d (.int t)), some (.d (.int w)), some (.d (.int g)), none])
        (by simp; exact rngG_ok (i := l) (j := l + w) (by omega) (by omega) (by omega) (by omega)) (by rw [List.length_map, len_irange]; unfold lim; omega) hl
      have hr : (irange l (l + w)).map (fun x => tD [x, y]) = (rowS l w y).map tD := by simp [rowS]
      rw [hr] at hlc
      have hz : ((pre.flatMap (rowS l w)).map tD).length + ((rowS l w y).map tD).length ≤ lim := by
        have hq : pre.length ≤ g.toNat := by
          have := congrArg List.length hp
          simp [len_irange] at this; omega
        rw [List.length_map, List.length_map, len_flat]
        simp only [rowS, List.length_map, len_irange]
        have : pre.length * w.toNat ≤ 50 * 50 := Nat.mul_le_mul (by omega) (by omega)
        unfold lim; omega
      have ha := appS_ok (ρ := [some (.d (tD [l, t, w, g])), some (.l ((pre.flatMap (rowS l w)).map tD)), some (.d (.int y)), some (.d (.int l)), some (.d (.int t)), some (.d (.int w)), some (.d (.int g)), none]) (i := 1) hz
      simp [hlc, ha])
  have hf := x1_for (C := call T n) (it := .rng2 (.var 4) (.bin .add (.var 4) (.var 6))) (ρ := [some (.d (tD [l, t, w, g])), some (.l []), none, some (.d (.int l)), some (.d (.int t)), some (.d (.int w)), some (.d (.int g)), none])
    (by simp; exact rngG_ok (i := t) (j := t + g) (by omega) (by omega) (by omega) (by omega)) e
  subst hv
  simp [f3_spots_of, tD] at hf ⊢
  simp [hf, spotsP]
end PP

set_option Elab.async false
set_option linter.all false
set_option autoImplicit false
set_option maxRecDepth 100000
set_option maxHeartbeats 1000000
namespace PP
open PySem
variable {T : Nat → Option Fn} {n : Nat}
theorem c_whole (h : T 0 = some f0_is_whole) (x lo hi : Int) : call T (n + 1) 0 [.d (.int x), .d (.int lo), .d (.int hi)] = .ok (.d (.bool (decide (lo ≤ x) && decide (x ≤ hi)))) := by
  rw [call_go h rfl (st := [some (.d (.int x)), some (.d (.int lo)), some (.d (.int hi))]) rfl]
  by_cases h1 : lo ≤ x <;> simp [f0_is_whole, h1]
theorem c_window_ok (h : TS T) {w g : Int} (hw : 1 ≤ w ∧ w ≤ 6) (hg : 1 ≤ g ∧ g ≤ 6) : call T (n + 2) 1 [.d (wD w g)] = .ok (.d (.bool true)) := by
  rw [call_go h.window rfl (st := [some (.d (wD w g)), none]) rfl]
  have hl := lc_map (C := call T (n + 1)) (t := .nm 1) (e := .call 0 (.cons (.var 1) (.cons (.cst (.int 1)) (.cons (.cst (.int 6)) .nil)))) (ρ := [some (.d (wD w g)), none])
    PyData.int (fun _ => .bool true) [w, g] (fun a ha => by
      refine ⟨_, setT_nm .., .d (.bool true), ?_, rfl⟩
      have : 1 ≤ a ∧ a ≤ 6 := by simp at ha; rcases ha with rfl | rfl <;> assumption
      simp [c_whole h.whole, this])
  have hlc := ev_lc (C := call T (n + 1)) (it := .seq (.var 0)) (ρ := [some (.d (wD w g)), none]) (by simp [wD]) (by show 2 ≤ lim; decide) hl
  have ha := all_true [w, g]
  simp [f1_is_window, wD] at hlc ha ⊢
  simp [hlc, ha]
theorem c_part_ok (h : TS T) {W H l t w g : Int} (hl : 0 ≤ l) (ht : 0 ≤ t) (hw : 0 < w) (hg : 0 < g) (h1 : l + w ≤ W) (h2 : t + g ≤ H) (hW : W ≤ 6) (hH : H ≤ 6) : call T (n + 2) 2 [.d (tD [l, t, w, g]), .d (wD W H)] = .ok (.d (.bool true)) := by
  rw [call_go h.part rfl (st := [some (.d (tD [l, t, w, g])), some (.d (wD W H)), none, none, none, none, none]) rfl]
  have hl := lc_map (C := call T (n + 1)) (t := .nm 6) (e := .call 0 (.cons (.var 6) (.cons (.cst (.int 0)) (.cons (.cst (.int 6)) .nil)))) (ρ := [some (.d (tD [l, t, w, g])), some (.d (wD W H)), none, none, none, none, none])
    PyData.int (fun _ => .bool true) [l, t, w, g] (fun a ha => by
      refine ⟨_, setT_nm .., .d (.bool true), ?_, rfl⟩
      have : 0 ≤ a ∧ a ≤ 6 := by simp at ha; rcases ha with rfl | rfl | rfl | rfl <;> omega
      simp [c_whole h.whole, this])
  have hlc := ev_lc (C := call T (n + 1)) (it := .seq (.var 0)) (ρ := [some (.d (tD [l, t, w, g])), some (.d (wD W H)), none, none, none, none, none]) (by simp [tD]) (by show 4 ≤ lim; decide) hl
  have ha := all_true [l, t, w, g]
  simp [f2_is_part, wD, tD] at hlc ha ⊢
  simp [hlc, ha, hw, hg, h1, h2]
/-- a picture, as the program tells it -/
structure Pic (W H : Int) (qs : List (List Int)) : Prop where
  w : 1 ≤ W ∧ W ≤ 6
  h : 1 ≤ H ∧ H ≤ 6
  len : 1 ≤ qs.length ∧ qs.length ≤ 7
  part : ∀ q ∈ qs, ∃ l t w g, q = [l, t, w, g] ∧ 0 ≤ l ∧ 0 ≤ t ∧ 0 < w ∧ 0 < g ∧ l + w ≤ W ∧ t + g ≤ H
  lt : qs.Pairwise (· < ·)
  nodup : (qs.flatMap spotsP).Nodup
  full : (qs.flatMap spotsP).length = W.toNat * H.toNat
theorem dcount_nodup : ∀ {ks : List (List Int)}, ks.Nodup → dcount ks = ks.length
  | [], _ => rfl
  | k :: ks, h => by
    rw [List.nodup_cons] at h
    simp [dcount, h.1, dcount_nodup h.2]
theorem ints_map : ∀ ns : List Int, ints? (ns.map .int) = some ns
  | [] => rfl
  | n :: ns => by simp [ints?, ints_map ns]
theorem tints_map : ∀ ks : List (List Int), tints? (ks.map tD) = some ks
  | [] => rfl
  | k :: ks => by rw [List.map_cons, tD, tints?, ints_map k, tints_map ks]
theorem lenset_ok {ks : List (List Int)} (hn : ks.Nodup) (hl : ks.length < 64) : lensetR [.b (ks.map tD)] = .ok (.d (.int ks.length)) := by
  show (match tints? (ks.map tD) with | some ks => if ks.length < 64 then Rs.ok (R.d (.int (dcount ks : Nat))) else .bad | none => .bad) = _
  rw [tints_map]
  show (if ks.length < 64 then Rs.ok (R.d (.int (dcount ks : Nat))) else .bad) = _
  rw [if_pos hl, dcount_nodup hn]
theorem lt_tD (p q : List Int) : cmpR .lt (.d (tD p)) (.d (tD q)) = .ok (decide (p < q)) := by
  show (match ints? (p.map .int), ints? (q.map .int) with | some ns, some ms => Rs.ok (HT.lexLt ns ms) | _, _ => .bad) = _
  rw [ints_map, ints_map]
  show Rs.ok (HT.lexLt p q) = _
  rw [lexLt_dec]
theorem idx_nat {xs : List D} {k : Nat} {x : D} (h : xs[k]? = some x) : idxR (.d (.tuple xs)) (.d (.int k)) = .ok (.d x) := by
  have hk : k < xs.length := by
    rcases Nat.lt_or_ge k xs.length with z | z
    · exact z
    · rw [List.getElem?_eq_none z] at h; cases h
  have e : L2.atI xs (k : Int) = some x := L2.atI_nat h
  show (match L2.atI xs (k : Int) with | some x => Rs.ok (R.d x) | none => .bad) = _
  rw [e]
theorem mul_ii {i j : Int} (h : -1000000 < j ∧ j < 1000000) : binR .mul (.d (.int i)) (.d (.int j)) = .ok (.d (.int (i * j))) := by
  show (if bnd j || bnd i then Rs.ok (R.d (.int (i * j))) else .bad) = _
  have : bnd j = true := by unfold bnd; simp; omega
  rw [this]; rfl
theorem c_picture (h : TS T) {W H : Int} {qs : List (List Int)} (p : Pic W H qs) : call T (n + 3) 16 [.d (.tuple [wD W H, .tuple (qs.map tD)])] = .ok (.d (.bool true)) := by
  have hpl := p.len
  have hW := p.w
  have hH := p.h
  have hfl : qs.length ≤ lim := by unfold lim; omega
  generalize hP : PyData.tuple [wD W H, .tuple (qs.map tD)] = P
  rw [call_go h.picture rfl (st := [some (.d P), none, none, none, none, none]) rfl]
  have e1 := c_window_ok (n := n) h p.w p.h
  -- all parts
  have l1 := lc_map (C := call T (n + 2)) (t := .nm 2) (e := .call 2 (.cons (.var 2) (.cons (.var 3) .nil))) (ρ := [some (.d P), none, none, some (.d (wD W H)), some (.d (.tuple (qs.map tD))), none])
    tD (fun _ => .bool true) qs (fun q hq => by
      refine ⟨_, setT_nm .., .d (.bool true), ?_, rfl⟩
      obtain ⟨l, t, w, g, rfl, a1, a2, a3, a4, a5, a6⟩ := p.part q hq
      have := c_part_ok (n := n) h a1 a2 a3 a4 a5 a6 p.w.2 p.h.2
      simp [this])
  have k1 := ev_lc (C := call T (n + 2)) (it := .seq (.var 4)) (ρ := [some (.d P), none, none, some (.d (wD W H)), some (.d (.tuple (qs.map tD))), none]) (by simp) (by rw [List.length_map]; exact hfl) l1
  -- rising
  have l2 := lc_map (C := call T (n + 2)) (t := .nm 5) (e := .cmp .lt (.idx (.var 4) (.bin .sub (.var 5) (.cst (.int 1)))) (.idx (.var 4) (.var 5))) (ρ := [some (.d P), none, none, some (.d (wD W H)), some (.d (.tuple (qs.map tD))), none])
    PyData.int (fun _ => .bool true) (irange 1 qs.length) (fun k hk => by
      refine ⟨_, setT_nm .., .d (.bool true), ?_, rfl⟩
      rw [mem_irange] at hk
      obtain ⟨j, rfl⟩ : ∃ j : Nat, k = j + 1 := ⟨(k - 1).toNat, by omega⟩
      have hj : j + 1 < qs.length := by omega
      have i1 := idx_nat (xs := qs.map tD) (k := j) (x := tD qs[j]) (by simp [List.getElem?_eq_getElem (show j < qs.length by omega)])
      have i2 := idx_nat (xs := qs.map tD) (k := j + 1) (x := tD qs[j + 1]) (by simp [List.getElem?_eq_getElem hj])
      have lt := List.pairwise_iff_getElem.mp p.lt j (j + 1) (by omega) hj (by omega)
      have s : ((j : Int) + 1 - 1) = j := by omega
      have s2 : ((j + 1 : Nat) : Int) = (j : Int) + 1 := by omega
      rw [s2] at i2
      simp [s, i1, i2, lt_tD, lt])
  have k2 := ev_lc (C := call T (n + 2)) (it := .rng2 (.cst (.int 1)) (.blt .len (.cons (.var 4) .nil))) (ρ := [some (.d P), none, none, some (.d (wD W H)), some (.d (.tuple (qs.map tD))), none])
    (by simp; exact rngG_ok (i := 1) (j := qs.length) (by omega) (by omega) (by omega) (by omega)) (by rw [List.length_map, len_irange]; unfold lim; omega) l2
  -- the spots
  have hlen : ∀ pre post : List (List Int), pre ++ post = qs → (pre.flatMap spotsP).length ≤ 36 := by
    intro pre post hp
    have := p.full
    rw [← hp, List.flatMap_append, List.length_append] at this
    have : W.toNat * H.toNat ≤ 6 * 6 := Nat.mul_le_mul (by omega) (by omega)
    omega
  obtain ⟨ρ', e, v, hv⟩ := forL_inv (t := .nm 2) (b := fun ρ1 => xs (call T (n + 2)) (.cons (.ext 1 (.call 3 (.cons (.var 2) .nil))) .nil) ρ1)
    tD (fun pre ρ => ∃ v, ρ = [some (.d P), some (.l ((pre.flatMap spotsP).map tD)), v, some (.d (wD W H)), some (.d (.tuple (qs.map tD))), none])
    qs [] [some (.d P), some (.l []), none, some (.d (wD W H)), some (.d (.tuple (qs.map tD))), none] ⟨none, rfl⟩ (by
      rintro pre q ρ ⟨v, rfl⟩ ⟨post, hp⟩
      refine ⟨_, _, setT_nm .., ?_, some (.d (tD q)), rfl⟩
      have hq : q ∈ qs := by rw [← show pre ++ q :: post = qs from hp]; simp
      obtain ⟨l, t, w, g, rfl, a1, a2, a3, a4, a5, a6⟩ := p.part q hq
      have es := c_spots (n := n + 1) h (l := l) (t := t) (w := w) (g := g) (by omega) (by omega) (by omega) (by omega)
      have z := hlen (pre ++ [[l, t, w, g]]) post (by rw [← show pre ++ [l, t, w, g] :: post = qs from hp]; simp)
      rw [List.flatMap_append, List.length_append] at z
      simp only [List.flatMap_cons, List.flatMap_nil, List.append_nil] at z
      have ha := appS_ok (ρ := [some (.d P), some (.l ((pre.flatMap spotsP).map tD)), some (.d (tD [l, t, w, g])), some (.d (wD W H)), some (.d (.tuple (qs.map tD))), none]) (i := 1) (xs := (pre.flatMap spotsP).map tD) (ys := (spotsP [l, t, w, g]).map tD) (by rw [List.length_map, List.length_map]; unfold lim; omega)
      simp [es, ha])
  have k3 := x1_for (C := call T (n + 2)) (it := .seq (.var 4)) (ρ := [some (.d P), some (.l []), none, some (.d (wD W H)), some (.d (.tuple (qs.map tD))), none]) (by simp) e
  subst hv
  have h36 := hlen qs [] (by simp)
  have ls := lenset_ok p.nodup (by omega)
  have at1 := all_true qs
  have at2 := all_true (irange 1 qs.length)
  have hm := mul_ii (i := W) (j := H) (by omega)
  have hfu : ((qs.flatMap spotsP).length : Int) = W * H := by
    rw [p.full]
    have x1 : (W.toNat : Int) = W := by omega
    have x2 : (H.toNat : Int) = H := by omega
    rw [Int.natCast_mul, x1, x2]
  have c1 : (1 : Int) ≤ qs.length := by omega
  have c2 : (qs.length : Int) ≤ 7 := by omega
  simp only [List.nil_append] at k3
  have hi0 : idxR (.d P) (.d (.int 0)) = .ok (.d (wD W H)) := by rw [← hP]; exact idx_0 ..
  have hi1 : idxR (.d P) (.d (.int 1)) = .ok (.d (.tuple (qs.map tD))) := by rw [← hP]; exact idx_1 ..
  have hty : tyR (.d P) .tuple = true := by rw [← hP]; rfl
  have hln : bltR .len [.d P] = .ok (.d (.int 2)) := by rw [← hP]; rfl
  have hst : ∀ ρ : Sto, setT (.tp [3, 4]) P ρ = .ok ((ρ.set 3 (some (.d (wD W H)))).set 4 (some (.d (.tuple (qs.map tD))))) := by intro ρ; rw [← hP]; exact setT_2 ..
  have j0 : idxR (.d (wD W H)) (.d (.int 0)) = .ok (.d (.int W)) := idx_0 ..
  have j1 : idxR (.d (wD W H)) (.d (.int 1)) = .ok (.d (.int H)) := idx_1 ..
  simp [f16_is_picture, hty, hln, hi0, hi1, e1, hst, c1, c2, k1, k2, k3, at1, at2, j0, j1, hm, hfu, ls, -List.length_flatMap]
end PP

set_option Elab.async false
set_option linter.all false
set_option autoImplicit false
set_option maxRecDepth 100000
set_option maxHeartbeats 1000000
namespace PP
open PySem
variable {T : Nat → Option Fn} {n : Nat}
/-! ### a tree's picture is one -/
theorem WF_pos : ∀ (t : Tr) {w g : Int}, t.WF w g → 1 ≤ w ∧ 1 ≤ g
  | .pane, _, _, h => h
  | .cut true k a b, w, g, h => by
    have := WF_pos a h.2.2.1
    have := h.1; have := h.2.1
    omega
  | .cut false k a b, w, g, h => by
    have := WF_pos a h.2.2.1
    have := h.1; have := h.2.1
    omega
theorem spots_side {l t w g k : Int} (h1 : 0 ≤ k) (h2 : k ≤ w) : (spotsP [l, t, k, g] ++ spotsP [l + k, t, w - k, g]).Perm (spotsP [l, t, w, g]) := by
  refine (List.perm_ext_iff_of_nodup ?_ (nodup_spots ..)).mpr ?_
  · rw [List.nodup_append]
    refine ⟨nodup_spots .., nodup_spots .., ?_⟩
    intro a ha b hb e
    obtain ⟨x, y, rfl, _, _, _, _⟩ := mem_spots.mp ha
    obtain ⟨x', y', rfl, _, _, _, _⟩ := mem_spots.mp hb
    simp at e; omega
  · intro s
    rw [List.mem_append, mem_spots, mem_spots, mem_spots]
    constructor
    · rintro (⟨x, y, rfl, h⟩ | ⟨x, y, rfl, h⟩) <;> exact ⟨x, y, rfl, by omega⟩
    · rintro ⟨x, y, rfl, h⟩
      by_cases z : x < l + k
      · exact .inl ⟨x, y, rfl, by omega⟩
      · exact .inr ⟨x, y, rfl, by omega⟩
theorem spots_stack {l t w g k : Int} (h1 : 0 ≤ k) (h2 : k ≤ g) : (spotsP [l, t, w, k] ++ spotsP [l, t + k, w, g - k]).Perm (spotsP [l, t, w, g]) := by
  refine (List.perm_ext_iff_of_nodup ?_ (nodup_spots ..)).mpr ?_
  · rw [List.nodup_append]
    refine ⟨nodup_spots .., nodup_spots .., ?_⟩
    intro a ha b hb e
    obtain ⟨x, y, rfl, _, _, _, _⟩ := mem_spots.mp ha
    obtain ⟨x', y', rfl, _, _, _, _⟩ := mem_spots.mp hb
    simp at e; omega
  · intro s
    rw [List.mem_append, mem_spots, mem_spots, mem_spots]
    constructor
    · rintro (⟨x, y, rfl, h⟩ | ⟨x, y, rfl, h⟩) <;> exact ⟨x, y, rfl, by omega⟩
    · rintro ⟨x, y, rfl, h⟩
      by_cases z : y < t + k
      · exact .inl ⟨x, y, rfl, by omega⟩
      · exact .inr ⟨x, y, rfl, by omega⟩
theorem spots_tree : ∀ (t : Tr) (l tp : Int) {w g : Int}, t.WF w g → ((t.panes l tp w g).flatMap spotsP).Perm (spotsP [l, tp, w, g])
  | .pane, l, tp, w, g, _ => by simp [Tr.panes]
  | .cut true k a b, l, tp, w, g, h => by
    show ((a.panes l tp k g ++ b.panes (l + k) tp (w - k) g).flatMap spotsP).Perm _
    rw [List.flatMap_append]
    have h1 := h.1; have h2 := h.2.1
    exact ((spots_tree a l tp h.2.2.1).append (spots_tree b (l + k) tp h.2.2.2)).trans (spots_side (by omega) (by omega))
  | .cut false k a b, l, tp, w, g, h => by
    show ((a.panes l tp w k ++ b.panes l (tp + k) w (g - k)).flatMap spotsP).Perm _
    rw [List.flatMap_append]
    have h1 := h.1; have h2 := h.2.1
    exact ((spots_tree a l tp h.2.2.1).append (spots_tree b l (tp + k) h.2.2.2)).trans (spots_stack (by omega) (by omega))
theorem panes_within : ∀ (t : Tr) (l tp : Int) {w g : Int}, t.WF w g → ∀ p ∈ t.panes l tp w g, ∃ a b c d, p = [a, b, c, d] ∧ l ≤ a ∧ tp ≤ b ∧ 0 < c ∧ 0 < d ∧ a + c ≤ l + w ∧ b + d ≤ tp + g
  | .pane, l, tp, w, g, h, p, hp => by
    simp [Tr.panes] at hp
    exact ⟨l, tp, w, g, hp, by have := h.1; have := h.2; omega⟩
  | .cut true k a b, l, tp, w, g, h, p, hp => by
    simp only [Tr.panes, List.mem_append] at hp
    have h1 := h.1; have h2 := h.2.1
    rcases hp with hp | hp
    · obtain ⟨a, b, c, d, e, z⟩ := panes_within a _ _ h.2.2.1 p hp
      exact ⟨a, b, c, d, e, by omega⟩
    · obtain ⟨a, b, c, d, e, z⟩ := panes_within b _ _ h.2.2.2 p hp
      exact ⟨a, b, c, d, e, by omega⟩
  | .cut false k a b, l, tp, w, g, h, p, hp => by
    simp only [Tr.panes, List.mem_append] at hp
    have h1 := h.1; have h2 := h.2.1
    rcases hp with hp | hp
    · obtain ⟨a, b, c, d, e, z⟩ := panes_within a _ _ h.2.2.1 p hp
      exact ⟨a, b, c, d, e, by omega⟩
    · obtain ⟨a, b, c, d, e, z⟩ := panes_within b _ _ h.2.2.2 p hp
      exact ⟨a, b, c, d, e, by omega⟩
theorem tree_pic {t : Tr} {W H : Int} (h : t.WF W H) (hW : W ≤ 6) (hH : H ≤ 6) (hc : t.count ≤ 7) : Pic W H (srt (t.panes 0 0 W H)) := by
  have hp := WF_pos t h
  have pm := srt_perm (t.panes 0 0 W H)
  have sp := (pm.flatMap_right spotsP).trans (spots_tree t 0 0 h)
  have nd : ((t.panes 0 0 W H).flatMap spotsP).Nodup := (spots_tree t 0 0 h).nodup_iff.mpr (nodup_spots ..)
  have ndp : (t.panes 0 0 W H).Nodup := by
    have := (List.pairwise_flatMap.mp nd).2
    refine this.imp_of_mem ?_
    intro p q hp hq z e
    subst e
    obtain ⟨a, b, c, d, rfl, _, _, _, _, _, _⟩ := panes_within t 0 0 h p hp
    have m : [a, b] ∈ spotsP [a, b, c, d] := mem_spots.mpr ⟨a, b, rfl, by omega⟩
    exact z _ m _ m rfl
  refine ⟨⟨hp.1, hW⟩, ⟨hp.2, hH⟩, ?_, ?_, srt_lt ndp, sp.nodup_iff.mpr (nodup_spots ..), ?_⟩
  · rw [pm.length_eq, panes_len]; exact ⟨count_pos t, hc⟩
  · intro q hq
    obtain ⟨a, b, c, d, e, z⟩ := panes_within t 0 0 h q (pm.mem_iff.mp hq)
    exact ⟨a, b, c, d, e, by omega⟩
  · rw [sp.length_eq, len_spots, Nat.mul_comm]
theorem depth_rows : ∀ ps : List (List Int), PyData.depthAll (ps.map tD) ≤ 1
  | [] => by simp [PyData.depthAll]
  | p :: ps => by
    have := depth_rows ps
    have := depth_tD p
    simp only [List.map_cons, PyData.depthAll]; omega
theorem depth_pic (w g : Int) (ps : List (List Int)) : (picD w g ps).depth ≤ 4 := by
  have := depth_rows (srt ps)
  simp [picD, wD, PyData.depth, PyData.depthAll]
  omega
theorem plain_ints : ∀ ns : List Int, plainAll (ns.map .int) = true
  | [] => rfl
  | n :: ns => by simp [plainAll, plain, plain_ints ns]
theorem plain_rows : ∀ {ps : List (List Int)}, (∀ p ∈ ps, p.length ≤ lim) → plainAll (ps.map tD) = true
  | [], _ => rfl
  | p :: ps, h => by
    have h1 := h p (List.mem_cons_self ..)
    have h2 := plain_rows fun q hq => h q (List.mem_cons_of_mem _ hq)
    simp [plainAll, tD, plain, plain_ints, h1]
    simpa [tD] using h2
theorem plain_pic {w g : Int} {ps : List (List Int)} (h : ∀ p ∈ ps, p.length ≤ lim) (hl : ps.length ≤ lim) : plain (picD w g ps) = true := by
  have e : (srt ps).length = ps.length := (srt_perm ps).length_eq
  have := plain_rows (ps := srt ps) fun p hp => h p ((srt_perm ps).mem_iff.mp hp)
  simp [picD, wD, plain, plainAll, this, e, hl]
  decide
@[simp] theorem mod_ii {i j : Int} (h : 0 < j) : binR .mod (.d (.int i)) (.d (.int j)) = .ok (.d (.int (i % j))) := by
  show (if 0 < j then Rs.ok (R.d (.int (i % j))) else .bad) = _
  rw [if_pos h]
theorem mul_ii' {i j : Int} (h : -1000000 < i ∧ i < 1000000) : binR .mul (.d (.int i)) (.d (.int j)) = .ok (.d (.int (i * j))) := by
  show (if bnd j || bnd i then Rs.ok (R.d (.int (i * j))) else .bad) = _
  have : bnd i = true := by unfold bnd; simp; omega
  rw [this, Bool.or_true]; rfl
def forB : Sm → Sms
  | .for_ _ _ b => b
  | _ => .nil
end PP

set_option Elab.async false
set_option linter.all false
set_option autoImplicit false
set_option maxRecDepth 100000
set_option maxHeartbeats 1000000
namespace PP
open PySem
variable {C : Nat → List R → Rs R} {ρ : Sto}
theorem lim_eq : lim = 100000 := id rfl
/-! ### rules, to be used at the goal -/
theorem wipe1 (i : Nat) (x : Option R) : (wipeS ρ [i]).set i x = ρ.set i x := by
  simp [wipeS]
theorem b1_frz {m : Rs R} {y : D} (h : b1 m R.frz = .ok y) : ∃ r, m = .ok r ∧ r.frz = .ok y := by
  cases m with
  | ok r => exact ⟨r, rfl, h⟩
  | err c => cases h
  | bad => cases h
theorem b1_inv {α β : Type} {m : Rs α} {k : α → Rs β} {y : β} (h : b1 m k = .ok y) : ∃ r, m = .ok r ∧ k r = .ok y := by
  cases m with
  | ok r => exact ⟨r, rfl, h⟩
  | err c => cases h
  | bad => cases h
/-- a comprehension over one name -/
theorem lc_nm {α : Type} {i : Nat} {it : It} {e : Ex} (f g : α → D) (as : List α) (h1 : evI C it ρ = .ok (as.map f)) (hl : as.length ≤ lim)
    (h : ∀ a ∈ as, b1 (ev C e (ρ.set i (some (.d (f a))))) R.frz = .ok (g a)) : ev C (.lc (.nm i) it e) ρ = .ok (.l (as.map g)) := by
  refine ev_lc h1 (by rw [List.length_map]; exact hl) (lc_map f g as fun a ha => ?_)
  obtain ⟨r, h2, h3⟩ := b1_frz (h a ha)
  exact ⟨_, setT_nm .., r, by show ev C e ((wipeS ρ [i]).set i _) = _; rw [wipe1]; exact h2, h3⟩
theorem lc_mapF {α : Type} {t : Tg} {c e : Ex} (f : α → D) (p : α → Bool) (g : α → D) : ∀ (as : List α), (∀ a ∈ as, ∃ ρ1, setT t (f a) ρ = .ok ρ1 ∧ evT C c ρ1 = .ok (p a) ∧ (p a = true → ∃ r, ev C e ρ1 = .ok r ∧ r.frz = .ok (g a))) →
    lcL t (fun ρ1 => evT C c ρ1) (fun ρ1 => ev C e ρ1) ρ (as.map f) = .ok ((as.filter p).map g)
  | [], _ => rfl
  | a :: as, h => by
    obtain ⟨ρ1, h1, hc, hr⟩ := h a (List.mem_cons_self ..)
    have ih := lc_mapF f p g as fun a ha => h a (List.mem_cons_of_mem _ ha)
    show lcL t _ _ ρ (f a :: as.map f) = _
    rw [lcL, h1]
    show (evT C c ρ1 >>= _) = _
    rw [hc]
    cases hp : p a with
    | true =>
      obtain ⟨r, h2, h3⟩ := hr hp
      show (ev C e ρ1 >>= _) = _
      rw [h2, bind_ok, h3, bind_ok, ih, List.filter_cons_of_pos hp]
      rfl
    | false =>
      show lcL t _ _ ρ (as.map f) = _
      rw [ih, List.filter_cons_of_neg (by simp [hp])]
theorem ev_lcf {t : Tg} {it : It} {c e : Ex} {ys zs : List D} (h1 : evI C it ρ = .ok ys) (h2 : ys.length ≤ lim)
    (h3 : lcL t (fun ρ1 => evT C c ρ1) (fun ρ1 => ev C e ρ1) (wipeS ρ t.own) ys = .ok zs) : ev C (.lcf t it c e) ρ = .ok (.l zs) := by
  rw [ev, h1, bind_ok, fit_ok h2, h3]; rfl
theorem lcf_nm {α : Type} {i : Nat} {it : It} {c e : Ex} (f : α → D) (p : α → Bool) (g : α → D) (as : List α) (h1 : evI C it ρ = .ok (as.map f)) (hl : as.length ≤ lim)
    (h : ∀ a ∈ as, evT C c (ρ.set i (some (.d (f a)))) = .ok (p a) ∧ (p a = true → b1 (ev C e (ρ.set i (some (.d (f a))))) R.frz = .ok (g a))) : ev C (.lcf (.nm i) it c e) ρ = .ok (.l ((as.filter p).map g)) := by
  refine ev_lcf h1 (by rw [List.length_map]; exact hl) (lc_mapF f p g as fun a ha => ?_)
  obtain ⟨h2, h3⟩ := h a ha
  refine ⟨_, setT_nm .., ?_, fun hp => ?_⟩
  · show evT C c ((wipeS ρ [i]).set i _) = _; rw [wipe1]; exact h2
  · show ∃ r, ev C e ((wipeS ρ [i]).set i _) = _ ∧ _; rw [wipe1]; exact b1_frz (h3 hp)
/-- a comprehension over two names -/
theorem wipe2 (i j : Nat) (x y : Option R) : ((wipeS ρ [i, j]).set i x).set j y = (ρ.set i x).set j y := by
  apply List.ext_getElem?
  intro k
  simp only [wipeS, List.getElem?_set, List.length_set]
  by_cases h1 : j = k <;> by_cases h2 : i = k <;> simp [h1, h2]
theorem lc_tp {α : Type} {i j : Nat} {it : It} {e : Ex} (f1 f2 g : α → D) (as : List α) (h1 : evI C it ρ = .ok (as.map fun a => .tuple [f1 a, f2 a])) (hl : as.length ≤ lim)
    (h : ∀ a ∈ as, b1 (ev C e ((ρ.set i (some (.d (f1 a)))).set j (some (.d (f2 a))))) R.frz = .ok (g a)) : ev C (.lc (.tp [i, j]) it e) ρ = .ok (.l (as.map g)) := by
  refine ev_lc h1 (by rw [List.length_map]; exact hl) (lc_map _ g as fun a ha => ?_)
  obtain ⟨r, h2, h3⟩ := b1_frz (h a ha)
  exact ⟨_, setT_2 .., r, by show ev C e (((wipeS ρ [i, j]).set i _).set j _) = _; rw [wipe2]; exact h2, h3⟩
theorem lcf_tp {α : Type} {i j : Nat} {it : It} {c e : Ex} (f1 f2 : α → D) (p : α → Bool) (g : α → D) (as : List α) (h1 : evI C it ρ = .ok (as.map fun a => .tuple [f1 a, f2 a])) (hl : as.length ≤ lim)
    (h : ∀ a ∈ as, evT C c ((ρ.set i (some (.d (f1 a)))).set j (some (.d (f2 a)))) = .ok (p a) ∧ (p a = true → b1 (ev C e ((ρ.set i (some (.d (f1 a)))).set j (some (.d (f2 a))))) R.frz = .ok (g a))) : ev C (.lcf (.tp [i, j]) it c e) ρ = .ok (.l ((as.filter p).map g)) := by
  refine ev_lcf h1 (by rw [List.length_map]; exact hl) (lc_mapF _ p g as fun a ha => ?_)
  obtain ⟨h2, h3⟩ := h a ha
  refine ⟨_, setT_2 .., ?_, fun hp => ?_⟩
  · show evT C c (((wipeS ρ [i, j]).set i _).set j _) = _; rw [wipe2]; exact h2
  · show ∃ r, ev C e (((wipeS ρ [i, j]).set i _).set j _) = _ ∧ _; rw [wipe2]; exact b1_frz (h3 hp)
/-- a block goes on, with a store st v where I v -/
def Nx {V : Type} (st : V → Sto) (I : V → Prop) (z : Rs Out) : Prop := ∃ v, z = .ok (.nx (st v)) ∧ I v
theorem Nx.mk {V : Type} {st : V → Sto} {I : V → Prop} (v : V) {ρ' : Sto} (h : ρ' = st v) (hi : I v) : Nx st I (.ok (.nx ρ')) := ⟨v, by rw [h], hi⟩
/-- a for, by its invariant: the store is st pre v, with I pre v; P (K z) is asked, z being the for -/
theorem for_go {α β V : Type} {t : Tg} {it : It} {b : Sms} (P : β → Prop) (K : Rs Out → β) (f : α → D) (as : List α) (st : List α → V → Sto) (I : List α → V → Prop) (v0 : V)
    (h1 : evI C it ρ = .ok (as.map f)) (h0 : ρ = st [] v0) (hi0 : I [] v0)
    (hs : ∀ pre a post v, pre ++ a :: post = as → I pre v → Nx (st (pre ++ [a])) (I (pre ++ [a])) (b1 (setT t (f a) (st pre v)) (xs C b)))
    (hr : ∀ v, I as v → P (K (.ok (.nx (st as v))))) : P (K (x1 C (.for_ t it b) ρ)) := by
  obtain ⟨ρ', e, v, rfl, hi⟩ := forL_inv (t := t) (b := fun ρ1 => xs C b ρ1) f (fun pre ρ => ∃ v, ρ = st pre v ∧ I pre v) as [] ρ ⟨v0, h0, hi0⟩ (by
    rintro pre a ρ ⟨v, rfl, hi⟩ ⟨post, hp⟩
    obtain ⟨v', h2, h3⟩ := hs pre a post v hp hi
    obtain ⟨ρ1, h4, h5⟩ := b1_inv h2
    exact ⟨ρ1, _, h4, h5, v', rfl, h3⟩)
  rw [x1_for h1 e]
  exact hr v hi
/-- a for that may end the def: by the first item at which it does -/
theorem for_end {α β V : Type} {t : Tg} {it : It} {b : Sms} (P : β → Prop) (K : Rs Out → β) (f : α → D) (as : List α) (st : V → Sto) (p : α → Bool) (v : α → R) (v0 : V)
    (h1 : evI C it ρ = .ok (as.map f)) (h0 : ρ = st v0)
    (hs : ∀ a ∈ as, ∀ w, if p a then b1 (setT t (f a) (st w)) (xs C b) = .ok (.rt (v a)) else Nx st (fun _ => True) (b1 (setT t (f a) (st w)) (xs C b)))
    (hn : as.find? p = none → ∀ w, P (K (.ok (.nx (st w))))) (he : ∀ a, as.find? p = some a → P (K (.ok (.rt (v a))))) : P (K (x1 C (.for_ t it b) ρ)) := by
  have key : ∀ (as : List α) (w : V), (∀ a ∈ as, ∀ w, if p a then b1 (setT t (f a) (st w)) (xs C b) = .ok (.rt (v a)) else ∃ w', b1 (setT t (f a) (st w)) (xs C b) = .ok (.nx (st w'))) →
      (as.find? p = none ∧ ∃ w', forL t (fun ρ1 => xs C b ρ1) (as.map f) (st w) = .ok (.nx (st w'))) ∨ (∃ a, as.find? p = some a ∧ forL t (fun ρ1 => xs C b ρ1) (as.map f) (st w) = .ok (.rt (v a))) := by
    intro as
    induction as with
    | nil => intro w _; exact .inl ⟨rfl, w, rfl⟩
    | cons a as ih =>
      intro w hs
      have q := hs a (List.mem_cons_self ..) w
      cases hp : p a with
      | true =>
        rw [hp, if_pos rfl] at q
        obtain ⟨ρ1, q1, q2⟩ := b1_inv q
        rw [List.map_cons, forL, q1, bind_ok]
        refine .inr ⟨a, by simp [hp], ?_⟩
        show (xs C b ρ1 >>= _) = _
        rw [q2]; rfl
      | false =>
        rw [hp, if_neg (by simp)] at q
        obtain ⟨w', q⟩ := q
        obtain ⟨ρ1, q1, q2⟩ := b1_inv q
        rw [List.map_cons, forL, q1, bind_ok]
        show (_ ∧ ∃ w', (xs C b ρ1 >>= _) = _) ∨ ∃ a, _ ∧ (xs C b ρ1 >>= _) = _
        rw [q2, bind_ok]
        rcases ih w' (fun a ha => hs a (List.mem_cons_of_mem _ ha)) with ⟨e, z⟩ | ⟨a', e, z⟩
        · exact .inl ⟨by simp [hp, e], z⟩
        · exact .inr ⟨a', by simp [hp, e], z⟩
  rw [h0]
  rcases key as v0 (fun a ha w => by
    have q := hs a ha w
    split
    · rename_i hp; rw [if_pos hp] at q; exact q
    · rename_i hp; rw [if_neg hp] at q; obtain ⟨w', q, _⟩ := q; exact ⟨w', q⟩) with ⟨e, w', z⟩ | ⟨a, e, z⟩
  · rw [x1_for (h0 ▸ h1) z]; exact hn e w'
  · rw [x1_for (h0 ▸ h1) z]; exact he a e
/-! ### maps -/
@[simp] theorem lend_m (x : List (List Int × D)) : (R.m x).lend = .m x := id rfl
@[simp] theorem arg_m (x : List (List Int × D)) : (R.m x).arg = .ok (.m x) := id rfl
def mgetK (kvs : Option (List (List Int × D))) (m : Rs (List D)) : Rs R := match kvs with
  | some kvs => m >>= fun ds => fit ds.length (mgetR kvs ds)
  | none => .bad
@[simp] theorem ev_mget (i : Nat) (es : Exs) : ev C (.mget i es) ρ = mgetK (slotM ρ i) (b1 (evs C es ρ) frzAll) := by
  rw [ev, slotX]
  cases slotM ρ i with
  | none => rfl
  | some kvs => cases evs C es ρ <;> rfl
theorem mget_ok {kvs : List (List Int × D)} {ks : List Int} {d : D} (hk : ks.length ≤ lim) (h : valM kvs ks = some d) : mgetK (some kvs) (.ok (ks.map .int)) = .ok (.d d) := by
  show fit _ (mgetR kvs (ks.map .int)) = _
  rw [fit_ok (by simpa using hk)]
  show (match ints? (ks.map .int) with | some k => (match valM kvs k with | some d => Rs.ok (R.d d) | none => .bad) | none => .bad) = _
  rw [ints_map]
  show (match valM kvs ks with | some d => Rs.ok (R.d d) | none => .bad) = _
  rw [h]
theorem mget2 {kvs : List (List Int × D)} {x y : Int} {d : D} (h : valM kvs [x, y] = some d) : mgetK (some kvs) (.ok [.int x, .int y]) = .ok (.d d) := mget_ok (by simp [lim_eq]) h
@[simp] theorem x1_mnew (i : Nat) : x1 C (.mnew i) ρ = .ok (.nx (ρ.set i (some (.n [])))) := by rw [x1]
def mputK (ρ : Sto) (i : Nat) : Option (Option R) → Rs D → Rs (List D) → Rs Out
  | some (some (.n kvs)), m, k => m >>= fun y => k >>= fun ds => fit ds.length (mputS ρ i kvs ds y)
  | _, _, _ => .bad
@[simp] theorem x1_mput (i : Nat) (es : Exs) (e : Ex) : x1 C (.mput i es e) ρ = mputK ρ i ρ[i]? (b1 (ev C e ρ) R.frz) (b1 (evs C es ρ) frzAll) := by
  rw [x1, mapX]
  match ρ[i]? with
  | none => rfl
  | some none => rfl
  | some (some (.n kvs)) =>
    show (ev C e ρ >>= _) = ((b1 (ev C e ρ) R.frz) >>= fun y => (b1 (evs C es ρ) frzAll) >>= fun ds => fit ds.length (mputS ρ i kvs ds y))
    cases ev C e ρ with
    | ok r =>
      show (r.frz >>= _) = (r.frz >>= _)
      cases r.frz with
      | ok y =>
        show (evs C es ρ >>= _) = _
        cases evs C es ρ with
        | ok rs => rfl
        | _ => rfl
      | _ => rfl
    | _ => rfl
  | some (some (.d _)) => rfl
  | some (some (.b _)) => rfl
  | some (some (.s _)) => rfl
  | some (some (.m _)) => rfl
  | some (some (.l _)) => rfl
  | some (some .q) => rfl
theorem mput2 {i : Nat} {kvs : List (List Int × D)} {x y : Int} {d : D} (h : kvs.length < lim) : mputK ρ i (some (some (.n kvs))) (.ok d) (.ok [.int x, .int y]) = .ok (.nx (ρ.set i (some (.n (putM kvs [x, y] d))))) := by
  show fit 2 (fit (kvs.length + 1) _) = _
  rw [fit2, fit_ok (show kvs.length + 1 ≤ lim by omega)]
@[simp] theorem x1_rtm (i : Nat) : x1 C (.rtm i) ρ = rtmS ρ i := by rw [x1]
@[simp] theorem x1_mas (i : Nat) (e : Ex) : x1 C (.mas i e) ρ = b1 (ev C e ρ) (masS ρ i) := by rw [x1]; rfl
@[simp] theorem masS_m (i : Nat) (kvs : List (List Int × D)) : masS ρ i (.m kvs) = .ok (.nx (ρ.set i (some (.m kvs)))) := id rfl
@[simp] theorem x1_exp (e : Ex) : x1 C (.exp e) ρ = b1 (ev C e ρ) (fun _ => nxF ρ) := by rw [x1]; rfl
theorem valM_nil (k : List Int) : valM [] k = none := rfl
theorem valM_cons (a : List Int × D) (as : List (List Int × D)) (k : List Int) : valM (a :: as) k = if a.1 = k then some a.2 else valM as k := by
  unfold valM
  rw [List.find?_cons]
  by_cases h : a.1 = k <;> simp [h]
theorem valM_over (k k' : List Int) (d : D) : ∀ kvs : List (List Int × D), valM (kvs.map fun kv => if kv.1 = k then (kv.1, d) else kv) k' = if k = k' ∧ (∃ kv ∈ kvs, kv.1 = k) then some d else valM kvs k'
  | [] => by simp [valM_nil]
  | a :: as => by
    rw [List.map_cons, valM_cons, valM_cons, valM_over k k' d as]
    by_cases ha : a.1 = k
    · by_cases hk : k = k'
      · subst hk; simp [ha]
      · simp [ha, hk]
    · by_cases hk : a.1 = k'
      · have hne : ¬ k = k' := fun z => ha (hk.trans z.symm)
        rw [if_neg ha, if_pos hk, if_neg (fun z => hne z.1), if_pos hk]
      · have : (∃ kv ∈ a :: as, kv.1 = k) ↔ ∃ kv ∈ as, kv.1 = k := by
          constructor
          · rintro ⟨kv, h1, h2⟩
            rcases List.mem_cons.mp h1 with h1 | h1
            · exact absurd (h1 ▸ h2) ha
            · exact ⟨kv, h1, h2⟩
          · rintro ⟨kv, h1, h2⟩; exact ⟨kv, List.mem_cons_of_mem _ h1, h2⟩
        rw [if_neg ha, if_neg hk, if_neg hk]; simp only [this]
theorem valM_app (k k' : List Int) (d : D) : ∀ kvs : List (List Int × D), (∀ kv ∈ kvs, ¬ kv.1 = k) → valM (kvs ++ [(k, d)]) k' = if k = k' then some d else valM kvs k'
  | [], _ => by rw [List.nil_append, valM_cons, valM_nil]
  | a :: as, h => by
    rw [List.cons_append, valM_cons, valM_cons, valM_app k k' d as fun kv hkv => h kv (List.mem_cons_of_mem _ hkv)]
    have ha := h a (List.mem_cons_self ..)
    by_cases hk : a.1 = k'
    · have hne : ¬ k = k' := fun z => ha (hk.trans z.symm)
      rw [if_pos hk, if_neg hne, if_pos hk]
    · rw [if_neg hk, if_neg hk]
theorem valM_putM (kvs : List (List Int × D)) (k k' : List Int) (d : D) : valM (putM kvs k d) k' = if k = k' then some d else valM kvs k' := by
  unfold putM
  by_cases hk : (kvs.any fun kv => decide (kv.1 = k)) = true
  · rw [if_pos hk, valM_over]
    have : ∃ kv ∈ kvs, kv.1 = k := by
      rw [List.any_eq_true] at hk
      obtain ⟨kv, h1, h2⟩ := hk
      exact ⟨kv, h1, of_decide_eq_true h2⟩
    by_cases h : k = k'
    · rw [if_pos ⟨h, this⟩, if_pos h]
    · rw [if_neg (fun z => h z.1), if_neg h]
  · rw [if_neg hk]
    refine valM_app k k' d kvs fun kv h e => hk ?_
    rw [List.any_eq_true]
    exact ⟨kv, h, decide_eq_true e⟩
theorem putM_len (kvs : List (List Int × D)) (k : List Int) (d : D) : (putM kvs k d).length ≤ kvs.length + 1 := by
  unfold putM
  split
  · simp
  · simp
end PP

set_option Elab.async false
set_option linter.all false
set_option autoImplicit false
set_option maxRecDepth 100000
set_option maxHeartbeats 1000000
namespace PP
open PySem
/-! ### panes and tilings -/
structure Pn where
  l : Int
  t : Int
  w : Int
  h : Int
  deriving DecidableEq
def Pn.L (p : Pn) : List Int := [p.l, p.t, p.w, p.h]
def Pn.D (p : Pn) : D := tD p.L
theorem Pn.L_inj {p q : Pn} (h : p.L = q.L) : p = q := by
  cases p; cases q; simp [Pn.L] at h; simp [h]
/-- s: true: columns; false: rows -/
def Pn.lo (p : Pn) : Bool → Int
  | true => p.l
  | false => p.t
def Pn.sz (p : Pn) : Bool → Int
  | true => p.w
  | false => p.h
def Pn.has (p : Pn) (x y : Int) : Prop := p.l ≤ x ∧ x < p.l + p.w ∧ p.t ≤ y ∧ y < p.t + p.h
instance (p : Pn) (x y : Int) : Decidable (p.has x y) := by unfold Pn.has; infer_instance
def Pn.pos (p : Pn) : Prop := 0 < p.w ∧ 0 < p.h
def Pn.sub (p q : Pn) : Prop := q.l ≤ p.l ∧ p.l + p.w ≤ q.l + q.w ∧ q.t ≤ p.t ∧ p.t + p.h ≤ q.t + q.h
instance (p : Pn) : Decidable p.pos := by unfold Pn.pos; infer_instance
instance (p q : Pn) : Decidable (p.sub q) := by unfold Pn.sub; infer_instance
def Pn.c1 (p : Pn) (s : Bool) (c : Int) : Pn := match s with
  | true => ⟨p.l, p.t, c - p.l, p.h⟩
  | false => ⟨p.l, p.t, p.w, c - p.t⟩
def Pn.c2 (p : Pn) (s : Bool) (c : Int) : Pn := match s with
  | true => ⟨c, p.t, p.l + p.w - c, p.h⟩
  | false => ⟨p.l, c, p.w, p.t + p.h - c⟩
structure Til (P : Pn) (ps : List Pn) : Prop where
  inn : ∀ p ∈ ps, p.pos ∧ p.sub P
  dis : ∀ p ∈ ps, ∀ q ∈ ps, ∀ x y, p.has x y → q.has x y → p = q
  nd : ps.Nodup
  cov : ∀ x y, P.has x y → ∃ p ∈ ps, p.has x y
theorem Til.perm {P : Pn} {ps qs : List Pn} (h : Til P ps) (e : ps.Perm qs) : Til P qs :=
  ⟨fun p hp => h.inn p (e.mem_iff.mpr hp), fun p hp q hq => h.dis p (e.mem_iff.mpr hp) q (e.mem_iff.mpr hq), e.nodup_iff.mp h.nd,
   fun x y hx => let ⟨p, hp, hh⟩ := h.cov x y hx; ⟨p, e.mem_iff.mp hp, hh⟩⟩
/-- a place at which no pane goes on -/
def isLine (s : Bool) (ps : List Pn) (c : Int) : Prop := ∀ p ∈ ps, ¬ (p.lo s < c ∧ c < p.lo s + p.sz s)
instance (s : Bool) (ps : List Pn) (c : Int) : Decidable (isLine s ps c) := by unfold isLine; infer_instance
def fst (s : Bool) (c : Int) (ps : List Pn) : List Pn := ps.filter fun p => decide (p.lo s < c)
def snd (s : Bool) (c : Int) (ps : List Pn) : List Pn := ps.filter fun p => decide (c ≤ p.lo s)
theorem mem_fst {s : Bool} {c : Int} {ps : List Pn} {p : Pn} : p ∈ fst s c ps ↔ p ∈ ps ∧ p.lo s < c := by simp [fst]
theorem mem_snd {s : Bool} {c : Int} {ps : List Pn} {p : Pn} : p ∈ snd s c ps ↔ p ∈ ps ∧ c ≤ p.lo s := by simp [snd]
theorem Til.fst {P : Pn} {ps : List Pn} (h : Til P ps) {s : Bool} {c : Int} (hc : P.lo s < c ∧ c < P.lo s + P.sz s) (hl : isLine s ps c) : Til (P.c1 s c) (fst s c ps) := by
  refine ⟨fun p hp => ?_, fun p hp q hq => ?_, h.nd.filter _, fun x y hx => ?_⟩
  · rw [mem_fst] at hp
    obtain ⟨a, b⟩ := h.inn p hp.1
    have z := hl p hp.1
    refine ⟨a, ?_⟩
    cases s <;> simp only [Pn.sub, Pn.c1, Pn.lo, Pn.sz, Pn.pos] at * <;> omega
  · rw [mem_fst] at hp hq
    exact h.dis p hp.1 q hq.1
  · obtain ⟨p, hp, hh⟩ := h.cov x y (by cases s <;> simp only [Pn.has, Pn.c1, Pn.lo, Pn.sz] at * <;> omega)
    refine ⟨p, mem_fst.mpr ⟨hp, ?_⟩, hh⟩
    cases s <;> simp only [Pn.has, Pn.c1, Pn.lo, Pn.sz] at * <;> omega
theorem Til.snd {P : Pn} {ps : List Pn} (h : Til P ps) {s : Bool} {c : Int} (hc : P.lo s < c ∧ c < P.lo s + P.sz s) (hl : isLine s ps c) : Til (P.c2 s c) (snd s c ps) := by
  refine ⟨fun p hp => ?_, fun p hp q hq => ?_, h.nd.filter _, fun x y hx => ?_⟩
  · rw [mem_snd] at hp
    obtain ⟨a, b⟩ := h.inn p hp.1
    have z := hl p hp.1
    refine ⟨a, ?_⟩
    cases s <;> simp only [Pn.sub, Pn.c2, Pn.lo, Pn.sz, Pn.pos] at * <;> omega
  · rw [mem_snd] at hp hq
    exact h.dis p hp.1 q hq.1
  · obtain ⟨p, hp, hh⟩ := h.cov x y (by cases s <;> simp only [Pn.has, Pn.c2, Pn.lo, Pn.sz] at * <;> omega)
    refine ⟨p, mem_snd.mpr ⟨hp, ?_⟩, hh⟩
    have z := hl p hp
    cases s <;> simp only [Pn.has, Pn.c2, Pn.lo, Pn.sz] at * <;> omega
/-! ### trees -/
def Tr.pns : Tr → Pn → List Pn
  | .pane, P => [P]
  | .cut s k a b, P => a.pns (P.c1 s (P.lo s + k)) ++ b.pns (P.c2 s (P.lo s + k))
theorem pns_L : ∀ (t : Tr) (P : Pn), (t.pns P).map Pn.L = t.panes P.l P.t P.w P.h
  | .pane, P => rfl
  | .cut true k a b, P => by
    rw [Tr.pns, List.map_append, pns_L a, pns_L b, Tr.panes]
    simp only [Pn.c1, Pn.c2, Pn.lo]
    congr 2 <;> omega
  | .cut false k a b, P => by
    rw [Tr.pns, List.map_append, pns_L a, pns_L b, Tr.panes]
    simp only [Pn.c1, Pn.c2, Pn.lo]
    congr 2 <;> omega
theorem pns_len (t : Tr) (P : Pn) : (t.pns P).length = t.count := by
  rw [← panes_len t P.l P.t P.w P.h, ← pns_L, List.length_map]
def Tr.Fit (t : Tr) (P : Pn) : Prop := t.WF P.w P.h
theorem fit_cut {s : Bool} {k : Int} {a b : Tr} {P : Pn} : (Tr.cut s k a b).Fit P ↔ (1 ≤ k ∧ k < P.sz s) ∧ a.Fit (P.c1 s (P.lo s + k)) ∧ b.Fit (P.c2 s (P.lo s + k)) := by
  cases s
  · show (1 ≤ k ∧ k < P.h ∧ a.WF P.w k ∧ b.WF P.w (P.h - k)) ↔ (1 ≤ k ∧ k < P.h) ∧ a.WF P.w (P.t + k - P.t) ∧ b.WF P.w (P.t + P.h - (P.t + k))
    rw [show P.t + k - P.t = k by omega, show P.t + P.h - (P.t + k) = P.h - k by omega]
    exact and_assoc.symm
  · show (1 ≤ k ∧ k < P.w ∧ a.WF k P.h ∧ b.WF (P.w - k) P.h) ↔ (1 ≤ k ∧ k < P.w) ∧ a.WF (P.l + k - P.l) P.h ∧ b.WF (P.l + P.w - (P.l + k)) P.h
    rw [show P.l + k - P.l = k by omega, show P.l + P.w - (P.l + k) = P.w - k by omega]
    exact and_assoc.symm
theorem Tr.Fit.pos {t : Tr} {P : Pn} (h : t.Fit P) : P.pos := by
  have := WF_pos t h
  exact ⟨by omega, by omega⟩
theorem til_one {P : Pn} (h : P.pos) : Til P [P] := by
  refine ⟨?_, ?_, by simp, fun x y hx => ⟨P, by simp, hx⟩⟩
  · intro p hp
    simp at hp; subst hp
    exact ⟨h, by simp [Pn.sub]⟩
  · intro p hp q hq x y _ _
    simp at hp hq; rw [hp, hq]
/-- two tilings side by side -/
theorem til_app {P : Pn} {s : Bool} {c : Int} {ps qs : List Pn} (hc : P.lo s < c ∧ c < P.lo s + P.sz s) (h1 : Til (P.c1 s c) ps) (h2 : Til (P.c2 s c) qs) :
    Til P (ps ++ qs) ∧ isLine s (ps ++ qs) c ∧ fst s c (ps ++ qs) = ps ∧ snd s c (ps ++ qs) = qs := by
  have a1 : ∀ p ∈ ps, p.lo s + p.sz s ≤ c := fun p hp => by
    have := (h1.inn p hp).2
    cases s <;> simp only [Pn.sub, Pn.c1, Pn.lo, Pn.sz] at * <;> omega
  have a1' : ∀ p ∈ ps, p.lo s < c := fun p hp => by
    have := a1 p hp
    have := (h1.inn p hp).1
    cases s <;> simp only [Pn.pos, Pn.lo, Pn.sz] at * <;> omega
  have a2 : ∀ p ∈ qs, c ≤ p.lo s := fun p hp => by
    have := (h2.inn p hp).2
    cases s <;> simp only [Pn.sub, Pn.c2, Pn.lo, Pn.sz] at * <;> omega
  have ap : ∀ p ∈ ps, ∀ q ∈ qs, ∀ x y, p.has x y → ¬ q.has x y := fun p hp q hq x y hx hy => by
    have z1 := a1 p hp
    have z2 := a2 q hq
    cases s <;> simp only [Pn.has, Pn.lo, Pn.sz] at * <;> omega
  refine ⟨⟨fun p hp => ?_, fun p hp q hq x y hx hy => ?_, ?_, fun x y hx => ?_⟩, fun p hp => ?_, ?_, ?_⟩
  · rcases List.mem_append.mp hp with hp | hp
    · have := h1.inn p hp
      refine ⟨this.1, ?_⟩
      have := this.2
      cases s <;> simp only [Pn.sub, Pn.c1, Pn.lo, Pn.sz] at * <;> omega
    · have := h2.inn p hp
      refine ⟨this.1, ?_⟩
      have := this.2
      cases s <;> simp only [Pn.sub, Pn.c2, Pn.lo, Pn.sz] at * <;> omega
  · rcases List.mem_append.mp hp with hp | hp <;> rcases List.mem_append.mp hq with hq | hq
    · exact h1.dis p hp q hq x y hx hy
    · exact absurd hy (ap p hp q hq x y hx)
    · exact absurd hx (ap q hq p hp x y hy)
    · exact h2.dis p hp q hq x y hx hy
  · rw [List.nodup_append]
    refine ⟨h1.nd, h2.nd, fun p hp q hq e => ?_⟩
    subst e
    have := a1' p hp
    have := a2 p hq
    omega
  · by_cases z : (P.c1 s c).has x y
    · obtain ⟨p, hp, hh⟩ := h1.cov x y z
      exact ⟨p, List.mem_append.mpr (.inl hp), hh⟩
    · obtain ⟨p, hp, hh⟩ := h2.cov x y (by cases s <;> simp only [Pn.has, Pn.c1, Pn.c2, Pn.lo, Pn.sz] at * <;> omega)
      exact ⟨p, List.mem_append.mpr (.inr hp), hh⟩
  · rcases List.mem_append.mp hp with hp | hp
    · have := a1 p hp; omega
    · have := a2 p hp; omega
  · unfold PP.fst
    rw [List.filter_append, List.filter_eq_self.mpr (fun p hp => decide_eq_true (a1' p hp)), List.filter_eq_nil_iff.mpr (fun p hp => by have := a2 p hp; simp; omega), List.append_nil]
  · unfold PP.snd
    rw [List.filter_append, List.filter_eq_nil_iff.mpr (fun p hp => by have := a1' p hp; simp; omega), List.filter_eq_self.mpr (fun p hp => decide_eq_true (a2 p hp)), List.nil_append]
theorem til_tree : ∀ (t : Tr) (P : Pn), t.Fit P → Til P (t.pns P)
  | .pane, P, h => til_one h.pos
  | .cut s k a b, P, h => by
    obtain ⟨h1, h2, h3⟩ := fit_cut.mp h
    exact (til_app (by omega) (til_tree a _ h2) (til_tree b _ h3)).1
end PP

set_option Elab.async false
set_option linter.all false
set_option autoImplicit false
set_option maxRecDepth 100000
set_option maxHeartbeats 1000000
namespace PP
open PySem
variable {T : Nat → Option Fn} {n : Nat}
theorem D_eq (p : Pn) : p.D = .tuple [.int p.l, .int p.t, .int p.w, .int p.h] := rfl
theorem D_mk (a b c d : Int) : PyData.tuple [.int a, .int b, .int c, .int d] = (Pn.mk a b c d).D := rfl
theorem D_map (ps : List Pn) : ps.map Pn.D = (ps.map Pn.L).map tD := by simp [Pn.D]
@[simp] theorem setT_D (i j k l : Nat) (p : Pn) (ρ : Sto) : setT (.tp [i, j, k, l]) p.D ρ = .ok ((((ρ.set i (some (.d (.int p.l)))).set j (some (.d (.int p.t)))).set k (some (.d (.int p.w)))).set l (some (.d (.int p.h)))) := id rfl
@[simp] theorem idx_D0 (p : Pn) : idxR (.d p.D) (.d (.int 0)) = .ok (.d (.int p.l)) := idx0 ..
@[simp] theorem idx_D1 (p : Pn) : idxR (.d p.D) (.d (.int 1)) = .ok (.d (.int p.t)) := idx1 ..
@[simp] theorem idx_D2 (p : Pn) : idxR (.d p.D) (.d (.int 2)) = .ok (.d (.int p.w)) := idx2 ..
@[simp] theorem idx_D3 (p : Pn) : idxR (.d p.D) (.d (.int 3)) = .ok (.d (.int p.h)) := idx3 ..
@[simp 2000] theorem tup_D (a b c d : Int) : tupG [.int a, .int b, .int c, .int d] = .ok (.d (Pn.mk a b c d).D) := id rfl
@[simp] theorem add_bl {xs ys : List D} (h : xs.length + ys.length ≤ lim) : binR .add (.d (.list xs)) (.l ys) = .ok (.l (xs ++ ys)) := by
  show fit _ _ = _
  rw [fit_ok h]
@[simp] theorem add_ll {xs ys : List D} (h : xs.length + ys.length ≤ lim) : binR .add (.l xs) (.l ys) = .ok (.l (xs ++ ys)) := by
  show fit _ _ = _
  rw [fit_ok h]
@[simp] theorem add_tt {xs ys : List D} (h : xs.length + ys.length ≤ lim) : binR .add (.d (.tuple xs)) (.d (.tuple ys)) = .ok (.d (.tuple (xs ++ ys))) := by
  show fit _ _ = _
  rw [fit_ok h]
@[simp] theorem slc_D1 (p : Pn) : slcR (.d p.D) (some 1) none = .ok (.d (.tuple [.int p.t, .int p.w, .int p.h])) := id rfl
@[simp] theorem itm_b' (xs : List D) : (R.d (.list xs)).itm = .ok xs := id rfl
/-! ### wheels -/
def wheelP (w h a b c d : Int) : List Pn := [⟨0, 0, b, c⟩, ⟨b, 0, w - b, d⟩, ⟨a, d, w - a, h - d⟩, ⟨0, c, a, h - c⟩, ⟨a, c, b - a, d - c⟩]
def mirP (w : Int) (p : Pn) : Pn := ⟨w - p.l - p.w, p.t, p.w, p.h⟩
def shiftP (l t : Int) (p : Pn) : Pn := ⟨l + p.l, t + p.t, p.w, p.h⟩
/-- a wheel in a pane -/
def wheel (P : Pn) (m : Bool) (a b c d : Int) : List Pn := ((if m then (wheelP P.w P.h a b c d).map (mirP P.w) else wheelP P.w P.h a b c d)).map (shiftP P.l P.t)
theorem c_wheel (h4 : T 4 = some f4_law_mix) (h : T 10 = some f10_law_wheel) (k : Int) (P : Pn) (hw : 2 < P.w) (hh : 2 < P.h) :
    ∃ m a b c d, call T (n + 2) 10 [.d (.int k), .d P.D] = .ok (.l ((wheel P m a b c d).map Pn.D)) ∧ 1 ≤ a ∧ a < b ∧ b < P.w ∧ 1 ≤ c ∧ c < d ∧ d < P.h := by
  have b1 := mixI_bd (c := k) (p := 9923) (m := P.w - 2) (by omega)
  have b2 := mixI_bd (c := k) (p := 9907) (m := P.h - 2) (by omega)
  have e1 := c_mix (n := n) h4 (c := k) (p := 9923) (m := P.w - 2) (by decide) (by decide) (by omega)
  have e2 := c_mix (n := n) h4 (c := k) (p := 9907) (m := P.h - 2) (by decide) (by decide) (by omega)
  generalize ha : mixI k 9923 (P.w - 2) = a at *
  generalize hc : mixI k 9907 (P.h - 2) = c at *
  have b3 := mixI_bd (c := k) (p := 9901) (m := P.w - (1 + a) - 1) (by omega)
  have b4 := mixI_bd (c := k) (p := 9887) (m := P.h - (1 + c) - 1) (by omega)
  have e3 := c_mix (n := n) h4 (c := k) (p := 9901) (m := P.w - (1 + a) - 1) (by decide) (by decide) (by omega)
  have e4 := c_mix (n := n) h4 (c := k) (p := 9887) (m := P.h - (1 + c) - 1) (by decide) (by decide) (by omega)
  generalize hb : mixI k 9901 (P.w - (1 + a) - 1) = b at *
  generalize hd : mixI k 9887 (P.h - (1 + c) - 1) = d at *
  refine ⟨decide (k % 2 = 0), 1 + a, 1 + a + 1 + b, 1 + c, 1 + c + 1 + d, ?_, by omega, by omega, by omega, by omega, by omega, by omega⟩
  rw [call_go h rfl (st := [some (.d (.int k)), some (.d P.D), none, none, none, none, none, none, none, none, none, none]) rfl]
  by_cases hm : k % 2 = 0
  · simp [f10_law_wheel, e1, e2, e3, e4, setAll, hm, lim_eq]
    rw [lc_nm Pn.D (fun p => (mirP P.w p).D) (wheelP P.w P.h (1 + a) (1 + a + 1 + b) (1 + c) (1 + c + 1 + d)) rfl (by simp [wheelP, lim_eq])]
    · simp
      rw [lc_nm Pn.D (fun p => (shiftP P.l P.t p).D) ((wheelP P.w P.h (1 + a) (1 + a + 1 + b) (1 + c) (1 + c + 1 + d)).map (mirP P.w)) (by simp) (by simp [wheelP, lim_eq])]
      · simp [wheel]
      · intro p _
        simp [shiftP, D_mk]
    · intro p _
      simp [lim_eq, mirP, D_mk]
  · simp [f10_law_wheel, e1, e2, e3, e4, setAll, hm, lim_eq]
    rw [lc_nm Pn.D (fun p => (shiftP P.l P.t p).D) (wheelP P.w P.h (1 + a) (1 + a + 1 + b) (1 + c) (1 + c + 1 + d)) rfl (by simp [wheelP, lim_eq])]
    · simp [wheel]
    · intro p _
      simp [shiftP, D_mk]
end PP

set_option Elab.async false
set_option linter.all false
set_option autoImplicit false
set_option maxRecDepth 100000
set_option maxHeartbeats 1000000
namespace PP
open PySem
variable {T : Nat → Option Fn} {n : Nat}
theorem eqv_ints : ∀ xs ys : List Int, PyData.eqvAll (xs.map .int) (ys.map .int) = decide (xs = ys)
  | [], [] => by simp [PyData.eqvAll]
  | [], y :: ys => by simp [PyData.eqvAll]
  | x :: xs, [] => by simp [PyData.eqvAll]
  | x :: xs, y :: ys => by
    simp only [List.map_cons, PyData.eqvAll, eqv_ints xs ys, PyData.eqv]
    by_cases h : x = y <;> simp [h]
theorem eqv_tD (xs ys : List Int) : PyData.eqv (tD xs) (tD ys) = decide (xs = ys) := by
  show PyData.eqvAll (xs.map .int) (ys.map .int) = _
  exact eqv_ints xs ys
theorem eqv_DD (p q : Pn) : PyData.eqv p.D q.D = decide (p = q) := by
  rw [Pn.D, Pn.D, eqv_tD]
  by_cases h : p = q
  · simp [h]
  · have : ¬ p.L = q.L := fun z => h (Pn.L_inj z)
    simp [h, this]
theorem shallow_l {a b : D} (h : a.depth ≤ 60) : shallow a b = true := by
  unfold shallow; exact decide_eq_true (by omega)
theorem shallow_r {a b : D} (h : b.depth ≤ 60) : shallow a b = true := by
  unfold shallow; exact decide_eq_true (by omega)
theorem depth_D (p : Pn) : p.D.depth = 1 := depth_tD _
@[simp] theorem eq_DD (p q : Pn) : eqR (.d p.D) (.d q.D) = .ok (decide (p = q)) := by
  show (if (true && true && shallow p.D q.D) then Rs.ok (PyData.eqv p.D q.D) else .bad) = _
  rw [shallow_l (by rw [depth_D]; decide), eqv_DD]; rfl
/-! ### a pane cut in parts -/
def wo (P : Pn) (ps : List Pn) : List Pn := ps.filter fun p => !decide (p = P)
theorem til_repl {Q P : Pn} {ps ws : List Pn} (h : Til Q ps) (hP : P ∈ ps) (hw : Til P ws) : Til Q (wo P ps ++ ws) := by
  have hm : ∀ p, p ∈ wo P ps ↔ p ∈ ps ∧ p ≠ P := by simp [wo]
  have hin : ∀ p ∈ ws, ∀ x y, p.has x y → P.has x y := fun p hp x y hx => by
    have := (hw.inn p hp).2
    simp only [Pn.has, Pn.sub] at *; omega
  have hap : ∀ p ∈ ps, p ≠ P → ∀ q ∈ ws, ∀ x y, p.has x y → ¬ q.has x y := fun p hp hne q hq x y hx hy => hne (h.dis p hp P hP x y hx (hin q hq x y hy))
  refine ⟨fun p hp => ?_, fun p hp q hq x y hx hy => ?_, ?_, fun x y hx => ?_⟩
  · rcases List.mem_append.mp hp with hp | hp
    · exact h.inn p ((hm p).mp hp).1
    · have a := hw.inn p hp
      have b := (h.inn P hP).2
      refine ⟨a.1, ?_⟩
      have := a.2
      simp only [Pn.sub] at *; omega
  · rcases List.mem_append.mp hp with hp | hp <;> rcases List.mem_append.mp hq with hq | hq
    · exact h.dis p ((hm p).mp hp).1 q ((hm q).mp hq).1 x y hx hy
    · exact absurd hy (hap p ((hm p).mp hp).1 ((hm p).mp hp).2 q hq x y hx)
    · exact absurd hx (hap q ((hm q).mp hq).1 ((hm q).mp hq).2 p hp x y hy)
    · exact hw.dis p hp q hq x y hx hy
  · rw [List.nodup_append]
    refine ⟨h.nd.filter _, hw.nd, fun p hp q hq e => ?_⟩
    subst e
    have := (hw.inn p hq).1
    have hx : p.has p.l p.t := by simp only [Pn.has, Pn.pos] at *; omega
    exact hap p ((hm p).mp hp).1 ((hm p).mp hp).2 p hq _ _ hx hx
  · obtain ⟨p, hp, hh⟩ := h.cov x y hx
    by_cases e : p = P
    · obtain ⟨q, hq, hh'⟩ := hw.cov x y (e ▸ hh)
      exact ⟨q, List.mem_append.mpr (.inr hq), hh'⟩
    · exact ⟨p, List.mem_append.mpr (.inl ((hm p).mpr ⟨hp, e⟩)), hh⟩
theorem til_wheel {P : Pn} {m : Bool} {a b c d : Int} (h1 : 1 ≤ a) (h2 : a < b) (h3 : b < P.w) (h4 : 1 ≤ c) (h5 : c < d) (h6 : d < P.h) : Til P (wheel P m a b c d) := by
  cases m
  · refine ⟨?_, ?_, ?_, ?_⟩
    · intro p hp
      simp only [wheel, wheelP, List.map_cons, List.map_nil, List.mem_cons, List.not_mem_nil, or_false, if_false, Bool.false_eq_true] at hp
      rcases hp with rfl | rfl | rfl | rfl | rfl <;> simp only [shiftP, Pn.pos, Pn.sub] <;> omega
    · intro p hp q hq x y hx hy
      simp only [wheel, wheelP, List.map_cons, List.map_nil, List.mem_cons, List.not_mem_nil, or_false, if_false, Bool.false_eq_true] at hp hq
      rcases hp with rfl | rfl | rfl | rfl | rfl <;> rcases hq with rfl | rfl | rfl | rfl | rfl <;> first | rfl | (exfalso; simp only [shiftP, Pn.has] at *; omega)
    · simp only [wheel, wheelP, shiftP, List.map_cons, List.map_nil, if_false, Bool.false_eq_true, List.nodup_cons, List.mem_cons, List.not_mem_nil, or_false, not_or, Pn.mk.injEq, not_false_eq_true, List.nodup_nil, and_true]
      omega
    · intro x y hx
      simp only [wheel, wheelP, List.map_cons, List.map_nil, List.mem_cons, List.not_mem_nil, or_false, if_false, Bool.false_eq_true, exists_eq_or_imp, exists_eq_left]
      simp only [shiftP, Pn.has] at *
      omega
  · refine ⟨?_, ?_, ?_, ?_⟩
    · intro p hp
      simp only [wheel, wheelP, List.map_cons, List.map_nil, List.mem_cons, List.not_mem_nil, or_false, if_true] at hp
      rcases hp with rfl | rfl | rfl | rfl | rfl <;> simp only [shiftP, mirP, Pn.pos, Pn.sub] <;> omega
    · intro p hp q hq x y hx hy
      simp only [wheel, wheelP, List.map_cons, List.map_nil, List.mem_cons, List.not_mem_nil, or_false, if_true] at hp hq
      rcases hp with rfl | rfl | rfl | rfl | rfl <;> rcases hq with rfl | rfl | rfl | rfl | rfl <;> first | rfl | (exfalso; simp only [shiftP, mirP, Pn.has] at *; omega)
    · simp only [wheel, wheelP, shiftP, mirP, List.map_cons, List.map_nil, if_true, List.nodup_cons, List.mem_cons, List.not_mem_nil, or_false, not_or, Pn.mk.injEq, not_false_eq_true, List.nodup_nil, and_true]
      omega
    · intro x y hx
      simp only [wheel, wheelP, List.map_cons, List.map_nil, List.mem_cons, List.not_mem_nil, or_false, if_true, exists_eq_or_imp, exists_eq_left]
      simp only [shiftP, mirP, Pn.has] at *
      omega
/-! ### pictures -/
def srtP (ps : List Pn) : List Pn := ps.mergeSort fun p q => leI p.L q.L
theorem srtP_L (ps : List Pn) : (srtP ps).map Pn.L = srt (ps.map Pn.L) := by
  have z := PySem.W.sort_maps (r := fun p q : Pn => leI p.L q.L) (s := leI) Pn.L (l := ps) (fun _ _ _ _ => rfl)
  exact z
theorem srtP_D (ps : List Pn) : (srt (ps.map Pn.L)).map tD = (srtP ps).map Pn.D := by rw [← srtP_L, ← D_map]
theorem srtP_perm (ps : List Pn) : (srtP ps).Perm ps := List.mergeSort_perm ps _
theorem L_ne (p : Pn) : p.L ≠ [] := by simp [Pn.L]
theorem sortR_D {ps : List Pn} (hl : ps.length ≤ lim) : sortR (ps.map Pn.D) = .ok ((srtP ps).map Pn.D) := by
  rw [D_map, sortR_tD (by simp [L_ne]) (by simpa using hl), srtP_D]
theorem srtP_lt {ps : List Pn} (h : ps.Nodup) : ((srtP ps).map Pn.L).Pairwise (· < ·) := by
  rw [srtP_L]
  refine srt_lt ?_
  exact List.pairwise_map.mpr (h.imp fun a e => a (Pn.L_inj e))
def pcD (W H : Int) (ps : List Pn) : D := .tuple [wD W H, .tuple (ps.map Pn.D)]
structure Pict (W H : Int) (ps : List Pn) : Prop where
  w : 1 ≤ W ∧ W ≤ 6
  h : 1 ≤ H ∧ H ≤ 6
  til : Til ⟨0, 0, W, H⟩ ps
  lt : (ps.map Pn.L).Pairwise (· < ·)
  len : ps.length ≤ 7
theorem pict_mk {W H : Int} {ps : List Pn} (w : 1 ≤ W ∧ W ≤ 6) (h : 1 ≤ H ∧ H ≤ 6) (t : Til ⟨0, 0, W, H⟩ ps) (l : ps.length ≤ 7) : Pict W H (srtP ps) :=
  ⟨w, h, t.perm (srtP_perm ps).symm, srtP_lt t.nd, by rw [(srtP_perm ps).length_eq]; exact l⟩
theorem picD_pcD (w g : Int) (ps : List Pn) : picD w g (ps.map Pn.L) = pcD w g (srtP ps) := by
  unfold picD pcD; rw [srtP_D]
@[simp] theorem eqT (t : Tr) : eqR (.d t.enc) (.d (.tuple [.str t_pane])) = .ok t.isP := eq_pane t
@[simp] theorem wD_0 (w g : Int) : idxR (.d (wD w g)) (.d (.int 0)) = .ok (.d (.int w)) := idx0 ..
@[simp] theorem wD_1 (w g : Int) : idxR (.d (wD w g)) (.d (.int 1)) = .ok (.d (.int g)) := idx1 ..
@[simp 2000] theorem tup_w (w g : Int) : tupG [.int w, .int g] = .ok (.d (wD w g)) := id rfl
@[simp] theorem setT_w (i j : Nat) (w g : Int) (ρ : Sto) : setT (.tp [i, j]) (wD w g) ρ = .ok ((ρ.set i (some (.d (.int w)))).set j (some (.d (.int g)))) := id rfl
@[simp] theorem tru_L (xs : List D) : truR (.d (.list xs)) = .ok (!xs.isEmpty) := id rfl
@[simp] theorem tru_t (xs : List D) : truR (.d (.tuple xs)) = .ok (!xs.isEmpty) := id rfl
theorem sorted_D {ps : List Pn} (hl : ps.length ≤ lim) : bltR .sorted [.d (.list (ps.map Pn.D))] = .ok (.l ((srtP ps).map Pn.D)) := by
  show (sortR (ps.map Pn.D) >>= fun ys => Rs.ok (R.l ys)) = _
  rw [sortR_D hl]; rfl
theorem sorted_Dl {ps : List Pn} (hl : ps.length ≤ lim) : bltR .sorted [.l (ps.map Pn.D)] = .ok (.l ((srtP ps).map Pn.D)) := by
  show (sortR (ps.map Pn.D) >>= fun ys => Rs.ok (R.l ys)) = _
  rw [sortR_D hl]; rfl
theorem idxL_nat {xs : List D} {k : Nat} {x : D} (h : xs[k]? = some x) : idxR (.d (.list xs)) (.d (.int k)) = .ok (.d x) := by
  have e : L2.atI xs (k : Int) = some x := L2.atI_nat h
  show (match L2.atI xs (k : Int) with | some x => Rs.ok (R.d x) | none => .bad) = _
  rw [e]
theorem idx_mem {α : Type} (f : α → D) (ps : List α) {j : Int} (h0 : 0 ≤ j) (h1 : j < ps.length) : ∃ p ∈ ps, idxR (.d (.list (ps.map f))) (.d (.int j)) = .ok (.d (f p)) ∧ idxR (.d (.tuple (ps.map f))) (.d (.int j)) = .ok (.d (f p)) := by
  obtain ⟨k, rfl⟩ : ∃ k : Nat, j = k := ⟨j.toNat, by omega⟩
  have hk : k < ps.length := by omega
  refine ⟨ps[k], List.getElem_mem hk, idxL_nat (by simp [hk]), idx_nat (by simp [hk])⟩
structure TW (T : Nat → Option Fn) : Prop where
  b : TB T
  lpicture_of : T 9 = some f9_law_picture_of
  wheel : T 10 = some f10_law_wheel
  lpicture : T 15 = some f15_law_picture
theorem c_lpanes' (h : TB T) (t : Tr) (n : Nat) (w g : Int) (hn : t.count + 1 ≤ n) (hc : t.count ≤ 1000) :
    call T n 7 [.d t.enc, .d (.int 0), .d (.int 0), .d (wD w g)] = .ok (.l ((t.pns ⟨0, 0, w, g⟩).map Pn.D)) := by
  have := c_lpanes h t n 0 0 w g hn hc
  rw [D_map, pns_L]; exact this
end PP

set_option Elab.async false
set_option linter.all false
set_option autoImplicit false
set_option maxRecDepth 100000
set_option maxHeartbeats 1000000
namespace PP
open PySem
variable {T : Nat → Option Fn} {n : Nat}
theorem c_window' (h : TB T) (c : Int) : ∃ w g : Int, call T (n + 2) 8 [.d (.int c)] = .ok (.d (wD w g)) ∧ (1 ≤ w ∧ w ≤ 6) ∧ (1 ≤ g ∧ g ≤ 6) := by
  obtain ⟨w, g, e, h1, h2, h3, h4⟩ := c_window (n := n) h.mix h.window c
  exact ⟨w, g, e, ⟨h1, h2⟩, ⟨h3, h4⟩⟩
theorem c_mix' (h : TB T) (c : Int) {p m : Int} (hp : 0 < p) (hp2 : p < 100000) (hm : 0 < m) : ∃ j : Int, call T (n + 1) 4 [.d (.int c), .d (.int p), .d (.int m)] = .ok (.d (.int j)) ∧ 0 ≤ j ∧ j < m :=
  ⟨_, c_mix h.mix hp hp2 hm, mixI_bd hm⟩
theorem c_tree' (h : TB T) (m : Int) (n : Nat) (c w g : Int) (hw : 1 ≤ w) (hg : 1 ≤ g) (hm : 0 ≤ m) (hn : m + 2 ≤ n) :
    ∃ t : Tr, call T n 6 [.d (.int c), .d (wD w g), .d (.int m)] = .ok (.d t.enc) ∧ t.Fit ⟨0, 0, w, g⟩ ∧ (t.count : Int) ≤ max m 1 := by
  obtain ⟨k, rfl⟩ : ∃ k : Nat, m = k := ⟨m.toNat, by omega⟩
  obtain ⟨t, e, h1, h2⟩ := c_tree h k n c w g hw hg (by omega)
  exact ⟨t, e, h1, by omega⟩
theorem wo_len {ps : List Pn} {P : Pn} (hP : P ∈ ps) : (wo P ps).length + 1 ≤ ps.length := by
  induction ps with
  | nil => cases hP
  | cons a as ih =>
    by_cases ha : a = P
    · subst ha
      have := List.length_filter_le (fun p => !decide (p = a)) as
      simp only [wo, List.length_cons, decide_true, Bool.not_true, Bool.false_eq_true, not_false_eq_true, List.filter_cons_of_neg] at *
      omega
    · have := ih (by rcases List.mem_cons.mp hP with e | e; exact absurd e.symm ha; exact e)
      unfold wo at *
      rw [List.filter_cons_of_pos (by simp [ha])]
      simp only [List.length_cons]; omega
theorem c_lpicture (h : TW T) (c : Int) : ∃ W H ps, call T (n + 20) 15 [.d (.int c)] = .ok (.d (pcD W H ps)) ∧ Pict W H ps := by
  obtain ⟨w, g, ew, hw, hg⟩ := c_window' (n := n + 17) h.b c
  obtain ⟨j1, e1, _, _⟩ := c_mix' (n := n + 18) h.b c (p := 9883) (m := 2) (by decide) (by decide) (by decide)
  rw [call_go h.lpicture rfl (st := [some (.d (.int c)), none, none, none, none, none]) rfl]
  by_cases hj : j1 = 0
  · obtain ⟨j2, e2, a1, a2⟩ := c_mix' (n := n + 18) h.b c (p := 9871) (m := 7) (by decide) (by decide) (by decide)
    obtain ⟨t, et, hf, hc⟩ := c_tree' h.b (1 + j2) (n + 19) (c + 1) w g (by omega) (by omega) (by omega) (by omega)
    have ep := c_lpicture_of h.b h.lpicture_of t (n + 19) w g (by omega) (by omega)
    have hp := picD_pcD w g (t.pns ⟨0, 0, w, g⟩)
    rw [pns_L] at hp
    refine ⟨w, g, srtP (t.pns ⟨0, 0, w, g⟩), ?_, pict_mk hw hg (til_tree t _ hf) (by rw [pns_len]; omega)⟩
    rw [← hp]
    simp [f15_law_picture, ew, e1, hj, e2, et, ep]
  · obtain ⟨W, hW, hW3, eW⟩ : ∃ W : Int, (3 ≤ W ∧ W ≤ 6) ∧ 1 ≤ W ∧ (if 3 < w then w else 3) = W := ⟨_, by split <;> omega, by split <;> omega, rfl⟩
    obtain ⟨H, hH, hH3, eH⟩ : ∃ H : Int, (3 ≤ H ∧ H ≤ 6) ∧ 1 ≤ H ∧ (if 3 < g then g else 3) = H := ⟨_, by split <;> omega, by split <;> omega, rfl⟩
    obtain ⟨j2, e2, a1, a2⟩ := c_mix' (n := n + 18) h.b c (p := 9859) (m := 3) (by decide) (by decide) (by decide)
    obtain ⟨t, et, hf, hc⟩ := c_tree' h.b (1 + j2) (n + 19) (c + 2) W H (by omega) (by omega) (by omega) (by omega)
    have ep := c_lpanes' h.b t (n + 19) W H (by omega) (by omega)
    generalize hps : t.pns ⟨0, 0, W, H⟩ = ps at ep
    have hl : ps.length ≤ 3 := by rw [← hps, pns_len]; omega
    have til : Til ⟨0, 0, W, H⟩ ps := hps ▸ til_tree t _ hf
    simp [f15_law_picture, ew, e1, hj, e2, eW, eH, et, ep]
    rw [lcf_nm Pn.D (fun p => decide (2 < p.w) && decide (2 < p.h)) Pn.D ps (by simp) (by rw [lim_eq]; omega) (by
      intro p _
      by_cases hw : 2 < p.w <;> simp [hw])]
    generalize hgr : (ps.filter fun p => decide (2 < p.w) && decide (2 < p.h)) = gs
    by_cases hge : gs = []
    · refine ⟨W, H, srtP ps, ?_, pict_mk (by omega) (by omega) til (by omega)⟩
      have hs := sorted_D (ps := ps) (by rw [lim_eq]; omega)
      simp [hge, hs, pcD]
    · have hlg : 0 < (gs.length : Int) := by
        cases gs with
        | nil => exact absurd rfl hge
        | cons a b => simp
      obtain ⟨j3, e3, a3, a4⟩ := c_mix' (n := n + 18) h.b c (p := 9857) (m := gs.length) (by decide) (by decide) hlg
      obtain ⟨P, hP, e4, _⟩ := idx_mem Pn.D gs a3 a4
      have hPm : P ∈ ps ∧ 2 < P.w ∧ 2 < P.h := by
        rw [← hgr, List.mem_filter] at hP
        simpa using hP
      obtain ⟨m, a, b, c', d, e5, q1, q2, q3, q4, q5, q6⟩ := c_wheel (n := n + 17) h.b.mix h.wheel c P hPm.2.1 hPm.2.2
      have tw := til_wheel (m := m) q1 q2 q3 q4 q5 q6
      have hwl : (wheel P m a b c' d).length = 5 := by cases m <;> rfl
      have hfl := wo_len hPm.1
      have hl2 : (wo P ps ++ wheel P m a b c' d).length ≤ 7 := by rw [List.length_append]; omega
      refine ⟨W, H, srtP (wo P ps ++ wheel P m a b c' d), ?_, pict_mk (by omega) (by omega) (til_repl til hPm.1 tw) hl2⟩
      have hs := sorted_D (ps := wo P ps ++ wheel P m a b c' d) (by rw [lim_eq]; omega)
      have hne : gs.isEmpty = false := by simp [hge]
      simp [hne, e3, e4, e5]
      rw [lcf_nm Pn.D (fun p => !decide (p = P)) Pn.D ps (by simp) (by rw [lim_eq]; omega) (by
        intro p _
        simp)]
      have hadd := add_ll (xs := (wo P ps).map Pn.D) (ys := (wheel P m a b c' d).map Pn.D) (by simp only [List.length_map, lim_eq]; omega)
      rw [← List.map_append] at hadd
      rw [show (ps.filter fun p => !decide (p = P)) = wo P ps from rfl]
      simp [hadd, hs, pcD, -List.map_append]
end PP

set_option Elab.async false
set_option linter.all false
set_option autoImplicit false
set_option maxRecDepth 100000
set_option maxHeartbeats 1000000
namespace PP
open PySem
variable {T : Nat → Option Fn} {n : Nat}
/-! ### the grid -/
abbrev Mp := List (List Int × D)
def puts (m : Mp) (ws : Mp) : Mp := ws.foldl (fun m kd => putM m kd.1 kd.2) m
theorem puts_app (m a b : Mp) : puts m (a ++ b) = puts (puts m a) b := by simp [puts]
theorem puts_len : ∀ (ws m : Mp), (puts m ws).length ≤ m.length + ws.length
  | [], m => by simp [puts]
  | a :: ws, m => by
    have := puts_len ws (putM m a.1 a.2)
    have := putM_len m a.1 a.2
    show (puts (putM m a.1 a.2) ws).length ≤ _
    simp only [List.length_cons]; omega
theorem valM_puts : ∀ (ws m : Mp) (k : List Int) (d : D), ((k, d) ∈ ws ∨ (valM m k = some d)) → (∀ d', (k, d') ∈ ws → d' = d) → valM (puts m ws) k = some d
  | [], m, k, d, h, _ => by rcases h with h | h; cases h; exact h
  | a :: ws, m, k, d, h, hu => by
    refine valM_puts ws (putM m a.1 a.2) k d ?_ (fun d' hd => hu d' (List.mem_cons_of_mem _ hd))
    rw [valM_putM]
    by_cases ha : a.1 = k
    · have : a.2 = d := hu a.2 (by rw [← ha]; exact List.mem_cons_self ..)
      exact .inr (by rw [if_pos ha, this])
    · rcases h with h | h
      · rcases List.mem_cons.mp h with h | h
        · exact absurd (by rw [← h]) ha
        · exact .inl h
      · exact .inr (by rw [if_neg ha]; exact h)
def rowW (p : Pn) (i : Nat) (y : Int) : Mp := (irange p.l (p.l + p.w)).map fun x => ([x, y], .int i)
def paneW (a : Pn × Nat) : Mp := (irange a.1.t (a.1.t + a.1.h)).flatMap (rowW a.1 a.2)
def gridW (ps : List Pn) : Mp := ps.zipIdx.flatMap paneW
def gridM (ps : List Pn) : Mp := puts [] (gridW ps)
theorem enum_D : ∀ (ps : List Pn) (k : Nat), enumL k (ps.map Pn.D) = (ps.zipIdx k).map (fun a => .tuple [.int a.2, a.1.D])
  | [], _ => rfl
  | p :: ps, k => by
    rw [List.map_cons, enumL, enum_D ps (k + 1)]; rfl
theorem rowW_len (p : Pn) (i : Nat) (y : Int) : (rowW p i y).length = p.w.toNat := by
  simp [rowW, len_irange]; omega
theorem flat_le {α : Type} {f : α → Mp} {k : Nat} : ∀ (as : List α), (∀ a ∈ as, (f a).length ≤ k) → (as.flatMap f).length ≤ as.length * k
  | [], _ => by simp
  | a :: as, h => by
    have := flat_le as fun b hb => h b (List.mem_cons_of_mem _ hb)
    have := h a (List.mem_cons_self ..)
    rw [List.flatMap_cons, List.length_append, List.length_cons, Nat.succ_mul]; omega
def PnB (p : Pn) : Prop := (-100 ≤ p.l ∧ p.l ≤ 100) ∧ (-100 ≤ p.t ∧ p.t ≤ 100) ∧ (0 ≤ p.w ∧ p.w ≤ 20) ∧ (0 ≤ p.h ∧ p.h ≤ 20)
theorem pane_le {a : Pn × Nat} (h : PnB a.1) : (paneW a).length ≤ 400 := by
  obtain ⟨_, _, hw, hh⟩ := h
  have := flat_le (f := rowW a.1 a.2) (k := 20) (irange a.1.t (a.1.t + a.1.h)) (fun y _ => by rw [rowW_len]; omega)
  rw [len_irange] at this
  unfold paneW
  have : (a.1.t + a.1.h - a.1.t).toNat * 20 ≤ 20 * 20 := Nat.mul_le_mul (by omega) (by omega)
  omega
theorem c_grid (h : T 28 = some f28_law_grid) {X : D} {ps : List Pn} (hb : ∀ p ∈ ps, PnB p) (hl : ps.length ≤ 100) :
    call T (n + 1) 28 [.d (.tuple [X, .tuple (ps.map Pn.D)])] = .ok (.m (gridM ps)) := by
  rw [call_go h rfl (st := [some (.d (.tuple [X, .tuple (ps.map Pn.D)])), none, none, none, none, none]) rfl]
  simp [f28_law_grid]
  refine for_go (· = _) (fun z => outK (seqK _ _ z)) (V := Option R × Option R × Option R × Option R) (fun a => .tuple [.int a.2, a.1.D]) ps.zipIdx
    (fun pre v => [some (.d (.tuple [X, .tuple (ps.map Pn.D)])), some (.n (puts [] (pre.flatMap paneW))), v.1, v.2.1, v.2.2.1, v.2.2.2]) (fun _ _ => True) (none, none, none, none)
    (by simp [enum_D]) rfl trivial ?_ ?_
  · rintro pre ⟨p, i⟩ post ⟨v1, v2, v3, v4⟩ hpre -
    have hm : (p, i) ∈ ps.zipIdx := by rw [← hpre]; simp
    have hp : p ∈ ps := List.mem_zipIdx' hm |>.2 ▸ List.getElem_mem _
    obtain ⟨b1, b2, b3, b4⟩ := hb p hp
    have hplen : pre.length ≤ 100 := by
      have := congrArg List.length hpre
      simp at this; omega
    have hpre400 : (puts [] (pre.flatMap paneW)).length ≤ 100 * 400 := by
      have h1 := puts_len (pre.flatMap paneW) []
      have h2 := flat_le (f := paneW) (k := 400) pre (fun a ha => pane_le (hb a.1 (by
        have : a ∈ ps.zipIdx := by rw [← hpre]; simp [ha]
        exact List.mem_zipIdx' this |>.2 ▸ List.getElem_mem _)))
      have : pre.length * 400 ≤ 100 * 400 := Nat.mul_le_mul hplen (Nat.le_refl _)
      simp only [List.length_nil] at h1; omega
    simp
    rw [puts_app]
    generalize hM : puts [] (pre.flatMap paneW) = M at hpre400
    refine for_go (Nx _ _) (fun z => seqK _ _ z) (V := Option R × Option R) PyData.int (irange p.t (p.t + p.h))
      (fun pre v => [some (.d (.tuple [X, .tuple (ps.map Pn.D)])), some (.n (puts M (pre.flatMap (rowW p i)))), some (.d (.int i)), some (.d p.D), v.1, v.2]) (fun _ _ => True) (v3, v4)
      (by simp; exact rngG_ok (by omega) (by omega) (by omega) (by omega)) rfl trivial ?_ ?_
    · rintro pre' y post' ⟨v3, v4⟩ hpre' -
      have hl' : (puts M (pre'.flatMap (rowW p i))).length ≤ 100 * 400 + 400 := by
        have h1 := puts_len (pre'.flatMap (rowW p i)) M
        have h2 := flat_le (f := rowW p i) (k := 20) pre' (fun a ha => by rw [rowW_len]; omega)
        have h3 := congrArg List.length hpre'
        rw [len_irange] at h3
        simp at h3
        have : pre'.length * 20 ≤ 20 * 20 := Nat.mul_le_mul (by omega) (Nat.le_refl _)
        omega
      simp
      rw [puts_app]
      generalize hM' : puts M (pre'.flatMap (rowW p i)) = M' at hl'
      refine for_go (Nx _ _) (fun z => seqK _ _ z) (V := Option R) PyData.int (irange p.l (p.l + p.w))
        (fun pre v => [some (.d (.tuple [X, .tuple (ps.map Pn.D)])), some (.n (puts M' (pre.map fun x => ([x, y], .int i)))), some (.d (.int i)), some (.d p.D), some (.d (.int y)), v]) (fun _ _ => True) v4
        (by simp; exact rngG_ok (by omega) (by omega) (by omega) (by omega)) rfl trivial ?_ ?_
      · rintro pre'' x post'' v4 hpre'' -
        have h1 := puts_len (pre''.map fun x => ([x, y], PyData.int i)) M'
        have h3 := congrArg List.length hpre''
        rw [len_irange] at h3
        simp at h3
        rw [List.length_map] at h1
        simp
        rw [mput2 (by rw [lim_eq]; omega)]
        simp
        refine Nx.mk (some (.d (.int x))) ?_ trivial
        rw [puts_app]; rfl
      · rintro v4 -
        simp
        exact Nx.mk (_, _) rfl trivial
    · rintro ⟨v3, v4⟩ -
      simp
      exact Nx.mk (_, _, _, _) rfl trivial
  · rintro ⟨v1, v2, v3, v4⟩ -
    simp [rtmS, gridM, gridW]
end PP

set_option Elab.async false
set_option linter.all false
set_option autoImplicit false
set_option maxRecDepth 100000
set_option maxHeartbeats 1000000
namespace PP
open PySem
variable {T : Nat → Option Fn} {n : Nat}
theorem bools_map {α : Type} (q : α → Bool) : ∀ as : List α, bools? (as.map fun a => .bool (q a)) = some (as.map q)
  | [] => rfl
  | a :: as => by rw [List.map_cons, bools?, bools_map q as]; rfl
@[simp] theorem any_map {α : Type} (q : α → Bool) (as : List α) : bltR .any [.l (as.map fun a => .bool (q a))] = .ok (.d (.bool (as.any q))) := by
  show (match bools? (as.map fun a => .bool (q a)) with | some bs => Rs.ok (R.d (.bool (bs.any id))) | none => .bad) = _
  rw [bools_map]; simp [List.any_map]
@[simp] theorem all_map {α : Type} (q : α → Bool) (as : List α) : bltR .all [.l (as.map fun a => .bool (q a))] = .ok (.d (.bool (as.all q))) := by
  show (match bools? (as.map fun a => .bool (q a)) with | some bs => Rs.ok (R.d (.bool (bs.all id))) | none => .bad) = _
  rw [bools_map]; simp [List.all_map]
/-- a tuple or a list -/
def sq (c : Bool) (xs : List D) : D := match c with
  | true => .tuple xs
  | false => .list xs
@[simp] theorem itm_sq (c : Bool) (xs : List D) : (R.d (sq c xs)).itm = .ok xs := by cases c <;> rfl
@[simp] theorem len_sq (c : Bool) (xs : List D) : bltR .len [.d (sq c xs)] = .ok (.d (.int xs.length)) := by cases c <;> rfl
/-- lines -/
def lineB (s : Bool) (ps : List Pn) (c : Int) : Bool := !ps.any fun p => decide (p.lo s < c) && decide (c < p.lo s + p.sz s)
theorem lineB_iff {s : Bool} {ps : List Pn} {c : Int} : lineB s ps c = true ↔ isLine s ps c := by
  simp [lineB, isLine]
def linesL (s : Bool) (P : Pn) (ps : List Pn) : List Int := (irange (P.lo s + 1) (P.lo s + P.sz s)).filter (lineB s ps)
theorem mem_linesL {s : Bool} {P : Pn} {ps : List Pn} {c : Int} : c ∈ linesL s P ps ↔ (P.lo s < c ∧ c < P.lo s + P.sz s) ∧ isLine s ps c := by
  rw [linesL, List.mem_filter, mem_irange, lineB_iff]
  constructor
  · rintro ⟨h1, h2⟩; exact ⟨⟨by omega, by omega⟩, h2⟩
  · rintro ⟨h1, h2⟩; exact ⟨⟨by omega, by omega⟩, h2⟩
theorem linesL_len (s : Bool) (P : Pn) (ps : List Pn) : (linesL s P ps).length ≤ (P.sz s).toNat := by
  have := List.length_filter_le (lineB s ps) (irange (P.lo s + 1) (P.lo s + P.sz s))
  rw [len_irange] at this
  unfold linesL; omega
theorem c_lines_in (h : T 26 = some f26_lines_in) {P : Pn} (hP : PnB P) (c : Bool) {ps : List Pn} (hl : ps.length ≤ lim) :
    call T (n + 1) 26 [.d P.D, .d (sq c (ps.map Pn.D))] = .ok (.d (.tuple [.list ((linesL true P ps).map .int), .list ((linesL false P ps).map .int)])) := by
  obtain ⟨b1, b2, b3, b4⟩ := hP
  rw [call_go h rfl (st := [some (.d P.D), some (.d (sq c (ps.map Pn.D))), none, none, none, none, none, none, none, none, none]) rfl]
  simp [f26_lines_in]
  rw [lcf_nm PyData.int (lineB true ps) PyData.int (irange (P.l + 1) (P.l + P.w)) (by simp; exact rngG_ok (by omega) (by omega) (by omega) (by omega)) (by rw [len_irange, lim_eq]; omega) (by
    intro x hx
    simp
    rw [lc_nm Pn.D (fun p => .bool (decide (p.l < x) && decide (x < p.l + p.w))) ps (by simp) hl (by
      intro p hp
      by_cases h1 : p.l < x <;> simp [h1])]
    simp [lineB, Pn.lo, Pn.sz]; rfl)]
  simp
  rw [lcf_nm PyData.int (lineB false ps) PyData.int (irange (P.t + 1) (P.t + P.h)) (by simp; exact rngG_ok (by omega) (by omega) (by omega) (by omega)) (by rw [len_irange, lim_eq]; omega) (by
    intro x hx
    simp
    rw [lc_nm Pn.D (fun p => .bool (decide (p.t < x) && decide (x < p.t + p.h))) ps (by simp) hl (by
      intro p hp
      by_cases h1 : p.t < x <;> simp [h1])]
    simp [lineB, Pn.lo, Pn.sz]; rfl)]
  simp [linesL, Pn.lo, Pn.sz]
@[simp 2000] theorem add_zw (w g : Int) : binR .add (.d (wD 0 0)) (.d (wD w g)) = .ok (.d (Pn.mk 0 0 w g).D) := id rfl
theorem c_lines (h26 : T 26 = some f26_lines_in) (h : T 29 = some f29_lines) {W H : Int} (hW : 0 ≤ W ∧ W ≤ 20) (hH : 0 ≤ H ∧ H ≤ 20) {ps : List Pn} (hl : ps.length ≤ lim) :
    call T (n + 2) 29 [.d (pcD W H ps)] = .ok (.d (.tuple [.tuple ((linesL true ⟨0, 0, W, H⟩ ps).map .int), .tuple ((linesL false ⟨0, 0, W, H⟩ ps).map .int)])) := by
  have e := c_lines_in (n := n) h26 (P := ⟨0, 0, W, H⟩) ⟨by simp, by simp, hW, hH⟩ true hl
  rw [call_go h rfl (st := [some (.d (pcD W H ps)), none, none, none, none]) rfl]
  simp only [sq] at e
  simp [f29_lines, pcD, e]
/-! ### the law's lines -/
/-- a value of the grid -/
def gv (m : Mp) (x y : Int) : Int := match valM m [x, y] with
  | some (.int i) => i
  | _ => -1
structure Gr (m : Mp) (P : Pn) (ps : List Pn) : Prop where
  val : ∀ x y, P.has x y → valM m [x, y] = some (.int (gv m x y))
  same : ∀ x y x' y', P.has x y → P.has x' y' → (gv m x y = gv m x' y' ↔ ∃ p ∈ ps, p.has x y ∧ p.has x' y')
theorem zipIdx_mem {α : Type} {as : List α} {a : α} {i : Nat} : (a, i) ∈ as.zipIdx ↔ as[i]? = some a := by
  rw [List.mem_zipIdx_iff_getElem?]
theorem mem_gridW {ps : List Pn} {x y : Int} {d : D} : ([x, y], d) ∈ gridW ps ↔ ∃ (i : Nat) (p : Pn), ps[i]? = some p ∧ p.has x y ∧ d = .int i := by
  simp only [gridW, paneW, rowW, List.mem_flatMap, List.mem_map, mem_irange, Prod.exists, Prod.mk.injEq, List.cons.injEq, and_true]
  constructor
  · rintro ⟨p, i, h1, y', h2, x', h3, ⟨rfl, rfl⟩, rfl⟩
    exact ⟨i, p, zipIdx_mem.mp h1, ⟨h3.1, h3.2, h2.1, h2.2⟩, rfl⟩
  · rintro ⟨i, p, h1, h2, rfl⟩
    exact ⟨p, i, zipIdx_mem.mpr h1, y, ⟨h2.2.2.1, h2.2.2.2⟩, x, ⟨h2.1, h2.2.1⟩, ⟨rfl, rfl⟩, rfl⟩
theorem nodup_idx {ps : List Pn} (h : ps.Nodup) {i j : Nat} {p : Pn} (h1 : ps[i]? = some p) (h2 : ps[j]? = some p) : i = j := by
  obtain ⟨a1, a2⟩ := List.getElem?_eq_some_iff.mp h1
  obtain ⟨b1, b2⟩ := List.getElem?_eq_some_iff.mp h2
  exact (List.getElem_inj h).mp (a2.trans b2.symm)
theorem grid_val {P : Pn} {ps : List Pn} (h : Til P ps) {i : Nat} {p : Pn} (hi : ps[i]? = some p) {x y : Int} (hx : p.has x y) : valM (gridM ps) [x, y] = some (.int i) := by
  refine valM_puts _ _ _ _ (.inl (mem_gridW.mpr ⟨i, p, hi, hx, rfl⟩)) fun d' hd => ?_
  obtain ⟨j, q, hj, hh', rfl⟩ := mem_gridW.mp hd
  have e := h.dis p (List.mem_of_getElem? hi) q (List.mem_of_getElem? hj) x y hx hh'
  subst e
  rw [nodup_idx h.nd hi hj]
theorem Til.at {P : Pn} {ps : List Pn} (h : Til P ps) {x y : Int} (hx : P.has x y) : ∃ (i : Nat) (p : Pn), ps[i]? = some p ∧ p.has x y := by
  obtain ⟨p, hp, hh⟩ := h.cov x y hx
  obtain ⟨i, hi⟩ := List.getElem?_of_mem hp
  exact ⟨i, p, hi, hh⟩
theorem gr_mk {P : Pn} {ps : List Pn} (h : Til P ps) : Gr (gridM ps) P ps := by
  have key : ∀ {i : Nat} {p : Pn} {x y : Int}, ps[i]? = some p → p.has x y → gv (gridM ps) x y = i := by
    intro i p x y hi hx
    unfold gv; rw [grid_val h hi hx]
  refine ⟨fun x y hx => ?_, fun x y x' y' hx hx' => ?_⟩
  · obtain ⟨i, p, hi, hp⟩ := h.at hx
    rw [key hi hp, grid_val h hi hp]
  · obtain ⟨i, p, hi, hp⟩ := h.at hx
    obtain ⟨j, q, hj, hq⟩ := h.at hx'
    rw [key hi hp, key hj hq]
    constructor
    · intro z
      have : i = j := by omega
      subst this
      rw [hi] at hj
      cases hj
      exact ⟨p, List.mem_of_getElem? hi, hp, hq⟩
    · rintro ⟨r, hr, r1, r2⟩
      have e1 := h.dis p (List.mem_of_getElem? hi) r hr x y hp r1
      have e2 := h.dis q (List.mem_of_getElem? hj) r hr x' y' hq r2
      subst e1
      subst e2
      rw [nodup_idx h.nd hi hj]
/-- of a part -/
theorem Gr.part {m : Mp} {P Q : Pn} {ps qs : List Pn} (g : Gr m P ps) (h : Til P ps) (h' : Til Q qs) (hs : ∀ p ∈ qs, p ∈ ps) (hQ : Q.sub P) : Gr m Q qs := by
  have hh : ∀ {x y}, Q.has x y → P.has x y := fun hx => by simp only [Pn.has, Pn.sub] at *; omega
  refine ⟨fun x y hx => g.val x y (hh hx), fun x y x' y' hx hx' => ?_⟩
  rw [g.same x y x' y' (hh hx) (hh hx')]
  constructor
  · rintro ⟨p, hp, h1, h2⟩
    obtain ⟨q, hq, h3⟩ := h'.cov x y hx
    have := h.dis p hp q (hs q hq) x y h1 h3
    subst this
    exact ⟨p, hq, h1, h2⟩
  · rintro ⟨p, hp, r⟩; exact ⟨p, hs p hp, r⟩
def thrB (s : Bool) (m : Mp) (P : Pn) (c : Int) : Bool := match s with
  | true => ((irange P.t (P.t + P.h)).filter fun y => decide (gv m c y = gv m (c - 1) y)).isEmpty
  | false => ((irange P.l (P.l + P.w)).filter fun x => decide (gv m x c = gv m x (c - 1))).isEmpty
theorem thr_line {s : Bool} {m : Mp} {P : Pn} {ps : List Pn} (g : Gr m P ps) (h : Til P ps) {c : Int} (hc : P.lo s < c ∧ c < P.lo s + P.sz s) : thrB s m P c = lineB s ps c := by
  rw [Bool.eq_iff_iff, lineB_iff]
  cases s
  · simp only [Pn.lo, Pn.sz] at hc
    simp only [thrB, List.isEmpty_iff, List.filter_eq_nil_iff, mem_irange, decide_eq_true_eq, isLine, Pn.lo, Pn.sz]
    constructor
    · intro z p hp q
      obtain ⟨a, b⟩ := h.inn p hp
      simp only [Pn.pos, Pn.sub] at a b
      refine z p.l (by omega) ?_
      rw [g.same _ _ _ _ (by simp only [Pn.has]; omega) (by simp only [Pn.has]; omega)]
      exact ⟨p, hp, by simp only [Pn.has]; omega, by simp only [Pn.has]; omega⟩
    · intro z x hx e
      rw [g.same _ _ _ _ (by simp only [Pn.has]; omega) (by simp only [Pn.has]; omega)] at e
      obtain ⟨p, hp, r1, r2⟩ := e
      simp only [Pn.has] at r1 r2
      exact z p hp (by omega)
  · simp only [Pn.lo, Pn.sz] at hc
    simp only [thrB, List.isEmpty_iff, List.filter_eq_nil_iff, mem_irange, decide_eq_true_eq, isLine, Pn.lo, Pn.sz]
    constructor
    · intro z p hp q
      obtain ⟨a, b⟩ := h.inn p hp
      simp only [Pn.pos, Pn.sub] at a b
      refine z p.t (by omega) ?_
      rw [g.same _ _ _ _ (by simp only [Pn.has]; omega) (by simp only [Pn.has]; omega)]
      exact ⟨p, hp, by simp only [Pn.has]; omega, by simp only [Pn.has]; omega⟩
    · intro z x hx e
      rw [g.same _ _ _ _ (by simp only [Pn.has]; omega) (by simp only [Pn.has]; omega)] at e
      obtain ⟨p, hp, r1, r2⟩ := e
      simp only [Pn.has] at r1 r2
      exact z p hp (by omega)
end PP

set_option Elab.async false
set_option linter.all false
set_option autoImplicit false
set_option maxRecDepth 100000
set_option maxHeartbeats 1000000
namespace PP
open PySem
variable {T : Nat → Option Fn} {n : Nat}
theorem eqv_nil (xs : List D) : PyData.eqv (.list xs) (.list []) = xs.isEmpty := by
  show PyData.eqvAll xs [] = _
  cases xs <;> simp [PyData.eqvAll]
@[simp] theorem eq_nil_ll (xs : List D) : eqR (.l xs) (.l []) = .ok xs.isEmpty := by
  show (if (true && true && shallow (.list xs) (.list [])) then Rs.ok (PyData.eqv (.list xs) (.list [])) else .bad) = _
  rw [shallow_r (by simp [PyData.depth, PyData.depthAll]), eqv_nil]; rfl
@[simp] theorem eq_nil_Ll (xs : List D) : eqR (.d (.list xs)) (.l []) = .ok xs.isEmpty := by
  show (if (true && true && shallow (.list xs) (.list [])) then Rs.ok (PyData.eqv (.list xs) (.list [])) else .bad) = _
  rw [shallow_r (by simp [PyData.depth, PyData.depthAll]), eqv_nil]; rfl
@[simp] theorem slotM_m (kvs : Mp) (ρ : Sto) : slotM (some (.m kvs) :: ρ) 0 = some kvs := id rfl
theorem isEmpty_map' {α β : Type} (f : α → β) (xs : List α) : (xs.map f).isEmpty = xs.isEmpty := by cases xs <;> rfl
theorem c_through (h : T 27 = some f27_law_through) {m : Mp} {P : Pn} {ps : List Pn} (hP : PnB P) (g : Gr m P ps) (ht : Til P ps) :
    call T (n + 1) 27 [.m m, .d P.D] = .ok (.d (.tuple [.list ((linesL true P ps).map .int), .list ((linesL false P ps).map .int)])) := by
  obtain ⟨b1, b2, b3, b4⟩ := hP
  rw [call_go h rfl (st := [some (.m m), some (.d P.D), none, none, none, none, none, none, none, none]) rfl]
  simp [f27_law_through]
  refine for_go (· = _) (fun z => outK (seqK _ _ z)) (V := Option R) PyData.int (irange (P.l + 1) (P.l + P.w))
    (fun pre v => [some (.m m), some (.d P.D), some (.l ((pre.filter (lineB true ps)).map .int)), v, none, none, some (.d (.int P.l)), some (.d (.int P.t)), some (.d (.int P.w)), some (.d (.int P.h))]) (fun _ _ => True) none
    (by simp; exact rngG_ok (by omega) (by omega) (by omega) (by omega)) rfl trivial ?_ ?_
  · rintro pre c post v hpre -
    have hc : c ∈ irange (P.l + 1) (P.l + P.w) := by rw [← hpre]; simp
    have hpl : pre.length ≤ 100 := by
      have := congrArg List.length hpre
      rw [len_irange] at this; simp at this; omega
    rw [mem_irange] at hc
    have ht' := thr_line (s := true) (c := c) g ht (by simp only [Pn.lo, Pn.sz]; omega)
    simp
    rw [lcf_nm PyData.int (fun y => decide (gv m c y = gv m (c - 1) y)) PyData.int (irange P.t (P.t + P.h)) (by simp; exact rngG_ok (by omega) (by omega) (by omega) (by omega)) (by rw [len_irange, lim_eq]; omega) (by
      intro y hy
      rw [mem_irange] at hy
      have v1 := g.val c y (by simp only [Pn.has]; omega)
      have v2 := g.val (c - 1) y (by simp only [Pn.has]; omega)
      simp [mget2 v1, mget2 v2])]
    simp only [thrB] at ht'
    simp [ht', isEmpty_map']
    have hal := List.length_filter_le (lineB true ps) pre
    cases hL : lineB true ps c with
    | true =>
      simp
      rw [appS_ok (by simp [lim_eq]; omega)]
      simp
      exact Nx.mk (some (.d (.int c))) (by simp [hL]) trivial
    | false =>
      simp
      exact Nx.mk (some (.d (.int c))) (by simp [hL]) trivial
  · rintro v -
    simp
    refine for_go (· = _) (fun z => outK (seqK _ _ z)) (V := Option R) PyData.int (irange (P.t + 1) (P.t + P.h))
      (fun pre w => [some (.m m), some (.d P.D), some (.l (((irange (P.l + 1) (P.l + P.w)).filter (lineB true ps)).map .int)), v, some (.l ((pre.filter (lineB false ps)).map .int)), w, some (.d (.int P.l)), some (.d (.int P.t)), some (.d (.int P.w)), some (.d (.int P.h))]) (fun _ _ => True) none
      (by simp; exact rngG_ok (by omega) (by omega) (by omega) (by omega)) rfl trivial ?_ ?_
    · rintro pre c post w hpre -
      have hc : c ∈ irange (P.t + 1) (P.t + P.h) := by rw [← hpre]; simp
      have hpl : pre.length ≤ 100 := by
        have := congrArg List.length hpre
        rw [len_irange] at this; simp at this; omega
      rw [mem_irange] at hc
      have ht' := thr_line (s := false) (c := c) g ht (by simp only [Pn.lo, Pn.sz]; omega)
      simp
      rw [lcf_nm PyData.int (fun x => decide (gv m x c = gv m x (c - 1))) PyData.int (irange P.l (P.l + P.w)) (by simp; exact rngG_ok (by omega) (by omega) (by omega) (by omega)) (by rw [len_irange, lim_eq]; omega) (by
        intro y hy
        rw [mem_irange] at hy
        have v1 := g.val y c (by simp only [Pn.has]; omega)
        have v2 := g.val y (c - 1) (by simp only [Pn.has]; omega)
        simp [mget2 v1, mget2 v2])]
      simp only [thrB] at ht'
      simp [ht', isEmpty_map']
      have hal := List.length_filter_le (lineB false ps) pre
      cases hL : lineB false ps c with
      | true =>
        simp
        rw [appS_ok (by simp [lim_eq]; omega)]
        simp
        exact Nx.mk (some (.d (.int c))) (by simp [hL]) trivial
      | false =>
        simp
        exact Nx.mk (some (.d (.int c))) (by simp [hL]) trivial
    · rintro w -
      simp [linesL, Pn.lo, Pn.sz]
end PP

set_option Elab.async false
set_option linter.all false
set_option autoImplicit false
set_option maxRecDepth 100000
set_option maxHeartbeats 1000000
namespace PP
open PySem
variable {T : Nat → Option Fn} {n : Nat}
theorem c_cell' (h : TB T) (ns : List Int) {k : Int} (hk : 0 ≤ k) : ∃ c : Int, call T (n + 1) 14 [.s (ns.map PyData.int), .d (.int k)] = .ok (.d (.int c)) := by
  obtain ⟨j, rfl⟩ : ∃ j : Nat, k = j := ⟨k.toNat, by omega⟩
  exact c_cell h.cell ns j
theorem Pict.b {W H : Int} {ps : List Pn} (h : Pict W H ps) : ∀ p ∈ ps, PnB p := by
  intro p hp
  have a := (h.til.inn p hp).2
  have b := (h.til.inn p hp).1
  have := h.w
  have := h.h
  simp only [Pn.sub, Pn.pos, PnB] at *
  omega
theorem Pict.B {W H : Int} {ps : List Pn} (h : Pict W H ps) : PnB ⟨0, 0, W, H⟩ := by
  have := h.w
  have := h.h
  simp only [PnB]
  omega
theorem Pict.lim {W H : Int} {ps : List Pn} (h : Pict W H ps) : ps.length ≤ lim := by
  have := h.len
  rw [lim_eq]; omega
@[simp] theorem pcD_0 (W H : Int) (ps : List Pn) : idxR (.d (pcD W H ps)) (.d (.int 0)) = .ok (.d (wD W H)) := idx0 ..
@[simp] theorem pcD_1 (W H : Int) (ps : List Pn) : idxR (.d (pcD W H ps)) (.d (.int 1)) = .ok (.d (.tuple (ps.map Pn.D))) := idx1 ..
theorem depth_ints (ns : List Int) : PyData.depthAll (ns.map .int) = 0 := by
  induction ns with
  | nil => simp [PyData.depthAll]
  | cons a as ih => simp [PyData.depthAll, PyData.depth, ih]
/-- two rows of ints in a tuple -/
def twoD (xs ys : List Int) : D := .tuple [.tuple (xs.map .int), .tuple (ys.map .int)]
theorem plain_two {xs ys : List Int} (h1 : xs.length ≤ lim) (h2 : ys.length ≤ lim) : plain (twoD xs ys) = true := by
  simp [twoD, plain, plainAll, plain_ints, h1, h2, lim_eq]
  rw [lim_eq] at h1 h2
  omega
theorem depth_two (xs ys : List Int) : (twoD xs ys).depth ≤ 3 := by
  simp [twoD, PyData.depth, PyData.depthAll, depth_ints]
structure K04 (T : Nat → Option Fn) : Prop where
  w : TW T
  same : T 24 = some f24_law_same
  lines_in : T 26 = some f26_lines_in
  through : T 27 = some f27_law_through
  grid : T 28 = some f28_law_grid
  lines : T 29 = some f29_lines
theorem k04_true (h : K04 T) (hl : T 110 = some f110_law) (ns : List Int) : call T 60 110 [.s (ns.map PyData.int)] = .ok (.d (.bool true)) := by
  rw [call_go hl rfl (st := [some (.s (ns.map PyData.int)), none, none, none, none]) rfl]
  simp [f110_law]
  refine for_go (· = _) (fun z => outK (seqK _ _ z)) (V := Option R × Option R × Option R × Option R) PyData.int (irange 0 16)
    (fun pre v => [some (.s (ns.map PyData.int)), v.1, v.2.1, v.2.2.1, v.2.2.2]) (fun _ _ => True) (none, none, none, none)
    (by simp; exact rngF_ok (j := 16) (by decide) (by decide)) rfl trivial ?_ ?_
  · rintro pre i post ⟨v1, v2, v3, v4⟩ hpre -
    have hi : i ∈ irange 0 16 := by rw [← hpre]; simp
    rw [mem_irange] at hi
    obtain ⟨c, ec⟩ := c_cell' (n := 58) h.w.b ns (k := i % 9) (by omega)
    have h31 := mul_ii' (i := 31) (j := i) (by decide)
    obtain ⟨W, H, ps, ep, pc⟩ := c_lpicture (n := 39) h.w (c + 31 * i)
    have eg := c_grid (n := 58) h.grid (X := wD W H) pc.b (by have := pc.len; omega)
    have et := c_through (n := 58) h.through pc.B (gr_mk pc.til) pc.til
    have el := c_lines (n := 57) h.lines_in h.lines (W := W) (H := H) (by have := pc.w; omega) (by have := pc.h; omega) pc.lim
    have l1 := linesL_len true ⟨0, 0, W, H⟩ ps
    have l2 := linesL_len false ⟨0, 0, W, H⟩ ps
    have := pc.w
    have := pc.h
    simp only [Pn.sz] at l1 l2
    have es := c_same h.same 59 (twoD (linesL true ⟨0, 0, W, H⟩ ps) (linesL false ⟨0, 0, W, H⟩ ps)) (plain_two (by rw [lim_eq]; omega) (by rw [lim_eq]; omega)) (by have := depth_two (linesL true ⟨0, 0, W, H⟩ ps) (linesL false ⟨0, 0, W, H⟩ ps); omega)
    simp only [twoD] at es
    have eg' : call T 59 28 [.d (pcD W H ps)] = .ok (.m (gridM ps)) := eg
    simp [ec, h31, ep, eg', et, el, es]
    exact Nx.mk (some (.d (.int i)), _, _, _) rfl trivial
  · rintro ⟨v1, v2, v3, v4⟩ -
    have el := c_lines (n := 57) h.lines_in h.lines (W := 1) (H := 1) (ps := [⟨0, 0, 1, 1⟩]) (by decide) (by decide) (by decide)
    have e2 : linesL true ⟨0, 0, 1, 1⟩ [⟨0, 0, 1, 1⟩] = [] := by decide
    have e3 : linesL false ⟨0, 0, 1, 1⟩ [⟨0, 0, 1, 1⟩] = [] := by decide
    rw [e2, e3] at el
    have el' : call T 59 29 [.d (.tuple [wD 1 1, .tuple [(Pn.mk 0 0 1 1).D]])] = .ok (.d (.tuple [.tuple [], .tuple []])) := el
    have eq : eqR (.d (.tuple [.tuple [], .tuple []])) (.d (.tuple [.tuple [], .tuple []])) = .ok true := rfl
    simp [el', eq]
end PP

set_option Elab.async false
set_option linter.all false
set_option autoImplicit false
set_option maxRecDepth 100000
set_option maxHeartbeats 1000000
namespace PP
open PySem
/-! ### lists -/
theorem nodup_len {α : Type} [DecidableEq α] : ∀ {l r : List α}, l.Nodup → (∀ x ∈ l, x ∈ r) → l.length ≤ r.length
  | [], r, _, _ => by simp
  | a :: l, r, h, hs => by
    rw [List.nodup_cons] at h
    have ha : a ∈ r := hs a (List.mem_cons_self ..)
    have := nodup_len (l := l) (r := r.erase a) h.2 (fun x hx => by
      have hne : x ≠ a := fun e => h.1 (e ▸ hx)
      rw [List.mem_erase_of_ne hne]
      exact hs x (List.mem_cons_of_mem _ hx))
    rw [List.length_erase_of_mem ha] at this
    have : 0 < r.length := List.length_pos_of_mem ha
    simp only [List.length_cons]; omega
theorem nodup_all {α : Type} [DecidableEq α] {l r : List α} (h : l.Nodup) (hr : r.Nodup) (hs : ∀ x ∈ l, x ∈ r) (hl : r.length ≤ l.length) : ∀ x ∈ r, x ∈ l := by
  intro x hx
  by_cases hn : x ∈ l
  · exact hn
  · have := nodup_len (l := x :: l) (r := r) (List.nodup_cons.mpr ⟨hn, h⟩) (fun y hy => by
      rcases List.mem_cons.mp hy with e | e
      · exact e ▸ hx
      · exact hs y e)
    simp only [List.length_cons] at this; omega
/-! ### the parts of a cut -/
theorem Til.pos {P : Pn} {ps : List Pn} (h : Til P ps) (hp : ps ≠ []) : P.pos := by
  obtain ⟨p, hp⟩ := List.exists_mem_of_ne_nil ps hp
  have a := (h.inn p hp).1
  have b := (h.inn p hp).2
  simp only [Pn.pos, Pn.sub] at *; omega
theorem Til.ne {P : Pn} {ps : List Pn} (h : Til P ps) (hp : P.pos) : ps ≠ [] := by
  obtain ⟨p, hp, _⟩ := h.cov P.l P.t (by simp only [Pn.has, Pn.pos] at *; omega)
  exact List.ne_nil_of_mem hp
theorem Til.one {P p : Pn} (h : Til P [p]) : p = P := by
  have hp := h.pos (by simp)
  have b := (h.inn p (by simp)).2
  obtain ⟨q, hq, c1⟩ := h.cov P.l P.t (by simp only [Pn.has, Pn.pos] at *; omega)
  obtain ⟨r, hr, c2⟩ := h.cov (P.l + P.w - 1) (P.t + P.h - 1) (by simp only [Pn.has, Pn.pos] at *; omega)
  simp at hq hr
  subst hq; subst hr
  cases r; cases P
  simp only [Pn.has, Pn.sub, Pn.mk.injEq] at *
  omega
theorem c1_pos {P : Pn} {s : Bool} {c : Int} (h : P.pos) (hc : P.lo s < c ∧ c < P.lo s + P.sz s) : (P.c1 s c).pos := by
  cases s <;> simp only [Pn.pos, Pn.c1, Pn.lo, Pn.sz] at * <;> omega
theorem c2_pos {P : Pn} {s : Bool} {c : Int} (h : P.pos) (hc : P.lo s < c ∧ c < P.lo s + P.sz s) : (P.c2 s c).pos := by
  cases s <;> simp only [Pn.pos, Pn.c2, Pn.lo, Pn.sz] at * <;> omega
theorem split_len (s : Bool) (c : Int) : ∀ ps : List Pn, (fst s c ps).length + (snd s c ps).length = ps.length
  | [] => rfl
  | p :: ps => by
    have := split_len s c ps
    unfold fst snd at *
    by_cases h : p.lo s < c
    · rw [List.filter_cons_of_pos (by simpa using h), List.filter_cons_of_neg (by simp; omega)]
      simp only [List.length_cons]; omega
    · rw [List.filter_cons_of_neg (by simpa using h), List.filter_cons_of_pos (by simp; omega)]
      simp only [List.length_cons]; omega
theorem split_perm (s : Bool) (c : Int) (ps : List Pn) : (fst s c ps ++ snd s c ps).Perm ps := by
  have e : snd s c ps = ps.filter fun p => !decide (p.lo s < c) := by
    unfold snd
    refine List.filter_congr fun p _ => ?_
    by_cases h : p.lo s < c
    · simp [h]
    · simp [h]; omega
  rw [e]
  exact List.filter_append_perm _ _
theorem Til.lens {P : Pn} {ps : List Pn} (h : Til P ps) (hP : P.pos) {s : Bool} {c : Int} (hc : c ∈ linesL s P ps) : 1 ≤ (PP.fst s c ps).length ∧ 1 ≤ (PP.snd s c ps).length ∧ (PP.fst s c ps).length + (PP.snd s c ps).length = ps.length := by
  rw [mem_linesL] at hc
  have a := (h.fst hc.1 hc.2).ne (c1_pos hP hc.1)
  have b := (h.snd hc.1 hc.2).ne (c2_pos hP hc.1)
  exact ⟨List.length_pos_iff.mpr a, List.length_pos_iff.mpr b, split_len s c ps⟩
/-! ### all trees -/
def cutsL (P : Pn) (ps : List Pn) : List (Bool × Int) := (linesL true P ps).map (fun c => (true, c)) ++ (linesL false P ps).map (fun c => (false, c))
theorem mem_cutsL {P : Pn} {ps : List Pn} {a : Bool × Int} : a ∈ cutsL P ps ↔ a.2 ∈ linesL a.1 P ps := by
  obtain ⟨s, c⟩ := a
  simp only [cutsL, List.mem_append, List.mem_map, Prod.mk.injEq]
  cases s <;> simp
def treesF : Nat → Pn → List Pn → List Tr
  | 0, _, _ => []
  | k + 1, P, ps => if ps.length = 1 then [.pane] else (cutsL P ps).flatMap fun a => (treesF k (P.c1 a.1 a.2) (fst a.1 a.2 ps)).flatMap fun x => (treesF k (P.c2 a.1 a.2) (snd a.1 a.2 ps)).map fun y => .cut a.1 (a.2 - P.lo a.1) x y
/-- how many lines there can be -/
theorem lines_le {P : Pn} {ps : List Pn} (h : Til P ps) (hP : P.pos) : (cutsL P ps).length + 1 ≤ ps.length := by
  have key : ∀ a ∈ cutsL P ps, ∃ p ∈ ps, (a.1 = true → p.l = a.2 ∧ p.t = P.t) ∧ (a.1 = false → p.l = P.l ∧ p.t = a.2) := by
    rintro ⟨s, c⟩ ha
    rw [mem_cutsL, mem_linesL] at ha
    obtain ⟨h1, h2⟩ := ha
    cases s
    · simp only [Pn.lo, Pn.sz] at h1
      obtain ⟨p, hp, hh⟩ := h.cov P.l c (by simp only [Pn.has, Pn.pos] at *; omega)
      have := (h.inn p hp).2
      have := h2 p hp
      simp only [Pn.has, Pn.sub, Pn.lo, Pn.sz] at *
      exact ⟨p, hp, by simp, fun _ => ⟨by omega, by omega⟩⟩
    · simp only [Pn.lo, Pn.sz] at h1
      obtain ⟨p, hp, hh⟩ := h.cov c P.t (by simp only [Pn.has, Pn.pos] at *; omega)
      have := (h.inn p hp).2
      have := h2 p hp
      simp only [Pn.has, Pn.sub, Pn.lo, Pn.sz] at *
      exact ⟨p, hp, fun _ => ⟨by omega, by omega⟩, by simp⟩
  obtain ⟨p0, hp0, h0⟩ := h.cov P.l P.t (by simp only [Pn.has, Pn.pos] at *; omega)
  have hc0 : p0.l = P.l ∧ p0.t = P.t := by
    have := (h.inn p0 hp0).2
    simp only [Pn.has, Pn.sub] at *; omega
  have nd : (cutsL P ps).Nodup := by
    unfold cutsL
    have ndl : ∀ s, (linesL s P ps).Nodup := fun s => ((irange_lt _ _).imp (fun h e => by omega)).filter _
    rw [List.nodup_append]
    refine ⟨?_, ?_, ?_⟩
    · exact List.pairwise_map.mpr ((ndl true).imp fun h e => h (by simpa using e))
    · exact List.pairwise_map.mpr ((ndl false).imp fun h e => h (by simpa using e))
    · intro a ha b hb e
      simp only [List.mem_map] at ha hb
      obtain ⟨x, _, rfl⟩ := ha
      obtain ⟨y, _, rfl⟩ := hb
      simp at e
  -- the corners: a place for each line
  let cor : Bool × Int → Int × Int := fun a => if a.1 then (a.2, P.t) else (P.l, a.2)
  have hcor : ∀ a ∈ cutsL P ps, cor a ∈ (ps.map fun p => (p.l, p.t)) ∧ cor a ≠ (P.l, P.t) := by
    intro a ha
    obtain ⟨p, hp, h1, h2⟩ := key a ha
    rw [mem_cutsL, mem_linesL] at ha
    obtain ⟨s, c⟩ := a
    cases s
    · obtain ⟨e1, e2⟩ := h2 rfl
      refine ⟨List.mem_map.mpr ⟨p, hp, by simp [cor, e1, e2]⟩, ?_⟩
      simp only [Pn.lo] at ha
      simp [cor]; omega
    · obtain ⟨e1, e2⟩ := h1 rfl
      refine ⟨List.mem_map.mpr ⟨p, hp, by simp [cor, e1, e2]⟩, ?_⟩
      simp only [Pn.lo] at ha
      simp [cor]; omega
  have ndc : ((P.l, P.t) :: (cutsL P ps).map cor).Nodup := by
    rw [List.nodup_cons]
    refine ⟨fun hm => ?_, ?_⟩
    · obtain ⟨a, ha, e⟩ := List.mem_map.mp hm
      exact (hcor a ha).2 e
    · refine List.pairwise_map.mpr (nd.imp_of_mem ?_)
      rintro ⟨s, c⟩ ⟨s', c'⟩ ha hb hne e
      have h1 := (hcor _ ha).2
      have h2 := (hcor _ hb).2
      cases s <;> cases s' <;> simp [cor] at e h1 h2 hne <;> omega
  have := nodup_len ndc (r := ps.map fun p => (p.l, p.t)) (fun x hx => by
    rcases List.mem_cons.mp hx with e | e
    · exact List.mem_map.mpr ⟨p0, hp0, by rw [e, hc0.1, hc0.2]⟩
    · obtain ⟨a, ha, rfl⟩ := List.mem_map.mp e
      exact (hcor a ha).1)
  simp at this; omega
theorem flatMap_le {α β : Type} {f : α → List β} {k : Nat} : ∀ (as : List α), (∀ a ∈ as, (f a).length ≤ k) → (as.flatMap f).length ≤ as.length * k
  | [], _ => by simp
  | a :: as, h => by
    have := flatMap_le as fun b hb => h b (List.mem_cons_of_mem _ hb)
    have := h a (List.mem_cons_self ..)
    rw [List.flatMap_cons, List.length_append, List.length_cons, Nat.succ_mul]; omega
theorem trees_le : ∀ (k : Nat) (P : Pn) (ps : List Pn), Til P ps → P.pos → ps.length ≤ 7 → (treesF k P ps).length ≤ 6 ^ (ps.length - 1)
  | 0, P, ps, _, _, _ => by simp [treesF]
  | k + 1, P, ps, h, hP, hl => by
    unfold treesF
    by_cases h1 : ps.length = 1
    · rw [if_pos h1, h1]; simp
    · rw [if_neg h1]
      have hn := List.length_pos_iff.mpr (h.ne hP)
      have hc := lines_le h hP
      have := flatMap_le (k := 6 ^ (ps.length - 2)) (cutsL P ps) (f := fun a => (treesF k (P.c1 a.1 a.2) (fst a.1 a.2 ps)).flatMap fun x => (treesF k (P.c2 a.1 a.2) (snd a.1 a.2 ps)).map fun y => Tr.cut a.1 (a.2 - P.lo a.1) x y) (by
        rintro ⟨s, c⟩ ha
        have ha : c ∈ linesL s P ps := mem_cutsL.mp ha
        obtain ⟨q1, q2, q3⟩ := h.lens hP ha
        have hm := mem_linesL.mp ha
        have t1 := trees_le k _ _ (h.fst hm.1 hm.2) (c1_pos hP hm.1) (by omega)
        have t2 := trees_le k _ _ (h.snd hm.1 hm.2) (c2_pos hP hm.1) (by omega)
        have := flatMap_le (k := (treesF k (P.c2 s c) (snd s c ps)).length) (treesF k (P.c1 s c) (fst s c ps)) (f := fun x => (treesF k (P.c2 s c) (snd s c ps)).map fun y => Tr.cut s (c - P.lo s) x y) (fun x _ => by simp)
        have e : 6 ^ (ps.length - 2) = 6 ^ ((fst s c ps).length - 1) * 6 ^ ((snd s c ps).length - 1) := by
          rw [← Nat.pow_add]; congr 1; omega
        rw [e]
        exact Nat.le_trans this (Nat.mul_le_mul t1 t2))
      refine Nat.le_trans this ?_
      have e : 6 ^ (ps.length - 1) = 6 * 6 ^ (ps.length - 2) := by
        rw [show ps.length - 1 = (ps.length - 2) + 1 by omega, Nat.pow_succ, Nat.mul_comm]
      rw [e]
      exact Nat.mul_le_mul (by omega) (Nat.le_refl _)
/-! ### which trees these are -/
theorem tree_line {s : Bool} {k : Int} {a b : Tr} {P : Pn} (h : (Tr.cut s k a b).Fit P) : (P.lo s + k) ∈ linesL s P ((Tr.cut s k a b).pns P) ∧ fst s (P.lo s + k) ((Tr.cut s k a b).pns P) = a.pns (P.c1 s (P.lo s + k)) ∧ snd s (P.lo s + k) ((Tr.cut s k a b).pns P) = b.pns (P.c2 s (P.lo s + k)) := by
  obtain ⟨h1, h2, h3⟩ := fit_cut.mp h
  have := til_app (P := P) (s := s) (c := P.lo s + k) (by omega) (til_tree a _ h2) (til_tree b _ h3)
  exact ⟨mem_linesL.mpr ⟨by omega, this.2.1⟩, this.2.2.1, this.2.2.2⟩
theorem isLine_perm {s : Bool} {ps qs : List Pn} (e : ps.Perm qs) {c : Int} : isLine s ps c ↔ isLine s qs c :=
  ⟨fun h p hp => h p (e.mem_iff.mpr hp), fun h p hp => h p (e.mem_iff.mp hp)⟩
theorem lines_perm {s : Bool} {P : Pn} {ps qs : List Pn} (e : ps.Perm qs) {c : Int} : c ∈ linesL s P ps ↔ c ∈ linesL s P qs := by
  rw [mem_linesL, mem_linesL, isLine_perm e]
theorem count1 {t : Tr} (h : t.count = 1) : t = .pane := by
  cases t with
  | pane => rfl
  | cut s k a b =>
    have := count_pos a
    have := count_pos b
    simp only [Tr.count] at h; omega
theorem mem_treesF : ∀ (k : Nat) (P : Pn) (ps : List Pn), Til P ps → P.pos → ps.length ≤ k → ∀ t : Tr, t ∈ treesF k P ps ↔ t.Fit P ∧ (t.pns P).Perm ps
  | 0, P, ps, h, hP, hl, t => by
    have := List.length_pos_iff.mpr (h.ne hP)
    omega
  | k + 1, P, ps, h, hP, hl, t => by
    unfold treesF
    by_cases h1 : ps.length = 1
    · rw [if_pos h1]
      obtain ⟨p, rfl⟩ := List.length_eq_one_iff.mp h1
      have e := h.one
      subst e
      simp only [List.mem_singleton]
      constructor
      · rintro rfl
        exact ⟨⟨by simp only [Pn.pos] at hP; omega, by simp only [Pn.pos] at hP; omega⟩, .refl _⟩
      · rintro ⟨_, e⟩
        have := e.length_eq
        rw [pns_len] at this
        exact count1 this
    · rw [if_neg h1]
      simp only [List.mem_flatMap, List.mem_map]
      constructor
      · rintro ⟨⟨s, c⟩, ha, x, hx, y, hy, rfl⟩
        have ha : c ∈ linesL s P ps := mem_cutsL.mp ha
        obtain ⟨q1, q2, q3⟩ := h.lens hP ha
        have hm := mem_linesL.mp ha
        have t1 := (mem_treesF k _ _ (h.fst hm.1 hm.2) (c1_pos hP hm.1) (by omega) x).mp hx
        have t2 := (mem_treesF k _ _ (h.snd hm.1 hm.2) (c2_pos hP hm.1) (by omega) y).mp hy
        have e : P.lo s + (c - P.lo s) = c := by omega
        show (Tr.cut s (c - P.lo s) x y).Fit P ∧ ((Tr.cut s (c - P.lo s) x y).pns P).Perm ps
        refine ⟨fit_cut.mpr ⟨by have := hm.1; omega, by rw [e]; exact t1.1, by rw [e]; exact t2.1⟩, ?_⟩
        simp only [Tr.pns, e]
        exact (t1.2.append t2.2).trans (split_perm s c ps)
      · rintro ⟨hf, e⟩
        cases t with
        | pane =>
          have := e.length_eq
          rw [pns_len] at this
          simp only [Tr.count] at this; omega
        | cut s j a b =>
          obtain ⟨l1, l2, l3⟩ := tree_line hf
          have hc := (lines_perm e).mp l1
          obtain ⟨q1, q2, q3⟩ := h.lens hP hc
          have hm := mem_linesL.mp hc
          obtain ⟨f1, f2, f3⟩ := fit_cut.mp hf
          have e1 : (a.pns (P.c1 s (P.lo s + j))).Perm (fst s (P.lo s + j) ps) := by
            rw [← l2]; exact e.filter _
          have e2 : (b.pns (P.c2 s (P.lo s + j))).Perm (snd s (P.lo s + j) ps) := by
            rw [← l3]; exact e.filter _
          refine ⟨(s, P.lo s + j), mem_cutsL.mpr hc, a, ?_, b, ?_, by simp; omega⟩
          · exact (mem_treesF k _ _ (h.fst hm.1 hm.2) (c1_pos hP hm.1) (by omega) a).mpr ⟨f2, e1⟩
          · exact (mem_treesF k _ _ (h.snd hm.1 hm.2) (c2_pos hP hm.1) (by omega) b).mpr ⟨f3, e2⟩
end PP

set_option Elab.async false
set_option linter.all false
set_option autoImplicit false
set_option maxRecDepth 100000
set_option maxHeartbeats 1000000
namespace PP
open PySem
/-! ### parts of trees -/
def apart (p q : Pn) : Prop := ∀ x y, p.has x y → ¬ q.has x y
theorem apart_sub {p q r : Pn} (h : apart p q) (hr : r.sub q) : apart p r := fun x y hx hy => h x y hx (by simp only [Pn.has, Pn.sub] at *; omega)
theorem sub_apart {p q : Pn} (hp : p.pos) (h : p.sub q) : ¬ apart p q := fun h' => by
  refine h' p.l p.t ?_ ?_ <;> simp only [Pn.has, Pn.sub, Pn.pos] at * <;> omega
def ins (Q : Pn) (ps : List Pn) : List Pn := ps.filter fun p => decide (p.sub Q)
theorem mem_ins {Q : Pn} {ps : List Pn} {p : Pn} : p ∈ ins Q ps ↔ p ∈ ps ∧ p.sub Q := by simp [ins]
theorem sub_tree : ∀ (t : Tr) (P Q : Pn), t.Fit P → Q.pos → Q.sub P → (∀ p ∈ t.pns P, p.sub Q ∨ apart p Q) → ∃ t' : Tr, t'.Fit Q ∧ (t'.pns Q).Perm (ins Q (t.pns P))
  | .pane, P, Q, hf, hQ, hs, h => by
    have hP := hf.pos
    have e : P = Q := by
      rcases h P (by simp [Tr.pns]) with z | z
      · cases P; cases Q
        simp only [Pn.sub, Pn.mk.injEq] at *; omega
      · exfalso
        refine z Q.l Q.t ?_ ?_ <;> simp only [Pn.has, Pn.sub, Pn.pos] at * <;> omega
    subst e
    exact ⟨.pane, hf, by simp [Tr.pns, ins, Pn.sub]⟩
  | .cut s k a b, P, Q, hf, hQ, hs, h => by
    obtain ⟨f1, f2, f3⟩ := fit_cut.mp hf
    generalize hc : P.lo s + k = c at *
    have ta := til_tree a _ f2
    have tb := til_tree b _ f3
    have hpn : (Tr.cut s k a b).pns P = a.pns (P.c1 s c) ++ b.pns (P.c2 s c) := by rw [Tr.pns, hc]
    rw [hpn] at h ⊢
    have ha : ∀ p ∈ a.pns (P.c1 s c), p.sub Q ∨ apart p Q := fun p hp => h p (List.mem_append.mpr (.inl hp))
    have hb : ∀ p ∈ b.pns (P.c2 s c), p.sub Q ∨ apart p Q := fun p hp => h p (List.mem_append.mpr (.inr hp))
    have ie : ins Q (a.pns (P.c1 s c) ++ b.pns (P.c2 s c)) = ins Q (a.pns (P.c1 s c)) ++ ins Q (b.pns (P.c2 s c)) := by simp [ins]
    rw [ie]
    by_cases h1 : Q.lo s + Q.sz s ≤ c
    · -- all of it in the first part
      obtain ⟨t', q1, q2⟩ := sub_tree a (P.c1 s c) Q f2 hQ (by cases s <;> simp only [Pn.sub, Pn.c1, Pn.lo, Pn.sz] at * <;> omega) ha
      have e : ins Q (b.pns (P.c2 s c)) = [] := by
        refine List.filter_eq_nil_iff.mpr fun p hp z => ?_
        have z : p.sub Q := of_decide_eq_true z
        have y := tb.inn p hp
        cases s <;> simp only [Pn.sub, Pn.c2, Pn.lo, Pn.sz, Pn.pos] at * <;> omega
      exact ⟨t', q1, by rw [e, List.append_nil]; exact q2⟩
    · by_cases h2 : c ≤ Q.lo s
      · obtain ⟨t', q1, q2⟩ := sub_tree b (P.c2 s c) Q f3 hQ (by cases s <;> simp only [Pn.sub, Pn.c2, Pn.lo, Pn.sz] at * <;> omega) hb
        have e : ins Q (a.pns (P.c1 s c)) = [] := by
          refine List.filter_eq_nil_iff.mpr fun p hp z => ?_
          have z : p.sub Q := of_decide_eq_true z
          have y := ta.inn p hp
          cases s <;> simp only [Pn.sub, Pn.c1, Pn.lo, Pn.sz, Pn.pos] at * <;> omega
        exact ⟨t', q1, by rw [e, List.nil_append]; exact q2⟩
      · have hcQ : Q.lo s < c ∧ c < Q.lo s + Q.sz s := by omega
        have sb1 : (Q.c1 s c).sub Q := by cases s <;> simp only [Pn.sub, Pn.c1, Pn.lo, Pn.sz] at * <;> omega
        have sb2 : (Q.c2 s c).sub Q := by cases s <;> simp only [Pn.sub, Pn.c2, Pn.lo, Pn.sz] at * <;> omega
        have i1 : ∀ p ∈ a.pns (P.c1 s c), p.sub Q ↔ p.sub (Q.c1 s c) := fun p hp => by
          have y := (ta.inn p hp).2
          cases s <;> simp only [Pn.sub, Pn.c1, Pn.lo, Pn.sz] at * <;> omega
        have i2 : ∀ p ∈ b.pns (P.c2 s c), p.sub Q ↔ p.sub (Q.c2 s c) := fun p hp => by
          have y := (tb.inn p hp).2
          cases s <;> simp only [Pn.sub, Pn.c2, Pn.lo, Pn.sz] at * <;> omega
        obtain ⟨t1, q1, q2⟩ := sub_tree a (P.c1 s c) (Q.c1 s c) f2 (c1_pos hQ hcQ) (by cases s <;> simp only [Pn.sub, Pn.c1, Pn.lo, Pn.sz] at * <;> omega) (fun p hp => by
          rcases ha p hp with z | z
          · exact .inl ((i1 p hp).mp z)
          · exact .inr (apart_sub z sb1))
        obtain ⟨t2, q3, q4⟩ := sub_tree b (P.c2 s c) (Q.c2 s c) f3 (c2_pos hQ hcQ) (by cases s <;> simp only [Pn.sub, Pn.c2, Pn.lo, Pn.sz] at * <;> omega) (fun p hp => by
          rcases hb p hp with z | z
          · exact .inl ((i2 p hp).mp z)
          · exact .inr (apart_sub z sb2))
        have ec : Q.lo s + (c - Q.lo s) = c := by omega
        refine ⟨.cut s (c - Q.lo s) t1 t2, fit_cut.mpr ⟨by omega, by rw [ec]; exact q1, by rw [ec]; exact q3⟩, ?_⟩
        simp only [Tr.pns, ec]
        have e1 : ins Q (a.pns (P.c1 s c)) = ins (Q.c1 s c) (a.pns (P.c1 s c)) := List.filter_congr fun p hp => by
          rw [decide_eq_decide]; exact i1 p hp
        have e2 : ins Q (b.pns (P.c2 s c)) = ins (Q.c2 s c) (b.pns (P.c2 s c)) := List.filter_congr fun p hp => by
          rw [decide_eq_decide]; exact i2 p hp
        rw [e1, e2]
        exact q2.append q4
/-- a part of a picture: of which some panes have all spots -/
theorem til_ins {P Q : Pn} {ps : List Pn} (h : Til P ps) (hs : Q.sub P) (hi : ∀ p ∈ ps, p.sub Q ∨ apart p Q) : Til Q (ins Q ps) := by
  refine ⟨fun p hp => ?_, fun p hp q hq => ?_, h.nd.filter _, fun x y hx => ?_⟩
  · rw [mem_ins] at hp; exact ⟨(h.inn p hp.1).1, hp.2⟩
  · rw [mem_ins] at hp hq; exact h.dis p hp.1 q hq.1
  · obtain ⟨p, hp, hh⟩ := h.cov x y (by simp only [Pn.has, Pn.sub] at *; omega)
    refine ⟨p, mem_ins.mpr ⟨hp, ?_⟩, hh⟩
    rcases hi p hp with z | z
    · exact z
    · exact absurd hx (z x y hh)
/-- a tiling within another -/
theorem til_in {P Q : Pn} {ps qs : List Pn} (h : Til P ps) (h' : Til Q qs) (hsub : ∀ p ∈ qs, p ∈ ps) : ∀ p ∈ ps, (p ∈ qs ∧ p.sub Q) ∨ apart p Q := by
  intro p hp
  by_cases hq : p ∈ qs
  · exact .inl ⟨hq, (h'.inn p hq).2⟩
  · refine .inr fun x y hx hy => hq ?_
    obtain ⟨q, hq', hh⟩ := h'.cov x y hy
    rw [h.dis p hp q (hsub q hq') x y hx hh]; exact hq'
theorem ins_perm {P Q : Pn} {ps qs : List Pn} (h : Til P ps) (h' : Til Q qs) (hsub : ∀ p ∈ qs, p ∈ ps) : (ins Q ps).Perm qs := by
  refine (List.perm_ext_iff_of_nodup (h.nd.filter _) h'.nd).mpr fun p => ?_
  constructor
  · intro hp
    have hp := mem_ins.mp hp
    rcases til_in h h' hsub p hp.1 with z | z
    · exact z.1
    · exact absurd z (sub_apart (h.inn p hp.1).1 hp.2)
  · intro hp
    exact mem_ins.mpr ⟨hsub p hp, (h'.inn p hp).2⟩
/-- trees of parts -/
theorem tree_part {t : Tr} {P Q : Pn} {ps qs : List Pn} (hf : t.Fit P) (e : (t.pns P).Perm ps) (h : Til P ps) (h' : Til Q qs) (hQ : Q.pos) (hs : Q.sub P) (hsub : ∀ p ∈ qs, p ∈ ps) : ∃ t' : Tr, t'.Fit Q ∧ (t'.pns Q).Perm qs := by
  obtain ⟨t', q1, q2⟩ := sub_tree t P Q hf hQ hs (fun p hp => by
    rcases til_in h h' hsub p (e.mem_iff.mp hp) with z | z
    · exact .inl z.2
    · exact .inr z)
  exact ⟨t', q1, q2.trans ((e.filter _).trans (ins_perm h h' hsub))⟩
/-! ### knots -/
def knotF : Nat → Pn → List Pn → Option Pn
  | 0, _, _ => none
  | k + 1, P, ps => if ps.length = 1 then none else match cutsL P ps with
    | [] => some P
    | a :: _ => match knotF k (P.c1 a.1 a.2) (fst a.1 a.2 ps) with
      | some q => some q
      | none => knotF k (P.c2 a.1 a.2) (snd a.1 a.2 ps)
/-- what a knot is -/
structure IsK (P : Pn) (ps : List Pn) (Q : Pn) (qs : List Pn) : Prop where
  sub : Q.sub P
  til : Til Q qs
  has : ∀ p ∈ qs, p ∈ ps
  two : 2 ≤ qs.length
  none : ∀ s, linesL s Q qs = []
theorem c1_sub {P : Pn} {s : Bool} {c : Int} (hc : P.lo s < c ∧ c < P.lo s + P.sz s) : (P.c1 s c).sub P := by
  cases s <;> simp only [Pn.sub, Pn.c1, Pn.lo, Pn.sz] at * <;> omega
theorem c2_sub {P : Pn} {s : Bool} {c : Int} (hc : P.lo s < c ∧ c < P.lo s + P.sz s) : (P.c2 s c).sub P := by
  cases s <;> simp only [Pn.sub, Pn.c2, Pn.lo, Pn.sz] at * <;> omega
theorem sub_trans {p q r : Pn} (h : p.sub q) (h' : q.sub r) : p.sub r := by simp only [Pn.sub] at *; omega
theorem knotF_some : ∀ (k : Nat) (P : Pn) (ps : List Pn) (Q : Pn), Til P ps → P.pos → ps.length ≤ k → knotF k P ps = some Q → ∃ qs, IsK P ps Q qs
  | 0, P, ps, Q, h, hP, hl, e => by cases e
  | k + 1, P, ps, Q, h, hP, hl, e => by
    unfold knotF at e
    have hn := List.length_pos_iff.mpr (h.ne hP)
    by_cases h1 : ps.length = 1
    · rw [if_pos h1] at e; cases e
    · rw [if_neg h1] at e
      cases hc : cutsL P ps with
      | nil =>
        rw [hc] at e
        cases e
        have hs : ∀ s, linesL s P ps = [] := by
          intro s
          refine List.eq_nil_iff_forall_not_mem.mpr fun c hm => ?_
          have : (s, c) ∈ cutsL P ps := mem_cutsL.mpr hm
          rw [hc] at this; cases this
        exact ⟨ps, by simp [Pn.sub], h, fun p hp => hp, by omega, hs⟩
      | cons a as =>
        obtain ⟨s, c⟩ := a
        have ha : c ∈ linesL s P ps := (mem_cutsL (a := (s, c))).mp (by rw [hc]; exact List.mem_cons_self ..)
        rw [hc] at e
        obtain ⟨q1, q2, q3⟩ := h.lens hP ha
        have hm := mem_linesL.mp ha
        simp only at e
        cases hk : knotF k (P.c1 s c) (fst s c ps) with
        | some q =>
          rw [hk] at e
          cases e
          obtain ⟨qs, z⟩ := knotF_some k _ _ Q (h.fst hm.1 hm.2) (c1_pos hP hm.1) (by omega) hk
          exact ⟨qs, sub_trans z.sub (c1_sub hm.1), z.til, fun p hp => (mem_fst.mp (z.has p hp)).1, z.two, z.none⟩
        | none =>
          rw [hk] at e
          obtain ⟨qs, z⟩ := knotF_some k _ _ Q (h.snd hm.1 hm.2) (c2_pos hP hm.1) (by omega) e
          exact ⟨qs, sub_trans z.sub (c2_sub hm.1), z.til, fun p hp => (mem_snd.mp (z.has p hp)).1, z.two, z.none⟩
theorem knotF_none : ∀ (k : Nat) (P : Pn) (ps : List Pn), Til P ps → P.pos → ps.length ≤ k → knotF k P ps = none → ∃ t : Tr, t.Fit P ∧ (t.pns P).Perm ps
  | 0, P, ps, h, hP, hl, e => by
    have := List.length_pos_iff.mpr (h.ne hP)
    omega
  | k + 1, P, ps, h, hP, hl, e => by
    unfold knotF at e
    by_cases h1 : ps.length = 1
    · obtain ⟨p, rfl⟩ := List.length_eq_one_iff.mp h1
      have e := h.one
      subst e
      exact ⟨.pane, ⟨by simp only [Pn.pos] at hP; omega, by simp only [Pn.pos] at hP; omega⟩, .refl _⟩
    · rw [if_neg h1] at e
      cases hc : cutsL P ps with
      | nil => rw [hc] at e; cases e
      | cons a as =>
        obtain ⟨s, c⟩ := a
        have ha : c ∈ linesL s P ps := (mem_cutsL (a := (s, c))).mp (by rw [hc]; exact List.mem_cons_self ..)
        rw [hc] at e
        obtain ⟨q1, q2, q3⟩ := h.lens hP ha
        have hm := mem_linesL.mp ha
        simp only at e
        cases hk : knotF k (P.c1 s c) (fst s c ps) with
        | some q => rw [hk] at e; cases e
        | none =>
          rw [hk] at e
          obtain ⟨x, x1, x2⟩ := knotF_none k _ _ (h.fst hm.1 hm.2) (c1_pos hP hm.1) (by omega) hk
          obtain ⟨y, y1, y2⟩ := knotF_none k _ _ (h.snd hm.1 hm.2) (c2_pos hP hm.1) (by omega) e
          have ec : P.lo s + (c - P.lo s) = c := by omega
          refine ⟨.cut s (c - P.lo s) x y, fit_cut.mpr ⟨by omega, by rw [ec]; exact x1, by rw [ec]; exact y1⟩, ?_⟩
          simp only [Tr.pns, ec]
          exact (x2.append y2).trans (split_perm s c ps)
theorem knot_no_tree {P Q : Pn} {ps qs : List Pn} (h : Til P ps) (z : IsK P ps Q qs) {t : Tr} (hf : t.Fit P) (e : (t.pns P).Perm ps) : False := by
  have hQ : Q.pos := z.til.pos (by intro e; have := z.two; rw [e] at this; simp at this)
  obtain ⟨t', f', e'⟩ := tree_part hf e h z.til hQ z.sub z.has
  cases t' with
  | pane =>
    have := e'.length_eq
    rw [pns_len] at this
    have := z.two
    simp only [Tr.count] at *; omega
  | cut s k a b =>
    have l := (tree_line f').1
    rw [lines_perm e', z.none s] at l
    cases l
theorem knot_iff {P : Pn} {ps : List Pn} (h : Til P ps) (hP : P.pos) {k : Nat} (hk : ps.length ≤ k) : treesF k P ps = [] ↔ knotF k P ps ≠ none := by
  constructor
  · intro e hn
    obtain ⟨t, h1, h2⟩ := knotF_none k P ps h hP hk hn
    have := (mem_treesF k P ps h hP hk t).mpr ⟨h1, h2⟩
    rw [e] at this; cases this
  · intro hn
    cases hq : knotF k P ps with
    | none => exact absurd hq hn
    | some Q =>
      obtain ⟨qs, z⟩ := knotF_some k P ps Q h hP hk hq
      refine List.eq_nil_iff_forall_not_mem.mpr fun t ht => ?_
      obtain ⟨f, e⟩ := (mem_treesF k P ps h hP hk t).mp ht
      exact knot_no_tree h z f e
end PP

set_option Elab.async false
set_option linter.all false
set_option autoImplicit false
set_option maxRecDepth 100000
set_option maxHeartbeats 1000000
namespace PP
open PySem
/-! ### how great a knot is -/
/-- a pane from end to end: lines at its sides -/
theorem span_all {s : Bool} {Q : Pn} {qs : List Pn} (h : Til Q qs) (hn : ∀ s, linesL s Q qs = []) {p : Pn} (hp : p ∈ qs) (h1 : p.lo s = Q.lo s) (h2 : p.sz s = Q.sz s) : p = Q := by
  have hin := (h.inn p hp).2
  have hpos := (h.inn p hp).1
  -- the other way
  have key : ∀ c, (Q.lo (!s) < c ∧ c < Q.lo (!s) + Q.sz (!s)) → (c = p.lo (!s) ∨ c = p.lo (!s) + p.sz (!s)) → False := by
    intro c hc hcp
    have hm : c ∈ linesL (!s) Q qs := by
      refine mem_linesL.mpr ⟨hc, fun q hq z => ?_⟩
      have qin := (h.inn q hq).2
      have qpos := (h.inn q hq).1
      have ne : q ≠ p := by
        intro e; subst e; omega
      -- q has a spot of p's rows
      have : q = p := by
        cases s
        · simp only [Pn.lo, Pn.sz, Bool.not_false, Bool.not_true, Pn.sub, Pn.pos] at *
          rcases hcp with e | e
          · exact h.dis q hq p hp c q.t (by simp only [Pn.has]; omega) (by simp only [Pn.has]; omega)
          · exact h.dis q hq p hp (c - 1) q.t (by simp only [Pn.has]; omega) (by simp only [Pn.has]; omega)
        · simp only [Pn.lo, Pn.sz, Bool.not_false, Bool.not_true, Pn.sub, Pn.pos] at *
          rcases hcp with e | e
          · exact h.dis q hq p hp q.l c (by simp only [Pn.has]; omega) (by simp only [Pn.has]; omega)
          · exact h.dis q hq p hp q.l (c - 1) (by simp only [Pn.has]; omega) (by simp only [Pn.has]; omega)
      exact ne this
    rw [hn (!s)] at hm; cases hm
  have k1 : ¬ (Q.lo (!s) < p.lo (!s) ∧ p.lo (!s) < Q.lo (!s) + Q.sz (!s)) := fun z => key _ z (.inl rfl)
  have k2 : ¬ (Q.lo (!s) < p.lo (!s) + p.sz (!s) ∧ p.lo (!s) + p.sz (!s) < Q.lo (!s) + Q.sz (!s)) := fun z => key _ z (.inr rfl)
  cases p; cases Q
  cases s <;> simp only [Pn.lo, Pn.sz, Bool.not_false, Bool.not_true, Pn.sub, Pn.pos, Pn.mk.injEq] at * <;> omega
theorem knot_wide {Q : Pn} {qs : List Pn} (h : Til Q qs) (h2 : 2 ≤ qs.length) (hn : ∀ s, linesL s Q qs = []) (s : Bool) : 3 ≤ Q.sz s := by
  have hne : qs ≠ [] := by intro e; rw [e] at h2; simp at h2
  have whole : ∀ p ∈ qs, p = Q → False := by
    intro p hp e
    have : ∀ q ∈ qs, q = p := fun q hq => by
      have a := (h.inn q hq).1
      have b := (h.inn q hq).2
      exact h.dis q hq p hp q.l q.t (by simp only [Pn.has, Pn.pos] at *; omega) (by rw [e]; simp only [Pn.has, Pn.sub, Pn.pos] at *; omega)
    have := nodup_len (l := qs) (r := [p]) h.nd (fun x hx => by simp [this x hx])
    simp at this; omega
  have hQ := h.pos hne
  by_cases z : 3 ≤ Q.sz s
  · exact z
  · exfalso
    by_cases z1 : Q.sz s = 1
    · obtain ⟨p, hp⟩ := List.exists_mem_of_ne_nil qs hne
      refine whole p hp (span_all (s := s) h hn hp ?_ ?_)
      · have a := (h.inn p hp).1
        have b := (h.inn p hp).2
        cases s <;> simp only [Pn.lo, Pn.sz, Pn.sub, Pn.pos] at * <;> omega
      · have a := (h.inn p hp).1
        have b := (h.inn p hp).2
        cases s <;> simp only [Pn.lo, Pn.sz, Pn.sub, Pn.pos] at * <;> omega
    · have z2 : Q.sz s = 2 := by cases s <;> simp only [Pn.sz, Pn.pos] at * <;> omega
      have hm : ¬ (Q.lo s + 1 ∈ linesL s Q qs) := by rw [hn s]; simp
      rw [mem_linesL] at hm
      have : ¬ isLine s qs (Q.lo s + 1) := fun y => hm ⟨by omega, y⟩
      simp only [isLine, Classical.not_forall, Classical.not_not] at this
      obtain ⟨p, hp, y⟩ := this
      refine whole p hp (span_all (s := s) h hn hp ?_ ?_)
      · have b := (h.inn p hp).2
        cases s <;> simp only [Pn.lo, Pn.sz, Pn.sub] at * <;> omega
      · have b := (h.inn p hp).2
        cases s <;> simp only [Pn.lo, Pn.sz, Pn.sub] at * <;> omega
theorem knot_five {Q : Pn} {qs : List Pn} (h : Til Q qs) (h2 : 2 ≤ qs.length) (hn : ∀ s, linesL s Q qs = []) : 5 ≤ qs.length := by
  have hne : qs ≠ [] := by intro e; rw [e] at h2; simp at h2
  have hQ := h.pos hne
  have whole : ∀ p ∈ qs, p = Q → False := by
    intro p hp e
    have : ∀ q ∈ qs, q = p := fun q hq => by
      have a := (h.inn q hq).1
      have b := (h.inn q hq).2
      exact h.dis q hq p hp q.l q.t (by simp only [Pn.has, Pn.pos] at *; omega) (by rw [e]; simp only [Pn.has, Pn.sub, Pn.pos] at *; omega)
    have := nodup_len (l := qs) (r := [p]) h.nd (fun x hx => by simp [this x hx])
    simp at this; omega
  obtain ⟨a, ha, a1⟩ := h.cov Q.l Q.t (by simp only [Pn.has, Pn.pos] at *; omega)
  obtain ⟨b, hb, b1⟩ := h.cov (Q.l + Q.w - 1) Q.t (by simp only [Pn.has, Pn.pos] at *; omega)
  obtain ⟨c, hc, c1⟩ := h.cov Q.l (Q.t + Q.h - 1) (by simp only [Pn.has, Pn.pos] at *; omega)
  obtain ⟨d, hd, d1⟩ := h.cov (Q.l + Q.w - 1) (Q.t + Q.h - 1) (by simp only [Pn.has, Pn.pos] at *; omega)
  have a2 := (h.inn a ha).2
  have b2 := (h.inn b hb).2
  have c2 := (h.inn c hc).2
  have d2 := (h.inn d hd).2
  -- no pane has two corners
  have sp : ∀ p ∈ qs, ¬ (p.l = Q.l ∧ p.w = Q.w) := fun p hp e => whole p hp (span_all (s := true) h hn hp e.1 e.2)
  have sp' : ∀ p ∈ qs, ¬ (p.t = Q.t ∧ p.h = Q.h) := fun p hp e => whole p hp (span_all (s := false) h hn hp e.1 e.2)
  have sa := sp a ha
  have sa' := sp' a ha
  have sb := sp b hb
  have sb' := sp' b hb
  have sc := sp c hc
  have sc' := sp' c hc
  have sd := sp d hd
  have sd' := sp' d hd
  simp only [Pn.has, Pn.sub] at a1 a2 b1 b2 c1 c2 d1 d2
  have ab : a ≠ b := fun e => by subst e; omega
  have ac : a ≠ c := fun e => by subst e; omega
  have ad : a ≠ d := fun e => by subst e; omega
  have bc : b ≠ c := fun e => by subst e; omega
  have bd : b ≠ d := fun e => by subst e; omega
  have cd : c ≠ d := fun e => by subst e; omega
  by_cases z : 5 ≤ qs.length
  · exact z
  · exfalso
    have nd4 : [a, b, c, d].Nodup := by simp [ab, ac, ad, bc, bd, cd]
    have all : ∀ q ∈ qs, q ∈ [a, b, c, d] := nodup_all nd4 h.nd (fun x hx => by
      simp only [List.mem_cons, List.not_mem_nil, or_false] at hx
      rcases hx with rfl | rfl | rfl | rfl <;> assumption) (by simp; omega)
    have cov : ∀ x y, ¬ Q.has x y ∨ a.has x y ∨ b.has x y ∨ c.has x y ∨ d.has x y := by
      intro x y
      by_cases hx : ¬ Q.has x y
      · exact .inl hx
      refine .inr ?_
      have hx : Q.has x y := Classical.not_not.mp hx
      obtain ⟨q, hq, hh⟩ := h.cov x y hx
      have := all q hq
      simp only [List.mem_cons, List.not_mem_nil, or_false] at this
      rcases this with rfl | rfl | rfl | rfl
      · exact .inl hh
      · exact .inr (.inl hh)
      · exact .inr (.inr (.inl hh))
      · exact .inr (.inr (.inr hh))
    have apt : ∀ p ∈ qs, ∀ q ∈ qs, p ≠ q → ∀ x y, ¬ (p.has x y ∧ q.has x y) := fun p hp q hq hne x y z => hne (h.dis p hp q hq x y z.1 z.2)
    -- the ends
    have e1 : a.w + b.w = Q.w := by
      have k := cov (a.l + a.w) Q.t
      have k2 := apt a ha b hb ab b.l Q.t
      simp only [Pn.has] at k k2; omega
    have e2 : c.w + d.w = Q.w := by
      have k := cov (c.l + c.w) (Q.t + Q.h - 1)
      have k2 := apt c hc d hd cd d.l (Q.t + Q.h - 1)
      simp only [Pn.has] at k k2; omega
    have e3 : a.h + c.h = Q.h := by
      have k := cov Q.l (a.t + a.h)
      have k2 := apt a ha c hc ac Q.l c.t
      simp only [Pn.has] at k k2; omega
    have e4 : b.h + d.h = Q.h := by
      have k := cov (Q.l + Q.w - 1) (b.t + b.h)
      have k2 := apt b hb d hd bd (Q.l + Q.w - 1) d.t
      simp only [Pn.has] at k k2; omega
    have ln : ∀ s cc, (Q.lo s < cc ∧ cc < Q.lo s + Q.sz s) → isLine s qs cc → False := fun s cc h1 h2 => by
      have : cc ∈ linesL s Q qs := mem_linesL.mpr ⟨h1, h2⟩
      rw [hn s] at this; cases this
    have n1 : a.w ≠ c.w := fun e => by
      refine ln true (a.l + a.w) (by simp only [Pn.lo, Pn.sz]; omega) fun q hq => ?_
      have := all q hq
      simp only [List.mem_cons, List.not_mem_nil, or_false] at this
      rcases this with rfl | rfl | rfl | rfl <;> simp only [Pn.lo, Pn.sz] <;> omega
    have n2 : a.h ≠ b.h := fun e => by
      refine ln false (a.t + a.h) (by simp only [Pn.lo, Pn.sz]; omega) fun q hq => ?_
      have := all q hq
      simp only [List.mem_cons, List.not_mem_nil, or_false] at this
      rcases this with rfl | rfl | rfl | rfl <;> simp only [Pn.lo, Pn.sz] <;> omega
    by_cases q1 : a.w < c.w
    · have k1 := apt b hb c hc bc (Q.l + a.w) (Q.t + a.h)
      have k2 := cov (Q.l + a.w) (Q.t + b.h)
      simp only [Pn.has] at k1 k2; omega
    · have k1 := apt a ha d hd ad (Q.l + c.w) (Q.t + b.h)
      have k2 := cov (Q.l + c.w) (Q.t + a.h)
      simp only [Pn.has] at k1 k2; omega
end PP

set_option Elab.async false
set_option linter.all false
set_option autoImplicit false
set_option maxRecDepth 100000
set_option maxHeartbeats 1000000
namespace PP
open PySem
variable {T : Nat → Option Fn} {n : Nat}
structure TC (T : Nat → Option Fn) : Prop where
  lines_in : T 26 = some f26_lines_in
  halves : T 30 = some f30_halves
  trees_in : T 31 = some f31_trees_in
  cuts_in : T 32 = some f32_cuts_in
@[simp] theorem tru_l (xs : List D) : truR (.l xs) = .ok (!xs.isEmpty) := id rfl
@[simp] theorem tru_bb (xs : List D) : truR (.b xs) = .ok (!xs.isEmpty) := id rfl
@[simp 2000] theorem kd_eq_stack (s : Bool) : eqR (.d (.str (kd s))) (.d (.str t_stack)) = .ok (!s) := kd_stack s
@[simp 2000] theorem kd_eq_side (s : Bool) : eqR (.d (.str (kd s))) (.d (.str t_side)) = .ok s := kd_side s
@[simp] theorem idx_lo (p : Pn) (s : Bool) : idxR (.d p.D) (.d (.int (if (!s) = true then 1 else 0))) = .ok (.d (.int (p.lo s))) := by
  cases s
  · exact idx_D1 p
  · exact idx_D0 p
@[simp] theorem idx_lo' (p : Pn) (s : Bool) : idxR (.d p.D) (.d (.int (if s = false then 1 else 0))) = .ok (.d (.int (p.lo s))) := by
  cases s
  · exact idx_D1 p
  · exact idx_D0 p
def hvD (P : Pn) (s : Bool) (c : Int) (ps : List Pn) : D := .tuple [.tuple [(P.c1 s c).D, .list ((fst s c ps).map Pn.D)], .tuple [(P.c2 s c).D, .list ((snd s c ps).map Pn.D)]]
theorem c_halves (h : TC T) (P : Pn) (b : Bool) {ps : List Pn} (hl : ps.length ≤ lim) (s : Bool) (c : Int) :
    call T (n + 1) 30 [.d P.D, .d (sq b (ps.map Pn.D)), .d (.str (kd s)), .d (.int c)] = .ok (.d (hvD P s c ps)) := by
  rw [call_go h.halves rfl (st := [some (.d P.D), some (.d (sq b (ps.map Pn.D))), some (.d (.str (kd s))), some (.d (.int c)), none, none, none, none, none, none, none, none]) rfl]
  simp [f30_halves]
  rw [lcf_nm Pn.D (fun p => decide (p.lo s < c)) Pn.D ps (by simp) hl (by intro p _; simp)]
  simp
  rw [lcf_nm Pn.D (fun p => decide (c ≤ p.lo s)) Pn.D ps (by simp) hl (by intro p _; simp)]
  cases s <;> simp [hvD, fst, snd, Pn.c1, Pn.c2]
def ctD (a : Bool × Int) : D := .tuple [.str (kd a.1), .int a.2]
theorem c_cuts_in (h : TC T) {P : Pn} (hP : PnB P) (b : Bool) {ps : List Pn} (hl : ps.length ≤ lim) :
    call T (n + 2) 32 [.d P.D, .d (sq b (ps.map Pn.D))] = .ok (.l ((cutsL P ps).map ctD)) := by
  have e := c_lines_in (n := n) h.lines_in hP b hl
  have l1 := linesL_len true P ps
  have l2 := linesL_len false P ps
  obtain ⟨b1, b2, b3, b4⟩ := hP
  simp only [Pn.sz] at l1 l2
  rw [call_go h.cuts_in rfl (st := [some (.d P.D), some (.d (sq b (ps.map Pn.D))), none, none, none]) rfl]
  simp [f32_cuts_in, e]
  rw [lc_nm PyData.int (fun c => ctD (true, c)) (linesL true P ps) (by simp) (by rw [lim_eq]; omega) (by intro p _; simp [ctD, kd])]
  rw [lc_nm PyData.int (fun c => ctD (false, c)) (linesL false P ps) (by simp) (by rw [lim_eq]; omega) (by intro p _; simp [ctD, kd])]
  simp
  rw [add_ll (by simp [lim_eq]; omega)]
  simp [cutsL]; rfl
theorem PnB.c1 {P : Pn} (h : PnB P) {s : Bool} {c : Int} (hc : P.lo s < c ∧ c < P.lo s + P.sz s) : PnB (P.c1 s c) := by
  cases s <;> simp only [PnB, Pn.c1, Pn.lo, Pn.sz] at * <;> omega
/-- a part of a window -/
def PnW (P : Pn) : Prop := 0 ≤ P.l ∧ 0 ≤ P.t ∧ P.l + P.w ≤ 20 ∧ P.t + P.h ≤ 20 ∧ 0 < P.w ∧ 0 < P.h
theorem PnW.b {P : Pn} (h : PnW P) : PnB P := by simp only [PnW, PnB] at *; omega
theorem PnW.pos {P : Pn} (h : PnW P) : P.pos := by simp only [PnW, Pn.pos] at *; omega
theorem PnW.c1 {P : Pn} (h : PnW P) {s : Bool} {c : Int} (hc : P.lo s < c ∧ c < P.lo s + P.sz s) : PnW (P.c1 s c) := by
  cases s <;> simp only [PnW, Pn.c1, Pn.lo, Pn.sz] at * <;> omega
theorem PnW.c2 {P : Pn} (h : PnW P) {s : Bool} {c : Int} (hc : P.lo s < c ∧ c < P.lo s + P.sz s) : PnW (P.c2 s c) := by
  cases s <;> simp only [PnW, Pn.c2, Pn.lo, Pn.sz] at * <;> omega
theorem pref_len {α β : Type} {f : α → List β} {pre post as : List α} (h : pre ++ post = as) : (pre.flatMap f).length + (post.flatMap f).length = (as.flatMap f).length := by
  rw [← h, List.flatMap_append, List.length_append]
theorem six_pow {k : Nat} (h : k ≤ 7) : 6 ^ (k - 1) ≤ 46656 := by
  have : 6 ^ (k - 1) ≤ 6 ^ 6 := Nat.pow_le_pow_right (by decide) (by omega)
  exact this
def treeS (P : Pn) (k : Nat) (ps : List Pn) (a : Bool × Int) : List Tr := (treesF k (P.c1 a.1 a.2) (fst a.1 a.2 ps)).flatMap fun x => (treesF k (P.c2 a.1 a.2) (snd a.1 a.2 ps)).map fun y => .cut a.1 (a.2 - P.lo a.1) x y
theorem treesF_cuts {P : Pn} {k : Nat} {ps : List Pn} (h : ¬ ps.length = 1) : treesF (k + 1) P ps = (cutsL P ps).flatMap (treeS P k ps) := by
  rw [treesF, if_neg h]; rfl
theorem c_trees_in (h : TC T) : ∀ (k : Nat) (P : Pn) (b : Bool) (ps : List Pn) (n : Nat), Til P ps → PnW P → ps.length ≤ k → ps.length ≤ 7 → k + 3 ≤ n →
    call T n 31 [.d P.D, .d (sq b (ps.map Pn.D))] = .ok (.l ((treesF k P ps).map Tr.enc))
  | 0, P, b, ps, n, ht, hw, hk, h7, hn => by
    have := List.length_pos_iff.mpr (ht.ne hw.pos)
    omega
  | k + 1, P, b, ps, n, ht, hw, hk, h7, hn => by
    obtain ⟨m, rfl⟩ : ∃ m, n = m + 1 := ⟨n - 1, by omega⟩
    rw [call_go h.trees_in rfl (st := [some (.d P.D), some (.d (sq b (ps.map Pn.D))), none, none, none, none, none, none, none, none, none]) rfl]
    by_cases h1 : ps.length = 1
    · have e : (([.tuple [.str t_pane]] : List D)) = [Tr.pane].map Tr.enc := rfl
      simp [f31_trees_in, h1, treesF, Tr.enc]
    · have hlim : ps.length ≤ lim := by rw [lim_eq]; omega
      obtain ⟨m', rfl⟩ : ∃ m', m = m' + 2 := ⟨m - 2, by omega⟩
      have ec := c_cuts_in (n := m') h hw.b b hlim
      have h1' : ¬ ((ps.length : Int) = 1) := by omega
      have hcut := treesF_cuts (P := P) (k := k) h1
      have hbd := trees_le (k + 1) P ps ht hw.pos h7
      have hbd2 := six_pow h7
      simp [f31_trees_in, h1', ec]
      refine for_go (· = _) (fun z => outK (seqK _ _ z)) (V := Option R × Option R × Option R × Option R × Option R × Option R × Option R) ctD (cutsL P ps)
        (fun pre v => [some (.d P.D), some (.d (sq b (ps.map Pn.D))), some (.l ((pre.flatMap (treeS P k ps)).map Tr.enc)), v.1, v.2.1, v.2.2.1, v.2.2.2.1, v.2.2.2.2.1, v.2.2.2.2.2.1, v.2.2.2.2.2.2, none]) (fun _ _ => True) (none, none, none, none, none, none, none)
        (by simp [ec]) rfl trivial ?_ ?_
      · rintro pre ⟨s, c⟩ post ⟨v1, v2, v3, v4, v5, v6, v7⟩ hpre -
        have hc : c ∈ linesL s P ps := (mem_cutsL (a := (s, c))).mp (by rw [← hpre]; simp)
        obtain ⟨q1, q2, q3⟩ := ht.lens hw.pos hc
        have hm := mem_linesL.mp hc
        have eh := c_halves (n := m' + 1) h P b hlim s c
        have e1 := c_trees_in h k (P.c1 s c) false (fst s c ps) (m' + 2) (ht.fst hm.1 hm.2) (hw.c1 hm.1) (by omega) (by omega) (by omega)
        have e2 := c_trees_in h k (P.c2 s c) false (snd s c ps) (m' + 2) (ht.snd hm.1 hm.2) (hw.c2 hm.1) (by omega) (by omega) (by omega)
        simp only [sq] at e1 e2
        have hl : (pre.flatMap (treeS P k ps)).length + (treeS P k ps (s, c)).length ≤ 46656 := by
          have := pref_len (f := treeS P k ps) (pre := pre ++ [(s, c)]) (post := post) (as := cutsL P ps) (by simpa using hpre)
          rw [List.flatMap_append, List.length_append] at this
          simp only [List.flatMap_cons, List.flatMap_nil, List.append_nil] at this
          rw [hcut] at hbd
          omega
        simp [ctD, eh, hvD, e1, e2]
        refine for_go (Nx _ _) (fun z => seqK _ _ z) (V := Option R) Tr.enc (treesF k (P.c1 s c) (fst s c ps))
          (fun pre2 v => [some (.d P.D), some (.d (sq b (ps.map Pn.D))), some (.l ((pre.flatMap (treeS P k ps) ++ pre2.flatMap fun x => (treesF k (P.c2 s c) (snd s c ps)).map fun y => Tr.cut s (c - P.lo s) x y).map Tr.enc)), some (.d (.str (kd s))), some (.d (.int c)), some (.d (.int (c - P.lo s))), some (.d (.list ((treesF k (P.c2 s c) (snd s c ps)).map Tr.enc))), v,
            some (.d (.tuple [(P.c1 s c).D, .list ((fst s c ps).map Pn.D)])), some (.d (.tuple [(P.c2 s c).D, .list ((snd s c ps).map Pn.D)])), none]) (fun _ _ => True) v5
          (by simp [e1]) (by simp) trivial ?_ ?_
        · rintro pre2 x post2 v hpre2 -
          have hl2 : (pre2.flatMap fun x => (treesF k (P.c2 s c) (snd s c ps)).map fun y => Tr.cut s (c - P.lo s) x y).length + (treesF k (P.c2 s c) (snd s c ps)).length ≤ (treeS P k ps (s, c)).length := by
            have := pref_len (f := fun x => (treesF k (P.c2 s c) (snd s c ps)).map fun y => Tr.cut s (c - P.lo s) x y) (pre := pre2 ++ [x]) (post := post2) (as := treesF k (P.c1 s c) (fst s c ps)) (by simpa using hpre2)
            rw [List.flatMap_append, List.length_append] at this
            simp only [List.flatMap_cons, List.flatMap_nil, List.append_nil, List.length_map] at this
            unfold treeS
            simp only
            omega
          simp only [setT_nm, b1_ok]
          simp [-List.map_append]
          rw [lc_nm Tr.enc (fun y => (Tr.cut s (c - P.lo s) x y).enc) (treesF k (P.c2 s c) (snd s c ps)) (by simp) (by rw [lim_eq]; omega) (by intro y _; simp [Tr.enc])]
          simp [-List.map_append]
          rw [appS_ok (by rw [List.length_map, List.length_map, List.length_append, lim_eq]; omega)]
          simp [-List.map_append]
          refine Nx.mk (some (.d x.enc)) ?_ trivial
          simp
        · rintro v -
          simp [-List.map_append]
          exact Nx.mk (_, _, _, _, _, _, _) (by simp [treeS]; exact ⟨rfl, rfl, rfl, rfl, rfl, rfl, rfl⟩) trivial
      · rintro ⟨v1, v2, v3, v4, v5, v6, v7⟩ -
        simp [hcut]
end PP

set_option Elab.async false
set_option linter.all false
set_option autoImplicit false
set_option maxRecDepth 100000
set_option maxHeartbeats 1000000
namespace PP
open PySem
variable {T : Nat → Option Fn} {n : Nat}
/-! ### sorted trees -/
theorem alike_tr : ∀ a b : Tr, PySem.W.alike a.enc b.enc = true
  | .pane, .pane => by decide +kernel
  | .pane, .cut s k a b => by simp [Tr.enc, PySem.W.alike, PySem.W.alikeAll]
  | .cut s k a b, .pane => by simp [Tr.enc, PySem.W.alike, PySem.W.alikeAll]
  | .cut s k a b, .cut s' k' a' b' => by
    have := alike_tr a a'
    have := alike_tr b b'
    simp [Tr.enc, PySem.W.alike, PySem.W.alikeAll, *]
theorem depth_tr : ∀ a : Tr, a.enc.depth ≤ a.count
  | .pane => by decide
  | .cut s k a b => by
    have := depth_tr a
    have := depth_tr b
    have := count_pos a
    have := count_pos b
    simp only [Tr.enc, PyData.depth, PyData.depthAll, Tr.count]
    omega
def srtT (ts : List Tr) : List Tr := ts.mergeSort fun a b => PySem.W.dataLe false id a.enc b.enc
theorem srtT_enc (ts : List Tr) : (srtT ts).map Tr.enc = sortD (ts.map Tr.enc) := by
  have z := PySem.W.sort_maps (r := fun a b : Tr => PySem.W.dataLe false id a.enc b.enc) (s := PySem.W.dataLe false id) Tr.enc (l := ts) (fun _ _ _ _ => rfl)
  exact z
theorem srtT_perm (ts : List Tr) : (srtT ts).Perm ts := List.mergeSort_perm ts _
theorem sortR_tr {ts : List Tr} (hd : ∀ t ∈ ts, t.count ≤ 60) (hl : ts.length ≤ lim) : sortR (ts.map Tr.enc) = .ok ((srtT ts).map Tr.enc) := by
  unfold sortR
  have : sortOk (ts.map Tr.enc) = true := by
    unfold sortOk
    simp only [Bool.and_eq_true, Bool.or_eq_true, List.all_eq_true, List.mem_map, decide_eq_true_eq, List.length_map]
    refine ⟨⟨⟨?_, ?_⟩, hl⟩, .inl ?_⟩
    · rintro _ ⟨p, _, rfl⟩ _ ⟨q, _, rfl⟩
      exact alike_tr p q
    · rintro _ ⟨p, hp, rfl⟩
      have := depth_tr p
      have := hd p hp
      omega
    · rintro _ ⟨p, hp, rfl⟩
      cases p <;> rfl
  rw [this, if_pos rfl, srtT_enc]
theorem sorted_tr {ts : List Tr} (hd : ∀ t ∈ ts, t.count ≤ 60) (hl : ts.length ≤ lim) : bltR .sorted [.l (ts.map Tr.enc)] = .ok (.l ((srtT ts).map Tr.enc)) := by
  show (sortR (ts.map Tr.enc) >>= fun ys => Rs.ok (R.l ys)) = _
  rw [sortR_tr hd hl]; rfl
theorem trees_count {k : Nat} {P : Pn} {ps : List Pn} (h : Til P ps) (hP : P.pos) (hk : ps.length ≤ k) : ∀ t ∈ treesF k P ps, t.count = ps.length := by
  intro t ht
  have := ((mem_treesF k P ps h hP hk t).mp ht).2.length_eq
  rw [pns_len] at this; exact this
theorem Pict.W {W H : Int} {ps : List Pn} (h : Pict W H ps) : PnW ⟨0, 0, W, H⟩ := by
  have := h.w
  have := h.h
  simp only [PnW]; omega
def allT (W H : Int) (ps : List Pn) : List Tr := treesF 7 ⟨0, 0, W, H⟩ ps
theorem allT_len {W H : Int} {ps : List Pn} (h : Pict W H ps) : (allT W H ps).length ≤ 46656 := by
  have := trees_le 7 _ ps h.til h.W.pos h.len
  have := six_pow h.len
  unfold allT; omega
theorem c_trees (h : TC T) (h33 : T 33 = some f33_trees) {W H : Int} {ps : List Pn} (hp : Pict W H ps) :
    call T (n + 11) 33 [.d (pcD W H ps)] = .ok (.d (.tuple ((srtT (allT W H ps)).map Tr.enc))) := by
  have e := c_trees_in h 7 ⟨0, 0, W, H⟩ true ps (n + 10) hp.til hp.W hp.len hp.len (by omega)
  have hl := allT_len hp
  have hs := sorted_tr (ts := allT W H ps) (fun t ht => by
    have := trees_count hp.til hp.W.pos hp.len t ht
    have := hp.len
    omega) (by rw [lim_eq]; omega)
  simp only [sq] at e
  rw [call_go h33 rfl (st := [some (.d (pcD W H ps))]) rfl]
  rw [show treesF 7 ⟨0, 0, W, H⟩ ps = allT W H ps from rfl] at e
  simp [f33_trees, e, hs]
theorem c_count_trees (h : TC T) (h33 : T 33 = some f33_trees) (h36 : T 36 = some f36_count_trees) {W H : Int} {ps : List Pn} (hp : Pict W H ps) :
    call T (n + 12) 36 [.d (pcD W H ps)] = .ok (.d (.int (allT W H ps).length)) := by
  have e := c_trees (n := n) h h33 hp
  have hl := (srtT_perm (allT W H ps)).length_eq
  rw [call_go h36 rfl (st := [some (.d (pcD W H ps))]) rfl]
  simp [f36_count_trees, e, hl]
/-! ### knots -/
def optD : Option Pn → D
  | some p => p.D
  | none => .none
@[simp] theorem is_Dn (p : Pn) : isR (.d p.D) (.d .none) = .ok false := id rfl
theorem c_knot_in (h : TC T) (h43 : T 43 = some f43_knot_in) : ∀ (k : Nat) (P : Pn) (b : Bool) (ps : List Pn) (n : Nat), Til P ps → PnW P → ps.length ≤ k → ps.length ≤ 7 → k + 3 ≤ n →
    call T n 43 [.d P.D, .d (sq b (ps.map Pn.D))] = .ok (.d (optD (knotF k P ps)))
  | 0, P, b, ps, n, ht, hw, hk, h7, hn => by
    have := List.length_pos_iff.mpr (ht.ne hw.pos)
    omega
  | k + 1, P, b, ps, n, ht, hw, hk, h7, hn => by
    obtain ⟨m, rfl⟩ : ∃ m, n = m + 1 := ⟨n - 1, by omega⟩
    rw [call_go h43 rfl (st := [some (.d P.D), some (.d (sq b (ps.map Pn.D))), none, none, none, none]) rfl]
    by_cases h1 : ps.length = 1
    · simp [f43_knot_in, h1, knotF, optD]
    · have hlim : ps.length ≤ lim := by rw [lim_eq]; omega
      obtain ⟨m', rfl⟩ : ∃ m', m = m' + 2 := ⟨m - 2, by omega⟩
      have ec := c_cuts_in (n := m') h hw.b b hlim
      have h1' : ¬ ((ps.length : Int) = 1) := by omega
      cases hc : cutsL P ps with
      | nil =>
        rw [hc] at ec
        simp [f43_knot_in, h1', ec, knotF, h1, hc, optD]
      | cons a as =>
        obtain ⟨s, c⟩ := a
        have ha : c ∈ linesL s P ps := (mem_cutsL (a := (s, c))).mp (by rw [hc]; exact List.mem_cons_self ..)
        obtain ⟨q1, q2, q3⟩ := ht.lens hw.pos ha
        have hm := mem_linesL.mp ha
        have eh := c_halves (n := m' + 1) h P b hlim s c
        have e1 := c_knot_in h h43 k (P.c1 s c) false (fst s c ps) (m' + 2) (ht.fst hm.1 hm.2) (hw.c1 hm.1) (by omega) (by omega) (by omega)
        have e2 := c_knot_in h h43 k (P.c2 s c) false (snd s c ps) (m' + 2) (ht.snd hm.1 hm.2) (hw.c2 hm.1) (by omega) (by omega) (by omega)
        simp only [sq] at e1 e2
        rw [hc] at ec
        have i0 : idxR (.d (.list (ctD (s, c) :: as.map ctD))) (.d (.int 0)) = .ok (.d (ctD (s, c))) := idxL_nat (k := 0) rfl
        simp [f43_knot_in, h1', ec, knotF, h1, hc, i0]
        simp [ctD, eh, hvD, e1]
        cases hk : knotF k (P.c1 s c) (fst s c ps) with
        | some q => simp [optD]
        | none => simp [optD, e2]
theorem c_knot (h : TC T) (h43 : T 43 = some f43_knot_in) (h47 : T 47 = some f47_knot) {W H : Int} {ps : List Pn} (hp : Pict W H ps) :
    call T (n + 11) 47 [.d (pcD W H ps)] = .ok (.d (optD (knotF 7 ⟨0, 0, W, H⟩ ps))) := by
  have e := c_knot_in h h43 7 ⟨0, 0, W, H⟩ true ps (n + 10) hp.til hp.W hp.len hp.len (by omega)
  simp only [sq] at e
  rw [call_go h47 rfl (st := [some (.d (pcD W H ps))]) rfl]
  simp [f47_knot, e]
theorem sub_b (p q : Pn) : decide (p.sub q) = (decide (q.l ≤ p.l) && decide (q.t ≤ p.t) && decide (p.l + p.w ≤ q.l + q.w) && decide (p.t + p.h ≤ q.t + q.h)) := by
  rw [Bool.eq_iff_iff]
  simp only [Bool.and_eq_true]
  constructor
  · intro h
    have h : p.sub q := of_decide_eq_true h
    simp only [Pn.sub] at h
    simp only [decide_eq_true_eq]; omega
  · intro h
    simp only [decide_eq_true_eq] at h
    refine decide_eq_true ?_
    simp only [Pn.sub]; omega
theorem c_inside (h : T 44 = some f44_is_inside) (p q : Pn) : call T (n + 1) 44 [.d p.D, .d q.D] = .ok (.d (.bool (decide (p.sub q)))) := by
  rw [call_go h rfl (st := [some (.d p.D), some (.d q.D)]) rfl, sub_b]
  by_cases h1 : p.l < q.l
  · have h1' : ¬ q.l ≤ p.l := by omega
    simp [f44_is_inside, h1, h1']
  · have h1' : q.l ≤ p.l := by omega
    by_cases h2 : p.t < q.t
    · have h2' : ¬ q.t ≤ p.t := by omega
      simp [f44_is_inside, h1, h1', h2, h2']
    · have h2' : q.t ≤ p.t := by omega
      by_cases h3 : p.l + p.w ≤ q.l + q.w <;> simp [f44_is_inside, h1, h1', h2, h2', h3]
def apB (p q : Pn) : Bool := decide (q.l + q.w ≤ p.l) || decide (p.l + p.w ≤ q.l) || decide (q.t + q.h ≤ p.t) || decide (p.t + p.h ≤ q.t)
theorem apB_iff {p q : Pn} (hp : p.pos) (hq : q.pos) : apB p q = true ↔ apart p q := by
  simp only [apB, Bool.or_eq_true, decide_eq_true_eq]
  constructor
  · intro h x y hx hy
    simp only [Pn.has] at hx hy; omega
  · intro h
    have k := h (max p.l q.l) (max p.t q.t)
    simp only [Pn.has, Pn.pos] at *; omega
theorem c_apart (h : T 45 = some f45_is_apart) (p q : Pn) : call T (n + 1) 45 [.d p.D, .d q.D] = .ok (.d (.bool (apB p q))) := by
  rw [call_go h rfl (st := [some (.d p.D), some (.d q.D)]) rfl]
  unfold apB
  by_cases h1 : q.l + q.w ≤ p.l
  · simp [f45_is_apart, h1]
  · by_cases h2 : p.l + p.w ≤ q.l
    · simp [f45_is_apart, h1, h2]
    · by_cases h3 : q.t + q.h ≤ p.t <;> simp [f45_is_apart, h1, h2, h3]
structure TK (T : Nat → Option Fn) : Prop where
  c : TC T
  whole : T 0 = some f0_is_whole
  part : T 2 = some f2_is_part
  inside : T 44 = some f44_is_inside
  apart : T 45 = some f45_is_apart
  is_knot : T 49 = some f49_is_knot
/-- is it a knot? -/
def knotB (ps : List Pn) (Q : Pn) : Bool := (ps.all fun p => decide (p.sub Q) || apB p Q) && decide (2 ≤ (ins Q ps).length) && (cutsL Q (ins Q ps)).isEmpty
theorem c_part_ok' (h0 : T 0 = some f0_is_whole) (h2 : T 2 = some f2_is_part) {W H : Int} {Q : Pn} (hl : 0 ≤ Q.l) (ht : 0 ≤ Q.t) (hw : 0 < Q.w) (hg : 0 < Q.h) (h1 : Q.l + Q.w ≤ W) (h3 : Q.t + Q.h ≤ H) (hW : W ≤ 6) (hH : H ≤ 6) : call T (n + 2) 2 [.d Q.D, .d (wD W H)] = .ok (.d (.bool true)) := by
  rw [call_go h2 rfl (st := [some (.d Q.D), some (.d (wD W H)), none, none, none, none, none]) rfl]
  have hl := lc_map (C := call T (n + 1)) (t := .nm 6) (e := .call 0 (.cons (.var 6) (.cons (.cst (.int 0)) (.cons (.cst (.int 6)) .nil)))) (ρ := [some (.d Q.D), some (.d (wD W H)), none, none, none, none, none])
    PyData.int (fun _ => .bool true) [Q.l, Q.t, Q.w, Q.h] (fun a ha => by
      refine ⟨_, setT_nm .., .d (.bool true), ?_, rfl⟩
      have : 0 ≤ a ∧ a ≤ 6 := by simp at ha; rcases ha with rfl | rfl | rfl | rfl <;> omega
      simp [c_whole h0, this])
  have hlc := ev_lc (C := call T (n + 1)) (it := .seq (.var 0)) (ρ := [some (.d Q.D), some (.d (wD W H)), none, none, none, none, none]) (by simp [D_eq]) (by show 4 ≤ lim; decide) hl
  have ha := all_true [Q.l, Q.t, Q.w, Q.h]
  have ty : tyR (.d Q.D) .tuple = true := rfl
  have ln : bltR .len [.d Q.D] = .ok (.d (.int 4)) := rfl
  simp only [List.map_cons, List.map_nil] at ha hlc
  simp [f2_is_part, ty, ln, hlc, ha, hw, hg, h1, h3]
theorem c_is_knot (h : TK T) {W H : Int} {ps : List Pn} (hp : Pict W H ps) {Q : Pn} (hQ : Q.sub ⟨0, 0, W, H⟩) (hpos : Q.pos) :
    call T (n + 4) 49 [.d (pcD W H ps), .d Q.D] = .ok (.d (.bool (knotB ps Q))) := by
  have hw := hp.w
  have hh := hp.h
  have hlim := hp.lim
  have hb : PnB Q := by simp only [PnB, Pn.sub, Pn.pos] at *; omega
  have ep := c_part_ok' (n := n + 1) h.whole h.part (W := W) (H := H) (Q := Q) (by simp only [Pn.sub] at *; omega) (by simp only [Pn.sub] at *; omega) hpos.1 hpos.2 (by simp only [Pn.sub] at *; omega) (by simp only [Pn.sub] at *; omega) hw.2 hh.2
  have hil : (ins Q ps).length ≤ lim := Nat.le_trans (List.length_filter_le _ _) hlim
  have ec := c_cuts_in (n := n + 1) h.c hb false hil
  simp only [sq] at ec
  rw [call_go h.is_knot rfl (st := [some (.d (pcD W H ps)), some (.d Q.D), none, none, none, none]) rfl]
  simp [f49_is_knot, pcD, ep]
  rw [lcf_nm Pn.D (fun p => decide (p.sub Q)) Pn.D ps (by simp) hlim (by intro p _; simp [c_inside h.inside])]
  rw [show (ps.filter fun p => decide (p.sub Q)) = ins Q ps from rfl]
  simp
  rw [lc_nm Pn.D (fun p => .bool (decide (p.sub Q) || apB p Q)) ps (by simp) hlim (by
    intro p _
    by_cases h1 : p.sub Q <;> simp [c_inside h.inside, c_apart h.apart, h1])]
  simp
  unfold knotB
  by_cases h1 : (ps.all fun p => decide (p.sub Q) || apB p Q) = true
  · by_cases h2 : (ins Q ps).length < 2
    · have h2' : ¬ 2 ≤ (ins Q ps).length := by omega
      have h3 : ((ins Q ps).length : Int) < 2 := by omega
      simp only [h1]
      simp [h2, h2', h3]
    · have h2' : 2 ≤ (ins Q ps).length := by omega
      have h3 : ¬ ((ins Q ps).length : Int) < 2 := by omega
      simp only [h1]
      simp [h2, h2', h3, ec, isEmpty_map']
  · have h1' : (ps.all fun p => decide (p.sub Q) || apB p Q) = false := by simpa using h1
    simp only [h1']
    simp
end PP

set_option Elab.async false
set_option linter.all false
set_option autoImplicit false
set_option maxRecDepth 100000
set_option maxHeartbeats 2000000
namespace PP
open PySem
variable {T : Nat → Option Fn} {n : Nat}
@[simp] theorem eq_bb (a b : Bool) : eqR (.d (.bool a)) (.d (.bool b)) = .ok (decide (a = b)) := by
  cases a <;> cases b <;> rfl
theorem cuts_nil {P : Pn} {ps : List Pn} (h : ∀ s, linesL s P ps = []) : cutsL P ps = [] := by simp [cutsL, h]
theorem nil_cuts {P : Pn} {ps : List Pn} (h : cutsL P ps = []) (s : Bool) : linesL s P ps = [] := by
  refine List.eq_nil_iff_forall_not_mem.mpr fun c hm => ?_
  have : (s, c) ∈ cutsL P ps := mem_cutsL.mpr hm
  rw [h] at this; cases this
theorem lines_nil_perm {s : Bool} {P : Pn} {ps qs : List Pn} (e : ps.Perm qs) (h : linesL s P qs = []) : linesL s P ps = [] := by
  refine List.eq_nil_iff_forall_not_mem.mpr fun c hm => ?_
  rw [lines_perm e, h] at hm; cases hm
theorem knotB_iff {P Q : Pn} {ps : List Pn} (h : Til P ps) (hs : Q.sub P) (hQ : Q.pos) : knotB ps Q = true ↔ IsK P ps Q (ins Q ps) := by
  unfold knotB
  simp only [Bool.and_eq_true, List.all_eq_true, Bool.or_eq_true, decide_eq_true_eq, List.isEmpty_iff]
  constructor
  · rintro ⟨⟨h1, h2⟩, h3⟩
    have h1 : ∀ p ∈ ps, p.sub Q ∨ apart p Q := fun p hp => (h1 p hp).imp id (apB_iff (h.inn p hp).1 hQ).mp
    exact ⟨hs, til_ins h hs h1, fun p hp => (mem_ins.mp hp).1, h2, nil_cuts h3⟩
  · intro z
    refine ⟨⟨fun p hp => ?_, z.two⟩, cuts_nil z.none⟩
    rcases til_in h z.til z.has p hp with w | w
    · exact .inl w.2
    · exact .inr ((apB_iff (h.inn p hp).1 hQ).mpr w)
theorem isK_ins {P Q : Pn} {ps qs : List Pn} (h : Til P ps) (z : IsK P ps Q qs) : IsK P ps Q (ins Q ps) := by
  have e := ins_perm h z.til z.has
  exact ⟨z.sub, z.til.perm e.symm, fun p hp => (mem_ins.mp hp).1, by rw [e.length_eq]; exact z.two, fun s => lines_nil_perm e (z.none s)⟩
theorem IsK.pos {P Q : Pn} {ps qs : List Pn} (z : IsK P ps Q qs) : Q.pos := z.til.pos (by intro e; have := z.two; rw [e] at this; simp at this)
theorem corner_len {P Q : Pn} {ps qs : List Pn} (h : Til P ps) (z : IsK P ps Q qs) : (ps.filter fun p => (decide (Q.l ≤ p.l) && decide (p.l < Q.l + Q.w)) && (decide (Q.t ≤ p.t) && decide (p.t < Q.t + Q.h))).length = qs.length := by
  refine List.Perm.length_eq ((List.perm_ext_iff_of_nodup (h.nd.filter _) z.til.nd).mpr fun p => ?_)
  simp only [List.mem_filter, Bool.and_eq_true, decide_eq_true_eq]
  constructor
  · rintro ⟨hp, hc⟩
    rcases til_in h z.til z.has p hp with w | w
    · exact w.1
    · have hpos := (h.inn p hp).1
      exact absurd (w p.l p.t (by simp only [Pn.has, Pn.pos] at *; omega)) (fun y => y (by simp only [Pn.has]; omega))
  · intro hp
    have a := (z.til.inn p hp).1
    have b := (z.til.inn p hp).2
    refine ⟨z.has p hp, ?_⟩
    simp only [Pn.sub, Pn.pos] at *; omega
theorem wheel_lines {P : Pn} {m : Bool} {a b c d : Int} (h1 : 1 ≤ a) (h2 : a < b) (h3 : b < P.w) (h4 : 1 ≤ c) (h5 : c < d) (h6 : d < P.h) (s : Bool) : linesL s P (wheel P m a b c d) = [] := by
  refine List.eq_nil_iff_forall_not_mem.mpr fun x hm => ?_
  rw [mem_linesL] at hm
  obtain ⟨hx, hl⟩ := hm
  have g : ∀ p ∈ wheel P m a b c d, ¬ (p.lo s < x ∧ x < p.lo s + p.sz s) := hl
  cases m
  · have g1 := g (shiftP P.l P.t ⟨0, 0, b, c⟩) (by simp [wheel, wheelP])
    have g2 := g (shiftP P.l P.t ⟨b, 0, P.w - b, d⟩) (by simp [wheel, wheelP])
    have g3 := g (shiftP P.l P.t ⟨a, d, P.w - a, P.h - d⟩) (by simp [wheel, wheelP])
    have g4 := g (shiftP P.l P.t ⟨0, c, a, P.h - c⟩) (by simp [wheel, wheelP])
    cases s <;> simp only [shiftP, Pn.lo, Pn.sz] at * <;> omega
  · have g1 := g (shiftP P.l P.t (mirP P.w ⟨0, 0, b, c⟩)) (by simp [wheel, wheelP])
    have g2 := g (shiftP P.l P.t (mirP P.w ⟨b, 0, P.w - b, d⟩)) (by simp [wheel, wheelP])
    have g3 := g (shiftP P.l P.t (mirP P.w ⟨a, d, P.w - a, P.h - d⟩)) (by simp [wheel, wheelP])
    have g4 := g (shiftP P.l P.t (mirP P.w ⟨0, c, a, P.h - c⟩)) (by simp [wheel, wheelP])
    cases s <;> simp only [shiftP, mirP, Pn.lo, Pn.sz] at * <;> omega
theorem knotF_self {k : Nat} {P : Pn} {ps : List Pn} (h1 : ¬ ps.length = 1) (h : ∀ s, linesL s P ps = []) : knotF (k + 1) P ps = some P := by
  unfold knotF
  rw [if_neg h1, cuts_nil h]
structure K09 (T : Nat → Option Fn) : Prop where
  w : TW T
  k : TK T
  lines : T 29 = some f29_lines
  trees : T 33 = some f33_trees
  count : T 36 = some f36_count_trees
  knot_in : T 43 = some f43_knot_in
  knot : T 47 = some f47_knot
theorem k09_true (h : K09 T) (hl : T 112 = some f112_law) (ns : List Int) : call T 60 112 [.s (ns.map PyData.int)] = .ok (.d (.bool true)) := by
  rw [call_go hl rfl (st := [some (.s (ns.map PyData.int)), none, none, none, none, none, none, none, none, none, none, none, none, none, none, none]) rfl]
  simp [f112_law]
  refine for_go (· = _) (fun z => outK (seqK _ _ z)) (V := Option R × Option R × Option R × Option R × Option R × Option R × Option R × Option R × Option R × Option R × Option R × Option R × Option R × Option R × Option R) PyData.int (irange 0 12)
    (fun pre v => [some (.s (ns.map PyData.int)), v.1, v.2.1, v.2.2.1, v.2.2.2.1, v.2.2.2.2.1, v.2.2.2.2.2.1, v.2.2.2.2.2.2.1, v.2.2.2.2.2.2.2.1, v.2.2.2.2.2.2.2.2.1, v.2.2.2.2.2.2.2.2.2.1, v.2.2.2.2.2.2.2.2.2.2.1, v.2.2.2.2.2.2.2.2.2.2.2.1, v.2.2.2.2.2.2.2.2.2.2.2.2.1, v.2.2.2.2.2.2.2.2.2.2.2.2.2.1, v.2.2.2.2.2.2.2.2.2.2.2.2.2.2]) (fun _ _ => True) (none, none, none, none, none, none, none, none, none, none, none, none, none, none, none)
    (by simp; exact rngF_ok (j := 12) (by decide) (by decide)) rfl trivial ?_ ?_
  · rintro pre i post ⟨v1, v2, v3, v4, v5, v6, v7, v8, v9, v10, v11, v12, v13, v14, v15⟩ hpre -
    have hi : i ∈ irange 0 12 := by rw [← hpre]; simp
    rw [mem_irange] at hi
    obtain ⟨c, ec⟩ := c_cell' (n := 58) h.w.b ns (k := i % 9) (by omega)
    have h31 := mul_ii' (i := 31) (j := i) (by decide)
    generalize hcc : c + 31 * i = cell
    obtain ⟨W, H, ps, ep, pc⟩ := c_lpicture (n := 39) h.w cell
    have ek := c_knot (n := 48) h.k.c h.knot_in h.knot pc
    have et := c_count_trees (n := 47) h.k.c h.trees h.count pc
    have hki := knot_iff pc.til pc.W.pos (k := 7) pc.len
    have hw := pc.w
    have hh := pc.h
    -- the wheel
    obtain ⟨W', hW', eW⟩ : ∃ W' : Int, (3 ≤ W' ∧ W' ≤ 6) ∧ (if 3 < W then W else 3) = W' := ⟨_, by split <;> omega, rfl⟩
    obtain ⟨H', hH', eH⟩ : ∃ H' : Int, (3 ≤ H' ∧ H' ≤ 6) ∧ (if 3 < H then H else 3) = H' := ⟨_, by split <;> omega, rfl⟩
    obtain ⟨m, a, b, c', d, ewh, q1, q2, q3, q4, q5, q6⟩ := c_wheel (n := 57) h.w.b.mix h.w.wheel cell ⟨0, 0, W', H'⟩ (by show 2 < W'; omega) (by show 2 < H'; omega)
    have tw := til_wheel (m := m) q1 q2 q3 q4 q5 q6
    have lw := wheel_lines (m := m) q1 q2 q3 q4 q5 q6
    have hwl : (wheel ⟨0, 0, W', H'⟩ m a b c' d).length = 5 := by cases m <;> rfl
    generalize wheel ⟨0, 0, W', H'⟩ m a b c' d = ws at *
    have pw := pict_mk (W := W') (H := H') (by omega) (by omega) tw (by omega)
    have esw := sorted_Dl (ps := ws) (by rw [lim_eq]; omega)
    have lw' : ∀ s, linesL s ⟨0, 0, W', H'⟩ (srtP ws) = [] := fun s => lines_nil_perm (srtP_perm ws) (lw s)
    have hsl : (srtP ws).length = 5 := by rw [(srtP_perm ws).length_eq, hwl]
    have ekw := c_knot (n := 48) h.k.c h.knot_in h.knot pw
    rw [knotF_self (by omega) lw'] at ekw
    have elw := c_lines (n := 57) h.k.c.lines_in h.lines (W := W') (H := H') (by omega) (by omega) pw.lim
    rw [lw' true, lw' false] at elw
    have eiw := c_is_knot (n := 55) h.k pw (Q := ⟨0, 0, W', H'⟩) (by simp [Pn.sub]) (by simp only [Pn.pos]; omega)
    have zkw : knotB (srtP ws) ⟨0, 0, W', H'⟩ = true := (knotB_iff pw.til (by simp [Pn.sub]) (by simp only [Pn.pos]; omega)).mpr (isK_ins pw.til ⟨by simp [Pn.sub], pw.til, fun p hp => hp, by omega, lw'⟩)
    rw [zkw] at eiw
    -- the plain one
    obtain ⟨t, ett, hf, hcn⟩ := c_tree' h.w.b 7 59 cell W' H' (by omega) (by omega) (by omega) (by omega)
    have epl := c_lpicture_of h.w.b h.w.lpicture_of t 59 W' H' (by omega) (by omega)
    have hpp := picD_pcD W' H' (t.pns ⟨0, 0, W', H'⟩)
    rw [pns_L] at hpp
    rw [show (Pn.mk 0 0 W' H').l = 0 from rfl, show (Pn.mk 0 0 W' H').t = 0 from rfl, show (Pn.mk 0 0 W' H').w = W' from rfl, show (Pn.mk 0 0 W' H').h = H' from rfl] at hpp
    rw [hpp] at epl
    have pt := pict_mk (W := W') (H := H') (by omega) (by omega) (til_tree t _ hf) (by rw [pns_len]; omega)
    have prm := (srtP_perm (t.pns ⟨0, 0, W', H'⟩)).symm
    generalize srtP (t.pns ⟨0, 0, W', H'⟩) = qs at *
    have ekt := c_knot (n := 48) h.k.c h.knot_in h.knot pt
    have ect := c_count_trees (n := 47) h.k.c h.trees h.count pt
    have hkt := knot_iff pt.til pt.W.pos (k := 7) pt.len
    have htm := (mem_treesF 7 ⟨0, 0, W', H'⟩ qs pt.til pt.W.pos pt.len t).mpr ⟨hf, prm⟩
    have hne : allT W' H' qs ≠ [] := List.ne_nil_of_mem htm
    have hkn : knotF 7 ⟨0, 0, W', H'⟩ qs = none := by
      by_cases z : knotF 7 ⟨0, 0, W', H'⟩ qs = none
      · exact z
      · exact absurd (hkt.mpr z) hne
    rw [hkn] at ekt
    have hlt : ¬ ((allT W' H' qs).length : Int) < 1 := by
      have := List.length_pos_iff.mpr hne
      omega
    have nok : ∀ Q : Pn, Q.sub ⟨0, 0, W', H'⟩ → Q.pos → call T 59 49 [.d (pcD W' H' qs), .d Q.D] = .ok (.d (.bool false)) := by
      intro Q hQ hpos
      have e := c_is_knot (n := 55) h.k pt hQ hpos
      have : knotB qs Q = false := by
        cases z : knotB qs Q with
        | false => rfl
        | true => exact (knot_no_tree pt.til ((knotB_iff pt.til hQ hpos).mp z) hf prm).elim
      rw [this] at e; exact e
    -- the run
    have eqn : eqR (.d (.tuple [.tuple [], .tuple []])) (.d (.tuple [.tuple [], .tuple []])) = .ok true := rfl
    have rest : ∀ u1 u2 u3 u4 u5 u6 u7 u8 u9 u10 u11 u12, Nx (fun v : Option R × Option R × Option R × Option R × Option R × Option R × Option R × Option R × Option R × Option R × Option R × Option R × Option R × Option R × Option R => [some (.s (ns.map PyData.int)), v.1, v.2.1, v.2.2.1, v.2.2.2.1, v.2.2.2.2.1, v.2.2.2.2.2.1, v.2.2.2.2.2.2.1, v.2.2.2.2.2.2.2.1, v.2.2.2.2.2.2.2.2.1, v.2.2.2.2.2.2.2.2.2.1, v.2.2.2.2.2.2.2.2.2.2.1, v.2.2.2.2.2.2.2.2.2.2.2.1, v.2.2.2.2.2.2.2.2.2.2.2.2.1, v.2.2.2.2.2.2.2.2.2.2.2.2.2.1, v.2.2.2.2.2.2.2.2.2.2.2.2.2.2]) (fun _ => True)
        (xs (call T 59) (tl (tl (tl (tl (tl (forB (hd f112_law.body))))))) [some (.s (ns.map PyData.int)), some (.d (.int i)), some (.d (.int cell)), some (.d (pcD W H ps)), u1, u2, u3, u4, u5, u6, u7, u8, u9, u10, u11, u12]) := by
      intro u1 u2 u3 u4 u5 u6 u7 u8 u9 u10 u11 u12
      simp [f112_law, hd, tl, forB, eW, eH, ewh, esw]
      simp only [pcD] at ekw elw eiw
      simp [ekw, elw, eiw, optD, eqn, ett, epl]
      refine for_go (Nx _ _) (fun z => seqK _ _ z) (V := Option R × Option R × Option R × Option R) PyData.int (irange 0 6)
        (fun pre v => [some (.s (ns.map PyData.int)), some (.d (.int i)), some (.d (.int cell)), some (.d (pcD W H ps)), u1, some (.d (wD W' H')), some (.d (.tuple [wD W' H', .tuple ((srtP ws).map Pn.D)])), some (.d (pcD W' H' qs)), v.1, u6, v.2.1, v.2.2.1, v.2.2.2, u10, u11, u12]) (fun _ _ => True) (u5, u7, u8, u9)
        (by simp; exact rngF_ok (j := 6) (by decide) (by decide)) rfl trivial ?_ ?_
      · rintro pre j post ⟨w1, w2, w3, w4⟩ hpre2 -
        obtain ⟨x, ex, x1, x2⟩ := c_mix' (n := 58) h.w.b (cell + j) (p := 9811) (m := W') (by decide) (by decide) (by omega)
        obtain ⟨y, ey, y1, y2⟩ := c_mix' (n := 58) h.w.b (cell + j) (p := 9803) (m := H') (by decide) (by decide) (by omega)
        have k1 := nok ⟨x, y, W' - x, H' - y⟩ (by simp only [Pn.sub]; omega) (by simp only [Pn.pos]; omega)
        have k2 := nok ⟨0, 0, x + 1, y + 1⟩ (by simp only [Pn.sub]; omega) (by simp only [Pn.pos]; omega)
        simp [ex, ey, setAll, k1, k2]
        exact Nx.mk (some (.d (.int j)), _, _, _) rfl trivial
      · rintro ⟨w1, w2, w3, w4⟩ -
        simp [ekt, ect, optD, hlt]
        exact Nx.mk (_, _, _, _, _, _, _, _, _, _, _, _, _, _, _) rfl trivial
    simp only [f112_law, hd, tl, forB] at rest
    cases hk : knotF 7 ⟨0, 0, W, H⟩ ps with
    | none =>
      rw [hk] at ek
      have hne : allT W H ps ≠ [] := fun e => hki.mp e hk
      have hl0 : ¬ ((allT W H ps).length : Int) = 0 := by
        have := List.length_pos_iff.mpr hne
        omega
      simp [ec, h31, hcc, ep, ek, et, optD, hne]
      have := rest (some (.d .none)) v5 v6 v7 v8 v9 v10 v11 v12 v13 v14 v15
      simp at this
      exact this
    | some Q =>
      rw [hk] at ek
      obtain ⟨ks, z⟩ := knotF_some 7 _ ps Q pc.til pc.W.pos pc.len hk
      have he : allT W H ps = [] := hki.mpr (by rw [hk]; simp)
      have five := knot_five z.til z.two z.none
      have wide := knot_wide z.til z.two z.none true
      have high := knot_wide z.til z.two z.none false
      simp only [Pn.sz] at wide high
      have eik := c_is_knot (n := 55) h.k pc z.sub z.pos
      rw [(knotB_iff pc.til z.sub z.pos).mpr (isK_ins pc.til z)] at eik
      have hcl := corner_len pc.til z
      simp [ec, h31, hcc, ep, ek, et, optD, he]
      rw [lcf_nm Pn.D (fun p => (decide (Q.l ≤ p.l) && decide (p.l < Q.l + Q.w)) && (decide (Q.t ≤ p.t) && decide (p.t < Q.t + Q.h))) Pn.D ps (by simp) pc.lim (by
        intro p _
        by_cases c1 : Q.l ≤ p.l <;> by_cases c2 : p.l < Q.l + Q.w <;> by_cases c3 : Q.t ≤ p.t <;> simp [c1, c2, c3])]
      have n5 : ¬ ((ks.length : Int) < 5) := by omega
      have w3 : ¬ (Q.w < 3) := by omega
      have h3 : ¬ (Q.h < 3) := by omega
      simp [eik, hcl, n5, w3, h3]
      have := rest (some (.d Q.D)) v5 v6 v7 v8 (some (.d (.list ((ps.filter fun p => (decide (Q.l ≤ p.l) && decide (p.l < Q.l + Q.w)) && (decide (Q.t ≤ p.t) && decide (p.t < Q.t + Q.h))).map Pn.D)))) v10 (some (.d (.int Q.l))) (some (.d (.int Q.t))) (some (.d (.int Q.w))) (some (.d (.int Q.h))) v15
      simp  at this
      exact this
  · rintro ⟨v1, v2, v3, v4, v5, v6, v7, v8, v9, v10, v11, v12, v13, v14, v15⟩ -
    simp
end PP

set_option Elab.async false
set_option linter.all false
set_option autoImplicit false
set_option maxRecDepth 100000
set_option maxHeartbeats 2000000
namespace PP
open PySem
variable {T : Nat → Option Fn} {n : Nat}
/-! ### two walks, one in the other, that append -/
theorem loop2 {C : Nat → List R → Rs R} {i j f : Nat} {e1 e2 ex : Ex} (st : List D → Option R → Option R → Sto) (A B : List Tr) (g : Tr → Tr → Tr)
    (si : ∀ acc u v x, (st acc u v).set i (some (.d x)) = st acc (some (.d x)) v) (sj : ∀ acc u v x, (st acc u v).set j (some (.d x)) = st acc u (some (.d x)))
    (gf : ∀ acc u v, (st acc u v)[f]? = some (some (.l acc))) (sf : ∀ acc u v acc', (st acc u v).set f (some (.l acc')) = st acc' u v)
    (h1 : ∀ acc u v, evI C (.seq e1) (st acc u v) = .ok (A.map Tr.enc)) (h2 : ∀ acc (x : Tr) v, evI C (.seq e2) (st acc (some (.d x.enc)) v) = .ok (B.map Tr.enc))
    (h3 : ∀ acc (x y : Tr), b1 (ev C ex (st acc (some (.d x.enc)) (some (.d y.enc)))) R.frz = .ok (g x y).enc) (acc : List D) (u v : Option R) (hl : acc.length + A.length * B.length ≤ lim) :
    ∃ u' v', x1 C (.for_ (.nm i) (.seq e1) (.cons (.for_ (.nm j) (.seq e2) (.cons (.app f ex) .nil)) .nil)) (st acc u v) = .ok (.nx (st (acc ++ (A.flatMap fun x => B.map (g x)).map Tr.enc) u' v')) := by
  have key := for_go (C := C) (ρ := st acc u v) (t := .nm i) (it := .seq e1) (b := .cons (.for_ (.nm j) (.seq e2) (.cons (.app f ex) .nil)) .nil) (Nx (fun w : Option R × Option R => st (acc ++ (A.flatMap fun x => B.map (g x)).map Tr.enc) w.1 w.2) (fun _ => True)) (fun z => z) (V := Option R × Option R) Tr.enc A
    (fun pre w => st (acc ++ (pre.flatMap fun x => B.map (g x)).map Tr.enc) w.1 w.2) (fun _ _ => True) (u, v) (h1 _ _ _) (by simp) trivial ?_ ?_
  · obtain ⟨w, e, _⟩ := key
    exact ⟨w.1, w.2, e⟩
  · rintro pre x post ⟨u, v⟩ hpre -
    have hlx : pre.length + 1 ≤ A.length := by
      have := congrArg List.length hpre
      simp at this; omega
    have hfl : ((pre.flatMap fun x => B.map (g x)).map Tr.enc).length ≤ pre.length * B.length := by
      rw [List.length_map]
      exact flatMap_le (f := fun x => B.map (g x)) pre (fun a _ => by simp)
    have hmul : (pre.length + 1) * B.length ≤ A.length * B.length := Nat.mul_le_mul hlx (Nat.le_refl _)
    rw [Nat.succ_mul] at hmul
    rw [setT_nm, si]
    simp only [b1_ok, xs_cons']
    refine for_go (Nx _ _) (fun z => seqK _ _ z) (V := Option R) Tr.enc B
      (fun pre2 w => st (acc ++ (pre.flatMap fun x => B.map (g x)).map Tr.enc ++ (pre2.map (g x)).map Tr.enc) (some (.d x.enc)) w) (fun _ _ => True) v (h2 _ _ _) (by simp) trivial ?_ ?_
    · rintro pre2 y post2 v hpre2 -
      have hly : pre2.length + 1 ≤ B.length := by
        have := congrArg List.length hpre2
        simp at this; omega
      rw [setT_nm, sj]
      simp only [b1_ok, xs_cons', x1_app, gf, h3, appK_eq]
      rw [appS_ok (by simp only [List.length_append, List.length_cons, List.length_nil, List.length_map] at *; omega), sf]
      simp only [seqK_nx, xs_nil']
      exact Nx.mk (some (.d y.enc)) (by simp) trivial
    · rintro v -
      simp only [seqK_nx, xs_nil']
      exact Nx.mk (some (.d x.enc), v) (by simp) trivial
  · rintro w -
    exact Nx.mk w rfl trivial
/-! ### one pane alone -/
theorem icount_pos : ∀ {l : List Int}, l ≠ [] → 1 ≤ icount l
  | [], h => absurd rfl h
  | a :: l, _ => by
    unfold icount
    by_cases h : a ∈ l
    · rw [if_pos h]
      exact icount_pos (List.ne_nil_of_mem h)
    · rw [if_neg h]; omega
theorem icount_one : ∀ {l : List Int}, l ≠ [] → (icount l = 1 ↔ ∀ x ∈ l, ∀ y ∈ l, x = y)
  | [], h => absurd rfl h
  | a :: l, _ => by
    by_cases hl : l = []
    · subst hl; simp [icount]
    · have ih := icount_one hl
      by_cases h : a ∈ l
      · rw [icount, if_pos h, ih]
        constructor
        · intro z x hx y hy
          refine z x ?_ y ?_
          · rcases List.mem_cons.mp hx with e | e
            · rw [e]; exact h
            · exact e
          · rcases List.mem_cons.mp hy with e | e
            · rw [e]; exact h
            · exact e
        · intro z x hx y hy
          exact z x (List.mem_cons_of_mem _ hx) y (List.mem_cons_of_mem _ hy)
      · rw [icount, if_neg h]
        have := icount_pos hl
        constructor
        · intro e; omega
        · intro z
          obtain ⟨b, hb⟩ := List.exists_mem_of_ne_nil l hl
          exact absurd (z a (List.mem_cons_self ..) b (List.mem_cons_of_mem _ hb) ▸ hb) h
def spotK (P : Pn) (k : Int) : Int × Int := (P.l + k % P.w, P.t + k / P.w)
theorem spotK_has {P : Pn} (hP : P.pos) {k : Int} (h0 : 0 ≤ k) (h1 : k < P.w * P.h) : P.has (spotK P k).1 (spotK P k).2 := by
  have a := Int.emod_nonneg k (b := P.w) (by have := hP.1; omega)
  have b := Int.emod_lt_of_pos k hP.1
  have c : 0 ≤ k / P.w := Int.ediv_nonneg h0 (by have := hP.1; omega)
  have d : k / P.w < P.h := Int.ediv_lt_of_lt_mul hP.1 (by rw [Int.mul_comm]; exact h1)
  simp only [spotK, Pn.has]; omega
theorem spotK_all {P : Pn} (hP : P.pos) {x y : Int} (h : P.has x y) : ∃ k, 0 ≤ k ∧ k < P.w * P.h ∧ spotK P k = (x, y) := by
  obtain ⟨h1, h2, h3, h4⟩ := h
  have hw := hP.1
  refine ⟨(x - P.l) + P.w * (y - P.t), ?_, ?_, ?_⟩
  · have : 0 ≤ P.w * (y - P.t) := Int.mul_nonneg (by omega) (by omega)
    omega
  · have : P.w * (y - P.t) ≤ P.w * (P.h - 1) := Int.mul_le_mul_of_nonneg_left (by omega) (by omega)
    have e : P.w * (P.h - 1) = P.w * P.h - P.w := by rw [Int.mul_sub, Int.mul_one]
    rw [e] at this
    omega
  · have e1 : (x - P.l + P.w * (y - P.t)) % P.w = x - P.l := by
      rw [Int.add_mul_emod_self_left]; exact Int.emod_eq_of_lt (by omega) (by omega)
    have e2 : (x - P.l + P.w * (y - P.t)) / P.w = y - P.t := by
      rw [Int.add_mul_ediv_left _ _ (by omega), Int.ediv_eq_zero_of_lt (by omega) (by omega)]; omega
    simp only [spotK, e1, e2, Prod.mk.injEq]; omega
def gvs (m : Mp) (P : Pn) : List Int := (irange 0 (P.w * P.h)).map fun k => gv m (spotK P k).1 (spotK P k).2
theorem area_pos {P : Pn} (hP : P.pos) : 0 < P.w * P.h := Int.mul_pos hP.1 hP.2
theorem gvs_one {m : Mp} {P : Pn} {ps : List Pn} (g : Gr m P ps) (h : Til P ps) (hP : P.pos) : icount (gvs m P) = 1 ↔ ps.length = 1 := by
  have hne : gvs m P ≠ [] := by
    have : 0 ∈ irange 0 (P.w * P.h) := mem_irange.mpr ⟨by omega, area_pos hP⟩
    exact List.ne_nil_of_mem (List.mem_map.mpr ⟨0, this, rfl⟩)
  have mem : ∀ {x y}, P.has x y → gv m x y ∈ gvs m P := fun {x y} hx => by
    obtain ⟨k, k1, k2, k3⟩ := spotK_all hP hx
    exact List.mem_map.mpr ⟨k, mem_irange.mpr ⟨k1, k2⟩, by rw [k3]⟩
  rw [icount_one hne]
  have hin : ∀ p ∈ ps, p.has p.l p.t ∧ P.has p.l p.t := fun p hp => by
    have a := (h.inn p hp).1
    have b := (h.inn p hp).2
    simp only [Pn.has, Pn.sub, Pn.pos] at *; omega
  constructor
  · intro z
    have eq : ∀ p ∈ ps, ∀ q ∈ ps, p = q := by
      intro p hp q hq
      have e := z _ (mem (hin p hp).2) _ (mem (hin q hq).2)
      rw [g.same _ _ _ _ (hin p hp).2 (hin q hq).2] at e
      obtain ⟨r, hr, r1, r2⟩ := e
      rw [h.dis p hp r hr _ _ (hin p hp).1 r1, h.dis q hq r hr _ _ (hin q hq).1 r2]
    obtain ⟨p, hp⟩ := List.exists_mem_of_ne_nil ps (h.ne hP)
    have := nodup_len (l := ps) (r := [p]) h.nd (fun x hx => by simp [eq x hx p hp])
    have := List.length_pos_iff.mpr (h.ne hP)
    simp at *; omega
  · intro z a ha b hb
    obtain ⟨p, rfl⟩ := List.length_eq_one_iff.mp z
    have e := h.one
    subst e
    obtain ⟨k, hk, rfl⟩ := List.mem_map.mp ha
    obtain ⟨j, hj, rfl⟩ := List.mem_map.mp hb
    rw [mem_irange] at hk hj
    have s1 := spotK_has hP hk.1 hk.2
    have s2 := spotK_has hP hj.1 hj.2
    rw [g.same _ _ _ _ s1 s2]
    exact ⟨p, by simp, s1, s2⟩
@[simp] theorem tup_cut (s : Bool) (k : Int) (a b : Tr) : tupG [.str (kd s), .int k, a.enc, b.enc] = .ok (.d (Tr.cut s k a b).enc) := id rfl
theorem tup_side (k : Int) (a b : Tr) : tupG [.str t_side, .int k, a.enc, b.enc] = .ok (.d (Tr.cut true k a b).enc) := id rfl
theorem tup_stack (k : Int) (a b : Tr) : tupG [.str t_stack, .int k, a.enc, b.enc] = .ok (.d (Tr.cut false k a b).enc) := id rfl
theorem lensi_ok {l : List Int} (hl : l.length < 64) : lensiR (.l (l.map .int)) = .ok (.d (.int (icount l : Nat))) := by
  show (match ints? (l.map .int) with | some ks => if ks.length < 64 then Rs.ok (R.d (.int (icount ks : Nat))) else .bad | none => .bad) = _
  rw [ints_map]
  show (if l.length < 64 then Rs.ok (R.d (.int (icount l : Nat))) else .bad) = _
  rw [if_pos hl]
@[simp] theorem ev_lensi {C : Nat → List R → Rs R} {ρ : Sto} (a : Ex) : ev C (.lensi a) ρ = b1 (ev C a ρ) lensiR := by rw [ev]; rfl
theorem fdiv_ii {i j : Int} (h : 0 < j ∧ j < 1000000) : binR .fdiv (.d (.int i)) (.d (.int j)) = .ok (.d (.int (i / j))) := by
  show (if 0 < j ∧ j < 1000000 then Rs.ok (R.d (.int (i / j))) else .bad) = _
  rw [if_pos h]
theorem cuts_split {P : Pn} {k : Nat} {ps : List Pn} : (cutsL P ps).flatMap (treeS P k ps) = ((linesL true P ps).flatMap fun c => treeS P k ps (true, c)) ++ ((linesL false P ps).flatMap fun c => treeS P k ps (false, c)) := by
  simp [cutsL, List.flatMap_map]
theorem pre_le {α : Type} {f : α → List Tr} {pre post as : List α} {a : α} (h : pre ++ a :: post = as) : (pre.flatMap f).length + (f a).length ≤ (as.flatMap f).length := by
  rw [← h, List.flatMap_append, List.length_append, List.flatMap_cons, List.length_append]; omega
structure TL (T : Nat → Option Fn) : Prop where
  through : T 27 = some f27_law_through
  all : T 34 = some f34_law_all_trees
theorem PnW.area {P : Pn} (h : PnW P) (hw : P.w ≤ 6) (hh : P.h ≤ 6) : P.w * P.h ≤ 36 := by
  have h1 : P.w * P.h ≤ 6 * P.h := Int.mul_le_mul_of_nonneg_right hw (by have := h.pos.2; omega)
  omega
set_option maxHeartbeats 4000000 in
theorem c_law_all (h : TL T) {m : Mp} : ∀ (k : Nat) (P : Pn) (ps : List Pn) (n : Nat), Gr m P ps → Til P ps → PnW P → P.w ≤ 6 → P.h ≤ 6 → ps.length ≤ k → ps.length ≤ 7 → k + 2 ≤ n →
    call T n 34 [.m m, .d P.D] = .ok (.l ((treesF k P ps).map Tr.enc))
  | 0, P, ps, n, g, ht, hw, w6, h6, hk, h7, hn => by
    have := List.length_pos_iff.mpr (ht.ne hw.pos)
    omega
  | k + 1, P, ps, n, g, ht, hw, w6, h6, hk, h7, hn => by
    obtain ⟨n', rfl⟩ : ∃ n', n = n' + 2 := ⟨n - 2, by omega⟩
    have har := hw.area w6 h6
    have hap := area_pos hw.pos
    have hmul := mul_ii (i := P.w) (j := P.h) (by have := hw.pos.2; omega)
    have hgl : (gvs m P).length < 64 := by
      unfold gvs; rw [List.length_map, len_irange]; omega
    have hli := lensi_ok hgl
    have hlim : ps.length ≤ lim := by rw [lim_eq]; omega
    have hone := gvs_one g ht hw.pos
    rw [call_go h.all rfl (st := [some (.m m), some (.d P.D), none, none, none, none, none, none, none, none, none, none, none, none]) rfl]
    simp [f34_law_all_trees, hmul]
    rw [lc_nm PyData.int (fun k => .int (gv m (spotK P k).1 (spotK P k).2)) (irange 0 (P.w * P.h)) (by simp [hmul]; exact rngF_ok (by omega) (by omega)) (by rw [len_irange, lim_eq]; omega) (by
      intro j hj
      rw [mem_irange] at hj
      have v := g.val _ _ (spotK_has hw.pos hj.1 hj.2)
      have hm := mod_ii (i := j) (j := P.w) hw.pos.1
      have hf := fdiv_ii (i := j) (j := P.w) ⟨hw.pos.1, by omega⟩
      simp only [spotK] at v
      simp [hm, hf, mget2 v, spotK])]
    rw [show (irange 0 (P.w * P.h)).map (fun k => PyData.int (gv m (spotK P k).1 (spotK P k).2)) = (gvs m P).map .int by simp [gvs]]
    by_cases h1 : ps.length = 1
    · have h1' := hone.mpr h1
      simp [hli, h1', treesF, h1, Tr.enc]
    · have h1' : ¬ icount (gvs m P) = 1 := fun z => h1 (hone.mp z)
      have h1'' : ¬ ((icount (gvs m P) : Nat) : Int) = 1 := by omega
      have et := c_through (n := n') h.through hw.b g ht
      have hcut := treesF_cuts (P := P) (k := k) h1
      have hbd := trees_le (k + 1) P ps ht hw.pos h7
      have hbd2 := six_pow h7
      rw [hcut, cuts_split, List.length_append] at hbd
      have sub : ∀ (s : Bool) (c : Int), c ∈ linesL s P ps → call T (n' + 1) 34 [.m m, .d (P.c1 s c).D] = .ok (.l ((treesF k (P.c1 s c) (fst s c ps)).map Tr.enc)) ∧ call T (n' + 1) 34 [.m m, .d (P.c2 s c).D] = .ok (.l ((treesF k (P.c2 s c) (snd s c ps)).map Tr.enc)) := by
        intro s c hc
        obtain ⟨q1, q2, q3⟩ := ht.lens hw.pos hc
        have hm := mem_linesL.mp hc
        have t1 := ht.fst hm.1 hm.2
        have t2 := ht.snd hm.1 hm.2
        refine ⟨c_law_all h k _ _ _ (g.part ht t1 (fun p hp => (mem_fst.mp hp).1) (c1_sub hm.1)) t1 (hw.c1 hm.1) ?_ ?_ (by omega) (by omega) (by omega), c_law_all h k _ _ _ (g.part ht t2 (fun p hp => (mem_snd.mp hp).1) (c2_sub hm.1)) t2 (hw.c2 hm.1) ?_ ?_ (by omega) (by omega) (by omega)⟩
        all_goals (cases s <;> simp only [Pn.c1, Pn.c2, Pn.lo, Pn.sz] at * <;> omega)
      simp [hli, h1'', et]
      refine for_go (· = _) (fun z => outK (seqK _ _ z)) (V := Option R × Option R × Option R) PyData.int (linesL true P ps)
        (fun pre v => [some (.m m), some (.d P.D), some (.l ((pre.flatMap fun c => treeS P k ps (true, c)).map Tr.enc)), v.1, none, some (.d (.int P.l)), some (.d (.int P.t)), some (.d (.int P.w)), some (.d (.int P.h)), some (.d (.list ((linesL true P ps).map .int))), some (.d (.list ((linesL false P ps).map .int))), v.2.1, v.2.2, none]) (fun _ _ => True) (none, none, none)
        (by simp) rfl trivial ?_ ?_
      · rintro pre c post ⟨v1, v2, v3⟩ hpre -
        obtain ⟨s1, s2⟩ := sub true c (by rw [← hpre]; simp)
        have hple := pre_le (f := fun c => treeS P k ps (true, c)) hpre
        have htl : (treeS P k ps (true, c)).length = (treesF k (P.c1 true c) (fst true c ps)).length * (treesF k (P.c2 true c) (snd true c ps)).length := by
          simp [treeS, List.length_flatMap, List.map_const', List.sum_replicate_nat]
        simp only [Pn.c1, Pn.c2] at s1 s2 htl
        obtain ⟨u', v', e⟩ := loop2 (C := call T (n' + 1)) (i := 11) (j := 12) (f := 2)
          (e1 := .call 34 (.cons (.var 0) (.cons (.tup (.cons (.var 5) (.cons (.var 6) (.cons (.bin .sub (.var 3) (.var 5)) (.cons (.var 8) .nil))))) .nil)))
          (e2 := .call 34 (.cons (.var 0) (.cons (.tup (.cons (.var 3) (.cons (.var 6) (.cons (.bin .sub (.bin .add (.var 5) (.var 7)) (.var 3)) (.cons (.var 8) .nil))))) .nil)))
          (ex := .tup (.cons (.cst (.str t_side)) (.cons (.bin .sub (.var 3) (.var 5)) (.cons (.var 11) (.cons (.var 12) .nil)))))
          (fun acc u v => [some (.m m), some (.d P.D), some (.l acc), some (.d (.int c)), none, some (.d (.int P.l)), some (.d (.int P.t)), some (.d (.int P.w)), some (.d (.int P.h)), some (.d (.list ((linesL true P ps).map .int))), some (.d (.list ((linesL false P ps).map .int))), u, v, none])
          (treesF k ⟨P.l, P.t, c - P.l, P.h⟩ (fst true c ps)) (treesF k ⟨c, P.t, P.l + P.w - c, P.h⟩ (snd true c ps)) (fun x y => .cut true (c - P.l) x y)
          (fun _ _ _ _ => rfl) (fun _ _ _ _ => rfl) (fun _ _ _ => rfl) (fun _ _ _ _ => rfl)
          (by intro acc u v; simp [s1]) (by intro acc x v; simp [s2]) (by intro acc x y; simp [tup_side, -tupG_4])
          ((pre.flatMap fun c => treeS P k ps (true, c)).map Tr.enc) v2 v3 (by rw [List.length_map, lim_eq, ← htl]; omega)
        simp
        rw [e]
        simp
        exact Nx.mk (some (.d (.int c)), u', v') (by simp [treeS, Pn.c1, Pn.c2, Pn.lo]) trivial
      · rintro ⟨v1, v2, v3⟩ -
        simp
        refine for_go (· = _) (fun z => outK (seqK _ _ z)) (V := Option R × Option R × Option R) PyData.int (linesL false P ps)
          (fun pre v => [some (.m m), some (.d P.D), some (.l ((((linesL true P ps).flatMap fun c => treeS P k ps (true, c)) ++ (pre.flatMap fun c => treeS P k ps (false, c))).map Tr.enc)), v1, v.1, some (.d (.int P.l)), some (.d (.int P.t)), some (.d (.int P.w)), some (.d (.int P.h)), some (.d (.list ((linesL true P ps).map .int))), some (.d (.list ((linesL false P ps).map .int))), v.2.1, v.2.2, none]) (fun _ _ => True) (none, v2, v3)
          (by simp) (by simp) trivial ?_ ?_
        · rintro pre c post ⟨w1, w2, w3⟩ hpre -
          obtain ⟨s1, s2⟩ := sub false c (by rw [← hpre]; simp)
          have hple := pre_le (f := fun c => treeS P k ps (false, c)) hpre
          have htl : (treeS P k ps (false, c)).length = (treesF k (P.c1 false c) (fst false c ps)).length * (treesF k (P.c2 false c) (snd false c ps)).length := by
            simp [treeS, List.length_flatMap, List.map_const', List.sum_replicate_nat]
          simp only [Pn.c1, Pn.c2] at s1 s2 htl
          obtain ⟨u', v', e⟩ := loop2 (C := call T (n' + 1)) (i := 11) (j := 12) (f := 2)
            (e1 := .call 34 (.cons (.var 0) (.cons (.tup (.cons (.var 5) (.cons (.var 6) (.cons (.var 7) (.cons (.bin .sub (.var 4) (.var 6)) .nil))))) .nil)))
            (e2 := .call 34 (.cons (.var 0) (.cons (.tup (.cons (.var 5) (.cons (.var 4) (.cons (.var 7) (.cons (.bin .sub (.bin .add (.var 6) (.var 8)) (.var 4)) .nil))))) .nil)))
            (ex := .tup (.cons (.cst (.str t_stack)) (.cons (.bin .sub (.var 4) (.var 6)) (.cons (.var 11) (.cons (.var 12) .nil)))))
            (fun acc u v => [some (.m m), some (.d P.D), some (.l acc), v1, some (.d (.int c)), some (.d (.int P.l)), some (.d (.int P.t)), some (.d (.int P.w)), some (.d (.int P.h)), some (.d (.list ((linesL true P ps).map .int))), some (.d (.list ((linesL false P ps).map .int))), u, v, none])
            (treesF k ⟨P.l, P.t, P.w, c - P.t⟩ (fst false c ps)) (treesF k ⟨P.l, c, P.w, P.t + P.h - c⟩ (snd false c ps)) (fun x y => .cut false (c - P.t) x y)
            (fun _ _ _ _ => rfl) (fun _ _ _ _ => rfl) (fun _ _ _ => rfl) (fun _ _ _ _ => rfl)
            (by intro acc u v; simp [s1]) (by intro acc x v; simp [s2]) (by intro acc x y; simp [tup_stack, -tupG_4])
            ((((linesL true P ps).flatMap fun c => treeS P k ps (true, c)) ++ (pre.flatMap fun c => treeS P k ps (false, c))).map Tr.enc) w2 w3 (by rw [List.length_map, List.length_append, lim_eq, ← htl]; omega)
          simp only [setT_nm, b1_ok, xs_cons', List.set_cons_succ, List.set_cons_zero]
          rw [e]
          simp
          exact Nx.mk (some (.d (.int c)), u', v') (by simp [treeS, Pn.c1, Pn.c2, Pn.lo]) trivial
        · rintro ⟨w1, w2, w3⟩ -
          simp [hcut, cuts_split]
end PP

set_option Elab.async false
set_option linter.all false
set_option autoImplicit false
set_option maxRecDepth 100000
set_option maxHeartbeats 2000000
namespace PP
open PySem
variable {T : Nat → Option Fn} {n : Nat}
theorem c_ltrees_of (h : TL T) (h28 : T 28 = some f28_law_grid) (h35 : T 35 = some f35_law_trees_of) {W H : Int} {ps : List Pn} (hp : Pict W H ps) :
    call T (n + 12) 35 [.d (pcD W H ps)] = .ok (.d (.tuple ((srtT (allT W H ps)).map Tr.enc))) := by
  have eg := c_grid (n := n + 10) h28 (X := wD W H) hp.b (by have := hp.len; omega)
  have eg' : call T (n + 11) 28 [.d (pcD W H ps)] = .ok (.m (gridM ps)) := eg
  have e := c_law_all h 7 ⟨0, 0, W, H⟩ ps (n + 11) (gr_mk hp.til) hp.til hp.W hp.w.2 hp.h.2 hp.len hp.len (by omega)
  have hl := allT_len hp
  have hs := sorted_tr (ts := allT W H ps) (fun t ht => by
    have := trees_count hp.til hp.W.pos hp.len t ht
    have := hp.len
    omega) (by rw [lim_eq]; omega)
  rw [call_go h35 rfl (st := [some (.d (pcD W H ps))]) rfl]
  rw [show treesF 7 ⟨0, 0, W, H⟩ ps = allT W H ps from rfl] at e
  simp [f35_law_trees_of, eg', e, hs]
theorem plain_tr : ∀ t : Tr, plain t.enc = true
  | .pane => by decide
  | .cut s k a b => by
    have := plain_tr a
    have := plain_tr b
    simp [Tr.enc, plain, plainAll, lim_eq, *]
theorem plain_trs : ∀ ts : List Tr, plainAll (ts.map Tr.enc) = true
  | [] => rfl
  | t :: ts => by simp [plainAll, plain_tr, plain_trs ts]
theorem depth_trs {k : Nat} : ∀ ts : List Tr, (∀ t ∈ ts, t.count ≤ k) → PyData.depthAll (ts.map Tr.enc) ≤ k
  | [], _ => by simp [PyData.depthAll]
  | t :: ts, h => by
    have a := depth_tr t
    have b := h t (List.mem_cons_self ..)
    have c := depth_trs ts fun u hu => h u (List.mem_cons_of_mem _ hu)
    simp only [List.map_cons, PyData.depthAll]; omega
structure K05 (T : Nat → Option Fn) : Prop where
  w : TW T
  c : TC T
  l : TL T
  same : T 24 = some f24_law_same
  grid : T 28 = some f28_law_grid
  trees : T 33 = some f33_trees
  count : T 36 = some f36_count_trees
  of : T 35 = some f35_law_trees_of
theorem k05_true (h : K05 T) (hl : T 111 = some f111_law) (ns : List Int) : call T 60 111 [.s (ns.map PyData.int)] = .ok (.d (.bool true)) := by
  rw [call_go hl rfl (st := [some (.s (ns.map PyData.int)), none, none, none, none, none, none]) rfl]
  simp [f111_law]
  refine for_go (· = _) (fun z => outK (seqK _ _ z)) (V := Option R × Option R × Option R) PyData.int (irange 0 8)
    (fun pre v => [some (.s (ns.map PyData.int)), v.1, none, none, v.2.1, v.2.2, none]) (fun _ _ => True) (none, none, none)
    (by simp; exact rngF_ok (j := 8) (by decide) (by decide)) rfl trivial ?_ ?_
  · rintro pre i post ⟨v1, v2, v3⟩ hpre -
    have hi : i ∈ irange 0 8 := by rw [← hpre]; simp
    rw [mem_irange] at hi
    obtain ⟨c, ec⟩ := c_cell' (n := 58) h.w.b ns (k := i) (by omega)
    have h3 := mul_ii' (i := 3) (j := i) (by decide)
    obtain ⟨W, H, ps, ep, pc⟩ := c_lpicture (n := 39) h.w (c + 3 * i)
    have e1 := c_ltrees_of (n := 47) h.l h.grid h.of pc
    have e2 := c_trees (n := 48) h.c h.trees pc
    have e3 := c_count_trees (n := 47) h.c h.trees h.count pc
    have hlen := allT_len pc
    have hsl := (srtT_perm (allT W H ps)).length_eq
    have hd : ∀ t ∈ srtT (allT W H ps), t.count ≤ 7 := fun t ht => by
      have := trees_count pc.til pc.W.pos pc.len t ((srtT_perm _).mem_iff.mp ht)
      have := pc.len
      omega
    have hdp := depth_trs _ hd
    have es := c_same h.same 59 (.tuple [.tuple ((srtT (allT W H ps)).map Tr.enc), .int (allT W H ps).length])
      (by
        have := plain_trs (srtT (allT W H ps))
        simp [plain, plainAll, this, hsl, lim_eq]; omega)
      (by simp only [PyData.depth, PyData.depthAll]; omega)
    simp [ec, h3, ep, e1, e2, e3, hsl, es]
    exact Nx.mk (some (.d (.int i)), _, _) rfl trivial
  · rintro ⟨v1, v2, v3⟩ -
    have p1 : Pict 2 2 [⟨0, 0, 1, 1⟩, ⟨0, 1, 1, 1⟩, ⟨1, 0, 1, 1⟩, ⟨1, 1, 1, 1⟩] := by
      refine ⟨by decide, by decide, ⟨by decide, ?_, by decide, ?_⟩, by decide, by decide⟩
      · intro p hp q hq x y hx hy
        simp only [List.mem_cons, List.not_mem_nil, or_false] at hp hq
        rcases hp with rfl | rfl | rfl | rfl <;> rcases hq with rfl | rfl | rfl | rfl <;> first | rfl | (exfalso; simp only [Pn.has] at hx hy; omega)
      · intro x y hx
        simp only [List.mem_cons, List.not_mem_nil, or_false, exists_eq_or_imp, exists_eq_left]
        simp only [Pn.has] at *; omega
    have p2 : Pict 6 1 [⟨0, 0, 1, 1⟩, ⟨1, 0, 1, 1⟩, ⟨2, 0, 1, 1⟩, ⟨3, 0, 1, 1⟩, ⟨4, 0, 1, 1⟩, ⟨5, 0, 1, 1⟩] := by
      refine ⟨by decide, by decide, ⟨by decide, ?_, by decide, ?_⟩, by decide, by decide⟩
      · intro p hp q hq x y hx hy
        simp only [List.mem_cons, List.not_mem_nil, or_false] at hp hq
        rcases hp with rfl | rfl | rfl | rfl | rfl | rfl <;> rcases hq with rfl | rfl | rfl | rfl | rfl | rfl <;> first | rfl | (exfalso; simp only [Pn.has] at hx hy; omega)
      · intro x y hx
        simp only [List.mem_cons, List.not_mem_nil, or_false, exists_eq_or_imp, exists_eq_left]
        simp only [Pn.has] at *; omega
    have e1 := c_count_trees (n := 47) h.c h.trees h.count p1
    have e2 := c_count_trees (n := 47) h.c h.trees h.count p2
    have l1 : (allT 2 2 [⟨0, 0, 1, 1⟩, ⟨0, 1, 1, 1⟩, ⟨1, 0, 1, 1⟩, ⟨1, 1, 1, 1⟩]).length = 2 := by decide +kernel
    have l2 : (allT 6 1 [⟨0, 0, 1, 1⟩, ⟨1, 0, 1, 1⟩, ⟨2, 0, 1, 1⟩, ⟨3, 0, 1, 1⟩, ⟨4, 0, 1, 1⟩, ⟨5, 0, 1, 1⟩]).length = 42 := by decide +kernel
    rw [l1] at e1
    rw [l2] at e2
    simp only [pcD, List.map_cons, List.map_nil] at e1 e2
    simp
    rw [lc_nm PyData.int (fun x => (Pn.mk x 0 1 1).D) (irange 0 6) (by simp; exact rngF_ok (j := 6) (by decide) (by decide)) (by decide) (by intro a _; simp)]
    have ei : irange 0 6 = [0, 1, 2, 3, 4, 5] := by decide
    rw [ei]
    simp [e1, e2]
end PP

set_option Elab.async false
set_option linter.all false
set_option autoImplicit false
set_option maxRecDepth 100000
set_option maxHeartbeats 2000000
namespace PP
open PySem
/-! ### sorted alike -/
theorem srt_eq {ps qs : List (List Int)} (e : ps.Perm qs) : srt ps = srt qs :=
  List.Perm.eq_of_pairwise (fun _ _ _ _ h1 h2 => List.le_antisymm h1 h2) (srt_le ps) (srt_le qs) ((srt_perm ps).trans (e.trans (srt_perm qs).symm))
theorem map_L_inj : ∀ {ps qs : List Pn}, ps.map Pn.L = qs.map Pn.L → ps = qs
  | [], [], _ => rfl
  | [], _ :: _, h => by simp at h
  | _ :: _, [], h => by simp at h
  | p :: ps, q :: qs, h => by
    simp only [List.map_cons, List.cons.injEq] at h
    rw [Pn.L_inj h.1, map_L_inj h.2]
theorem srtP_eq {ps qs : List Pn} (e : ps.Perm qs) : srtP ps = srtP qs := by
  apply map_L_inj
  rw [srtP_L, srtP_L]
  exact srt_eq (e.map _)
/-! data -/
mutual
theorem eqv_alike : ∀ {x y : D}, PySem.W.alike x y = true → PyData.eqv x y = true → x = y
  | .none, y, h, _ => by cases y <;> first | rfl | (simp [PySem.W.alike] at h)
  | .bool a, y, h, e => by cases y <;> first | (simp [PyData.eqv] at e; rw [e]; done) | (simp [PySem.W.alike] at h)
  | .int a, y, h, e => by cases y <;> first | (simp [PySem.W.alike] at h; done) | (simp [PyData.eqv] at e; rw [e])
  | .str a, y, h, e => by cases y <;> first | (simp [PySem.W.alike] at h; done) | (simp [PyData.eqv] at e; rw [e])
  | .list a, y, h, e => by
    cases y with
    | list b => simp only [PySem.W.alike] at h; simp only [PyData.eqv] at e; rw [eqv_alikeAll h e]
    | _ => simp [PySem.W.alike] at h
  | .tuple a, y, h, e => by
    cases y with
    | tuple b => simp only [PySem.W.alike] at h; simp only [PyData.eqv] at e; rw [eqv_alikeAll h e]
    | _ => simp [PySem.W.alike] at h
  | .dict a, y, h, _ => by cases y <;> simp [PySem.W.alike] at h
theorem eqv_alikeAll : ∀ {xs ys : List D}, PySem.W.alikeAll xs ys = true → PyData.eqvAll xs ys = true → xs = ys
  | [], [], _, _ => rfl
  | [], _ :: _, _, e => by simp [PyData.eqvAll] at e
  | _ :: _, [], _, e => by simp [PyData.eqvAll] at e
  | x :: xs, y :: ys, h, e => by
    simp only [PySem.W.alikeAll, Bool.and_eq_true] at h
    simp only [PyData.eqvAll, Bool.and_eq_true] at e
    rw [eqv_alike h.1 e.1, eqv_alikeAll h.2 e.2]
end
theorem toks_alike {x y : D} (h : PySem.W.alike x y = true) (e : PySem.W.keyToks x = PySem.W.keyToks y) : x = y := by
  cases q : PyData.eqv x y with
  | true => exact eqv_alike h q
  | false =>
    have z := (PySem.W.toks_eqv x y h).2 q [] [Sum.inl 0]
    have z0 := (PySem.W.toks_eqv x y h).2 q [] []
    rw [e, List.append_nil] at z z0
    have z1 := PySem.W.lex_pre (PySem.W.keyToks y) [] [Sum.inl 0]
    rw [List.append_nil] at z1
    rw [z1] at z
    have z2 := PySem.W.lex_pre (PySem.W.keyToks y) [] []
    rw [List.append_nil] at z2
    rw [z2] at z
    cases z
theorem sortD_eq {xs ys : List D} (e : xs.Perm ys) (h : ∀ x ∈ xs, ∀ y ∈ xs, PySem.W.alike x y = true) : sortD xs = sortD ys := by
  have tl := PySem.W.sortLe_total (PyProof.Rows.listOrd PyProof.Rows.itemOrd) false (fun d : D => PySem.W.keyToks d)
  have p1 := PySem.W.sort_pairwise tl xs
  have p2 := PySem.W.sort_pairwise tl ys
  have m1 := List.mergeSort_perm xs (PySem.W.dataLe false id)
  have m2 := List.mergeSort_perm ys (PySem.W.dataLe false id)
  refine List.Perm.eq_of_pairwise (fun a b ha hb h1 h2 => ?_) p1 p2 (m1.trans (e.trans m2.symm))
  have ha' := m1.mem_iff.mp ha
  have hb' := e.mem_iff.mpr (m2.mem_iff.mp hb)
  refine toks_alike (h a ha' b hb') ?_
  have q1 : (!(PyProof.Rows.lexLt PyProof.Rows.itemOrd (PySem.W.keyToks b) (PySem.W.keyToks a))) = true := h1
  have q2 : (!(PyProof.Rows.lexLt PyProof.Rows.itemOrd (PySem.W.keyToks a) (PySem.W.keyToks b))) = true := h2
  exact (PyProof.Rows.listOrd PyProof.Rows.itemOrd).total _ _ (by simpa using q2) (by simpa using q1)
theorem srtT_eq {ts us : List Tr} (e : ts.Perm us) : (srtT ts).map Tr.enc = (srtT us).map Tr.enc := by
  rw [srtT_enc, srtT_enc]
  refine sortD_eq (e.map _) ?_
  intro x hx y hy
  obtain ⟨a, _, rfl⟩ := List.mem_map.mp hx
  obtain ⟨b, _, rfl⟩ := List.mem_map.mp hy
  exact alike_tr a b
mutual
theorem eqv_refl : ∀ {x : D}, plain x = true → PyData.eqv x x = true
  | .none, _ => by simp [PyData.eqv]
  | .bool a, _ => by simp [PyData.eqv]
  | .int a, _ => by simp [PyData.eqv]
  | .str a, _ => by simp [PyData.eqv]
  | .tuple a, h => by
    simp only [plain, Bool.and_eq_true] at h
    simp only [PyData.eqv]; exact eqv_reflAll h.2
  | .list a, h => by cases h
  | .dict a, h => by cases h
theorem eqv_reflAll : ∀ {xs : List D}, plainAll xs = true → PyData.eqvAll xs xs = true
  | [], _ => by simp [PyData.eqvAll]
  | x :: xs, h => by
    simp only [plainAll, Bool.and_eq_true] at h
    simp only [PyData.eqvAll, Bool.and_eq_true]
    exact ⟨eqv_refl h.1, eqv_reflAll h.2⟩
end
/-! ### turns -/
structure Tn where
  o : Bool
  m : Bool
  f : Bool
  deriving DecidableEq
def Tn.nm : Tn → Str
  | ⟨false, false, false⟩ => t_same
  | ⟨true, false, true⟩ => t_right
  | ⟨false, true, true⟩ => t_half
  | ⟨true, true, false⟩ => t_left
  | ⟨false, true, false⟩ => t_mirror
  | ⟨false, false, true⟩ => t_flip
  | ⟨true, false, false⟩ => t_over
  | ⟨true, true, true⟩ => t_under
def turnsL : List Tn := [⟨false, false, false⟩, ⟨true, false, true⟩, ⟨false, true, true⟩, ⟨true, true, false⟩, ⟨false, true, false⟩, ⟨false, false, true⟩, ⟨true, false, false⟩, ⟨true, true, true⟩]
def tX (τ : Tn) (W : Int) (p : Pn) : Int := match τ.m with
  | true => W - p.l - p.w
  | false => p.l
def tY (τ : Tn) (H : Int) (p : Pn) : Int := match τ.f with
  | true => H - p.t - p.h
  | false => p.t
def tPn (τ : Tn) (W H : Int) (p : Pn) : Pn := match τ.o with
  | true => ⟨tY τ H p, tX τ W p, p.h, p.w⟩
  | false => ⟨tX τ W p, tY τ H p, p.w, p.h⟩
def tW (τ : Tn) (W H : Int) : Int := match τ.o with
  | true => H
  | false => W
def tH (τ : Tn) (W H : Int) : Int := match τ.o with
  | true => W
  | false => H
def Tn.rv (τ : Tn) : Bool → Bool
  | true => τ.m
  | false => τ.f
def Tn.kd (τ : Tn) (s : Bool) : Bool := match τ.o with
  | true => !s
  | false => s
def Tr.turn (τ : Tn) : Tr → Pn → Tr
  | .pane, _ => .pane
  | .cut s k a b, P => match τ.rv s with
    | true => .cut (τ.kd s) (P.sz s - k) (b.turn τ (P.c2 s (P.lo s + k))) (a.turn τ (P.c1 s (P.lo s + k)))
    | false => .cut (τ.kd s) k (a.turn τ (P.c1 s (P.lo s + k))) (b.turn τ (P.c2 s (P.lo s + k)))
theorem tPn_whole (τ : Tn) (W H : Int) : tPn τ W H ⟨0, 0, W, H⟩ = ⟨0, 0, tW τ W H, tH τ W H⟩ := by
  obtain ⟨o, m, f⟩ := τ
  cases o <;> cases m <;> cases f <;> simp [tPn, tX, tY, tW, tH]
theorem turn_c {τ : Tn} {W H : Int} {P : Pn} {s : Bool} {k : Int} : (τ.rv s = false → (tPn τ W H P).c1 (τ.kd s) ((tPn τ W H P).lo (τ.kd s) + k) = tPn τ W H (P.c1 s (P.lo s + k)) ∧ (tPn τ W H P).c2 (τ.kd s) ((tPn τ W H P).lo (τ.kd s) + k) = tPn τ W H (P.c2 s (P.lo s + k))) ∧
    (τ.rv s = true → (tPn τ W H P).c1 (τ.kd s) ((tPn τ W H P).lo (τ.kd s) + (P.sz s - k)) = tPn τ W H (P.c2 s (P.lo s + k)) ∧ (tPn τ W H P).c2 (τ.kd s) ((tPn τ W H P).lo (τ.kd s) + (P.sz s - k)) = tPn τ W H (P.c1 s (P.lo s + k))) ∧ (tPn τ W H P).sz (τ.kd s) = P.sz s := by
  obtain ⟨o, m, f⟩ := τ
  cases o <;> cases m <;> cases f <;> cases s <;> simp [tPn, tX, tY, Tn.rv, Tn.kd, Pn.c1, Pn.c2, Pn.lo, Pn.sz] <;> omega
theorem turn_fit (τ : Tn) (W H : Int) : ∀ (t : Tr) (P : Pn), t.Fit P → (t.turn τ P).Fit (tPn τ W H P)
  | .pane, P, h => by
    have h1 : 1 ≤ P.w ∧ 1 ≤ P.h := h
    show 1 ≤ (tPn τ W H P).w ∧ 1 ≤ (tPn τ W H P).h
    obtain ⟨o, m, f⟩ := τ
    cases o <;> simp only [tPn] <;> omega
  | .cut s k a b, P, h => by
    obtain ⟨h1, h2, h3⟩ := fit_cut.mp h
    obtain ⟨c1, c2, c3⟩ := turn_c (τ := τ) (W := W) (H := H) (P := P) (s := s) (k := k)
    have i1 := turn_fit τ W H a _ h2
    have i2 := turn_fit τ W H b _ h3
    unfold Tr.turn
    cases q : τ.rv s with
    | true =>
      obtain ⟨e1, e2⟩ := c2 q
      exact fit_cut.mpr ⟨by rw [c3]; omega, by rw [e1]; exact i2, by rw [e2]; exact i1⟩
    | false =>
      obtain ⟨e1, e2⟩ := c1 q
      exact fit_cut.mpr ⟨by rw [c3]; exact h1, by rw [e1]; exact i1, by rw [e2]; exact i2⟩
theorem turn_count (τ : Tn) : ∀ (t : Tr) (P : Pn), (t.turn τ P).count = t.count
  | .pane, _ => rfl
  | .cut s k a b, P => by
    unfold Tr.turn
    cases q : τ.rv s with
    | true => show (b.turn τ _).count + (a.turn τ _).count = a.count + b.count; rw [turn_count, turn_count, Nat.add_comm]
    | false => show (a.turn τ _).count + (b.turn τ _).count = a.count + b.count; rw [turn_count, turn_count]
theorem turn_pns (τ : Tn) (W H : Int) : ∀ (t : Tr) (P : Pn), ((t.turn τ P).pns (tPn τ W H P)).Perm ((t.pns P).map (tPn τ W H))
  | .pane, P => .refl _
  | .cut s k a b, P => by
    obtain ⟨c1, c2, c3⟩ := turn_c (τ := τ) (W := W) (H := H) (P := P) (s := s) (k := k)
    have i1 := turn_pns τ W H a (P.c1 s (P.lo s + k))
    have i2 := turn_pns τ W H b (P.c2 s (P.lo s + k))
    rw [Tr.pns, List.map_append]
    unfold Tr.turn
    cases q : τ.rv s with
    | true =>
      obtain ⟨e1, e2⟩ := c2 q
      simp only [Tr.pns]
      rw [e1, e2]
      exact (i2.append i1).trans List.perm_append_comm
    | false =>
      obtain ⟨e1, e2⟩ := c1 q
      simp only [Tr.pns]
      rw [e1, e2]
      exact i1.append i2
theorem turn_same : ∀ (t : Tr) (P : Pn), t.turn ⟨false, false, false⟩ P = t
  | .pane, _ => rfl
  | .cut s k a b, P => by
    unfold Tr.turn
    have e : (Tn.mk false false false).rv s = false := by cases s <;> rfl
    rw [e]
    show Tr.cut s k (a.turn _ _) (b.turn _ _) = _
    rw [turn_same, turn_same]
end PP

set_option Elab.async false
set_option linter.all false
set_option autoImplicit false
set_option maxRecDepth 100000
set_option maxHeartbeats 2000000
namespace PP
open PySem
/-! ### cuts, spot by spot -/
structure Q4 where
  a : Int
  b : Int
  c : Int
  d : Int
  deriving DecidableEq
def Q4.D (q : Q4) : D := .tuple [wD q.a q.b, wD q.c q.d]
def cutS (P : Pn) (s : Bool) (c : Int) : List Q4 := match s with
  | true => (irange 0 P.h).map fun j => ⟨c - 1, P.t + j, c, P.t + j⟩
  | false => (irange 0 P.w).map fun j => ⟨P.l + j, c - 1, P.l + j, c⟩
def Tr.cts : Tr → Pn → List Q4
  | .pane, _ => []
  | .cut s k a b, P => cutS P s (P.lo s + k) ++ a.cts (P.c1 s (P.lo s + k)) ++ b.cts (P.c2 s (P.lo s + k))
def sX (τ : Tn) (W x : Int) : Int := match τ.m with
  | true => W - 1 - x
  | false => x
def sY (τ : Tn) (H y : Int) : Int := match τ.f with
  | true => H - 1 - y
  | false => y
def spT (τ : Tn) (W H x y : Int) : Int × Int := match τ.o with
  | true => (sY τ H y, sX τ W x)
  | false => (sX τ W x, sY τ H y)
/-- two spots, the lesser first -/
def mkQ (p q : Int × Int) : Q4 := if q.1 < p.1 ∨ (q.1 = p.1 ∧ q.2 < p.2) then ⟨q.1, q.2, p.1, p.2⟩ else ⟨p.1, p.2, q.1, q.2⟩
def q4T (τ : Tn) (W H : Int) (q : Q4) : Q4 := mkQ (spT τ W H q.a q.b) (spT τ W H q.c q.d)
theorem irange_rev (n : Int) : ((irange 0 n).map fun j => n - 1 - j).Perm (irange 0 n) := by
  refine (List.perm_ext_iff_of_nodup ?_ ((irange_lt 0 n).imp fun h e => by omega)).mpr fun x => ?_
  · exact List.pairwise_map.mpr ((irange_lt 0 n).imp fun h e => by omega)
  · simp only [List.mem_map, mem_irange]
    constructor
    · rintro ⟨j, h, rfl⟩; omega
    · intro h; exact ⟨n - 1 - x, by omega, by omega⟩
theorem map_rev {β : Type} (n : Int) (g : Int → β) : ((irange 0 n).map fun j => g (n - 1 - j)).Perm ((irange 0 n).map g) := by
  have := (irange_rev n).map g
  rw [List.map_map] at this
  exact this
theorem cutS_turn {τ : Tn} {W H : Int} {P : Pn} {s : Bool} {k : Int} : (cutS (tPn τ W H P) (τ.kd s) ((tPn τ W H P).lo (τ.kd s) + (if τ.rv s then P.sz s - k else k))).Perm ((cutS P s (P.lo s + k)).map (q4T τ W H)) := by
  obtain ⟨o, m, f⟩ := τ
  cases s with
  | true =>
    -- along the rows
    have e : (cutS P true (P.lo true + k)).map (q4T ⟨o, m, f⟩ W H) = (irange 0 P.h).map fun j => q4T ⟨o, m, f⟩ W H ⟨P.l + k - 1, P.t + j, P.l + k, P.t + j⟩ := by simp [cutS, Pn.lo]
    rw [e]
    cases f
    · refine List.Perm.of_eq ?_
      cases o <;> cases m <;> simp [cutS, tPn, tX, tY, Tn.kd, Tn.rv, Pn.lo, Pn.sz, q4T, mkQ, spT, sX, sY] <;> intro j hj <;> first | omega | (split <;> simp <;> omega)
    · refine List.Perm.symm ?_
      refine List.Perm.trans (List.Perm.of_eq ?_) (map_rev P.h (fun j => q4T ⟨o, m, true⟩ W H ⟨P.l + k - 1, P.t + (P.h - 1 - j), P.l + k, P.t + (P.h - 1 - j)⟩)) |>.trans (List.Perm.of_eq ?_)
      · refine List.map_congr_left fun j _ => ?_
        congr 2 <;> omega
      · cases o <;> cases m <;> simp [cutS, tPn, tX, tY, Tn.kd, Tn.rv, Pn.lo, Pn.sz, q4T, mkQ, spT, sX, sY] <;> intro j hj <;> first | omega | (split <;> simp <;> omega)
  | false =>
    have e : (cutS P false (P.lo false + k)).map (q4T ⟨o, m, f⟩ W H) = (irange 0 P.w).map fun j => q4T ⟨o, m, f⟩ W H ⟨P.l + j, P.t + k - 1, P.l + j, P.t + k⟩ := by simp [cutS, Pn.lo]
    rw [e]
    cases m
    · refine List.Perm.of_eq ?_
      cases o <;> cases f <;> simp [cutS, tPn, tX, tY, Tn.kd, Tn.rv, Pn.lo, Pn.sz, q4T, mkQ, spT, sX, sY] <;> intro j hj <;> first | omega | (split <;> simp <;> omega)
    · refine List.Perm.symm ?_
      refine List.Perm.trans (List.Perm.of_eq ?_) (map_rev P.w (fun j => q4T ⟨o, true, f⟩ W H ⟨P.l + (P.w - 1 - j), P.t + k - 1, P.l + (P.w - 1 - j), P.t + k⟩)) |>.trans (List.Perm.of_eq ?_)
      · refine List.map_congr_left fun j _ => ?_
        congr 2 <;> omega
      · cases o <;> cases f <;> simp [cutS, tPn, tX, tY, Tn.kd, Tn.rv, Pn.lo, Pn.sz, q4T, mkQ, spT, sX, sY] <;> intro j hj <;> first | omega | (split <;> simp <;> omega)
theorem turn_cts (τ : Tn) (W H : Int) : ∀ (t : Tr) (P : Pn), ((t.turn τ P).cts (tPn τ W H P)).Perm ((t.cts P).map (q4T τ W H))
  | .pane, P => .refl _
  | .cut s k a b, P => by
    obtain ⟨c1, c2, c3⟩ := turn_c (τ := τ) (W := W) (H := H) (P := P) (s := s) (k := k)
    have i1 := turn_cts τ W H a (P.c1 s (P.lo s + k))
    have i2 := turn_cts τ W H b (P.c2 s (P.lo s + k))
    have i0 := cutS_turn (τ := τ) (W := W) (H := H) (P := P) (s := s) (k := k)
    rw [Tr.cts, List.map_append, List.map_append]
    unfold Tr.turn
    cases q : τ.rv s with
    | true =>
      obtain ⟨e1, e2⟩ := c2 q
      rw [q, if_pos rfl] at i0
      simp only [Tr.cts]
      rw [e1, e2, List.append_assoc, List.append_assoc]
      exact i0.append ((i2.append i1).trans List.perm_append_comm)
    | false =>
      obtain ⟨e1, e2⟩ := c1 q
      rw [q, if_neg (by simp)] at i0
      simp only [Tr.cts]
      rw [e1, e2]
      exact (i0.append i1).append i2
end PP

set_option Elab.async false
set_option linter.all false
set_option autoImplicit false
set_option maxRecDepth 100000
set_option maxHeartbeats 2000000
namespace PP
open PySem
variable {T : Nat → Option Fn} {n : Nat}
@[simp] theorem dget_turn (τ : Tn) : dgetR [(t_same, .tuple [.bool false, .bool false, .bool false]), (t_right, .tuple [.bool true, .bool false, .bool true]), (t_half, .tuple [.bool false, .bool true, .bool true]), (t_left, .tuple [.bool true, .bool true, .bool false]), (t_mirror, .tuple [.bool false, .bool true, .bool false]), (t_flip, .tuple [.bool false, .bool false, .bool true]), (t_over, .tuple [.bool true, .bool false, .bool false]), (t_under, .tuple [.bool true, .bool true, .bool true])] (.d (.str τ.nm)) = .ok (.d (.tuple [.bool τ.o, .bool τ.m, .bool τ.f])) := by
  obtain ⟨o, m, f⟩ := τ
  cases o <;> cases m <;> cases f <;> rfl
@[simp] theorem dget_other (s : Bool) : dgetR [(t_side, .str t_stack), (t_stack, .str t_side)] (.d (.str (kd s))) = .ok (.d (.str (kd (!s)))) := by cases s <;> rfl
theorem dsel_turn (τ : Tn) (d0 d1 d2 d3 d4 d5 d6 d7 : D) : dselR [t_same, t_right, t_half, t_left, t_mirror, t_flip, t_over, t_under] [d0, d1, d2, d3, d4, d5, d6, d7] (.d (.str τ.nm)) = .ok (.d (match τ with
    | ⟨false, false, false⟩ => d0
    | ⟨true, false, true⟩ => d1
    | ⟨false, true, true⟩ => d2
    | ⟨true, true, false⟩ => d3
    | ⟨false, true, false⟩ => d4
    | ⟨false, false, true⟩ => d5
    | ⟨true, false, false⟩ => d6
    | ⟨true, true, true⟩ => d7)) := by
  obtain ⟨o, m, f⟩ := τ
  cases o <;> cases m <;> cases f <;> rfl
@[simp] theorem rev_w (w g : Int) : revR (.d (wD w g)) = .ok (.d (wD g w)) := id rfl
@[simp] theorem rev_2 (a b : D) : revR (.d (.tuple [a, b])) = .ok (.d (.tuple [b, a])) := id rfl
theorem c_turned_pane (h : T 115 = some f115_turned_pane) (τ : Tn) (W H : Int) (p : Pn) : call T (n + 1) 115 [.d p.D, .d (wD W H), .d (.str τ.nm)] = .ok (.d (tPn τ W H p).D) := by
  rw [call_go h rfl (st := [some (.d p.D), some (.d (wD W H)), some (.d (.str τ.nm)), none, none, none, none, none, none, none]) rfl]
  simp only [f115_turned_pane]
  obtain ⟨o, m, f⟩ := τ
  cases o <;> cases m <;> cases f <;> simp [tPn, tX, tY]
theorem c_turned (h : T 115 = some f115_turned_pane) (h116 : T 116 = some f116_turned) (τ : Tn) (W H : Int) {ps : List Pn} (hl : ps.length ≤ lim) :
    call T (n + 2) 116 [.d (pcD W H ps), .d (.str τ.nm)] = .ok (.d (pcD (tW τ W H) (tH τ W H) (srtP (ps.map (tPn τ W H))))) := by
  have hs := sorted_Dl (ps := ps.map (tPn τ W H)) (by simpa using hl)
  rw [call_go h116 rfl (st := [some (.d (pcD W H ps)), some (.d (.str τ.nm)), none, none, none, none]) rfl]
  have e : ∀ p, call T (n + 1) 115 [.d p.D, .d (wD W H), .d (.str τ.nm)] = .ok (.d (tPn τ W H p).D) := c_turned_pane h τ W H
  cases ho : τ.o with
  | true =>
    simp [f116_turned, pcD, ho]
    rw [lc_nm Pn.D (fun p => (tPn τ W H p).D) ps (by simp) hl (by intro p _; simp [e])]
    rw [show ps.map (fun p => (tPn τ W H p).D) = (ps.map (tPn τ W H)).map Pn.D by simp]
    simp [hs, tW, tH, ho, -List.map_map]
  | false =>
    simp [f116_turned, pcD, ho]
    rw [lc_nm Pn.D (fun p => (tPn τ W H p).D) ps (by simp) hl (by intro p _; simp [e])]
    rw [show ps.map (fun p => (tPn τ W H p).D) = (ps.map (tPn τ W H)).map Pn.D by simp]
    simp [hs, tW, tH, ho, -List.map_map]
theorem c_lspot (h : T 63 = some f63_law_spot) (τ : Tn) (W H x y : Int) : call T (n + 1) 63 [.d (wD x y), .d (wD W H), .d (.str τ.nm)] = .ok (.d (wD (spT τ W H x y).1 (spT τ W H x y).2)) := by
  rw [call_go h rfl (st := [some (.d (wD x y)), some (.d (wD W H)), some (.d (.str τ.nm)), none, none, none, none]) rfl]
  simp [f63_law_spot, dsel_turn]
  obtain ⟨o, m, f⟩ := τ
  cases o <;> cases m <;> cases f <;> simp [spT, sX, sY]
theorem in_turns (τ : Tn) : inR (.d (.str τ.nm)) (.d (.tuple [.str t_right, .str t_left, .str t_over, .str t_under])) = .ok τ.o := by
  obtain ⟨o, m, f⟩ := τ
  cases o <;> cases m <;> cases f <;> rfl
@[simp] theorem add_ww (a b c d : Int) : binR .add (.d (wD a b)) (.d (wD c d)) = .ok (.d (Pn.mk a b c d).D) := id rfl
/-- the law's way: two corners -/
theorem corners (τ : Tn) (W H : Int) {p : Pn} (hp : p.pos) :
    (Pn.mk (if (spT τ W H (p.l + p.w - 1) (p.t + p.h - 1)).1 < (spT τ W H p.l p.t).1 then (spT τ W H (p.l + p.w - 1) (p.t + p.h - 1)).1 else (spT τ W H p.l p.t).1)
      (if (spT τ W H (p.l + p.w - 1) (p.t + p.h - 1)).2 < (spT τ W H p.l p.t).2 then (spT τ W H (p.l + p.w - 1) (p.t + p.h - 1)).2 else (spT τ W H p.l p.t).2)
      ((if (spT τ W H p.l p.t).1 < (spT τ W H (p.l + p.w - 1) (p.t + p.h - 1)).1 then (spT τ W H (p.l + p.w - 1) (p.t + p.h - 1)).1 else (spT τ W H p.l p.t).1) - (if (spT τ W H (p.l + p.w - 1) (p.t + p.h - 1)).1 < (spT τ W H p.l p.t).1 then (spT τ W H (p.l + p.w - 1) (p.t + p.h - 1)).1 else (spT τ W H p.l p.t).1) + 1)
      ((if (spT τ W H p.l p.t).2 < (spT τ W H (p.l + p.w - 1) (p.t + p.h - 1)).2 then (spT τ W H (p.l + p.w - 1) (p.t + p.h - 1)).2 else (spT τ W H p.l p.t).2) - (if (spT τ W H (p.l + p.w - 1) (p.t + p.h - 1)).2 < (spT τ W H p.l p.t).2 then (spT τ W H (p.l + p.w - 1) (p.t + p.h - 1)).2 else (spT τ W H p.l p.t).2) + 1)) = tPn τ W H p := by
  obtain ⟨o, m, f⟩ := τ
  simp only [Pn.pos] at hp
  cases o <;> cases m <;> cases f <;> simp only [tPn, tX, tY, spT, sX, sY, Pn.mk.injEq] <;> (repeat' split) <;> omega
theorem c_lturned (h63 : T 63 = some f63_law_spot) (h : T 65 = some f65_law_turned) (τ : Tn) (W H : Int) {ps : List Pn} (hl : ps.length ≤ 100) (hp : ∀ p ∈ ps, p.pos) :
    call T (n + 2) 65 [.d (pcD W H ps), .d (.str τ.nm)] = .ok (.d (pcD (tW τ W H) (tH τ W H) (srtP (ps.map (tPn τ W H))))) := by
  have hs := sorted_D (ps := ps.map (tPn τ W H)) (by rw [List.length_map, lim_eq]; omega)
  have hs' : bltR .sorted [.b ((ps.map (tPn τ W H)).map Pn.D)] = .ok (.l ((srtP (ps.map (tPn τ W H))).map Pn.D)) := hs
  rw [call_go h rfl (st := [some (.d (pcD W H ps)), some (.d (.str τ.nm)), none, none, none, none, none, none, none, none, none, none, none]) rfl]
  simp [f65_law_turned, pcD]
  refine for_go (· = _) (fun z => outK (seqK _ _ z)) (V := Option R × Option R × Option R × Option R × Option R × Option R × Option R × Option R) Pn.D ps
    (fun pre v => [some (.d (.tuple [wD W H, .tuple (ps.map Pn.D)])), some (.d (.str τ.nm)), some (.l ((pre.map (tPn τ W H)).map Pn.D)), some (.d (wD W H)), some (.d (.tuple (ps.map Pn.D))), v.1, v.2.1, v.2.2.1, v.2.2.2.1, v.2.2.2.2.1, v.2.2.2.2.2.1, v.2.2.2.2.2.2.1, v.2.2.2.2.2.2.2]) (fun _ _ => True) (none, none, none, none, none, none, none, none)
    (by simp) rfl trivial ?_ ?_
  · rintro pre p post ⟨v1, v2, v3, v4, v5, v6, v7, v8⟩ hpre -
    have hpl : pre.length ≤ 100 := by
      have := congrArg List.length hpre
      simp at this; omega
    have e1 := c_lspot (n := n) h63 τ W H p.l p.t
    have e2 := c_lspot (n := n) h63 τ W H (p.l + p.w - 1) (p.t + p.h - 1)
    have ec := corners τ W H (hp p (by rw [← hpre]; simp))
    simp [e1, e2, ec, -List.map_map]
    rw [appS_ok (by simp [lim_eq]; omega)]
    simp [-List.map_map]
    exact Nx.mk (_, _, _, _, _, _, _, _) (by simp; exact ⟨rfl, rfl, rfl, rfl, rfl, rfl, rfl, rfl⟩) trivial
  · rintro ⟨v1, v2, v3, v4, v5, v6, v7, v8⟩ -
    cases ho : τ.o with
    | true => simp [in_turns, ho, hs', tW, tH, -List.map_map]
    | false => simp [in_turns, ho, hs', tW, tH, -List.map_map]
end PP

set_option Elab.async false
set_option linter.all false
set_option autoImplicit false
set_option maxRecDepth 100000
set_option maxHeartbeats 2000000
namespace PP
open PySem
variable {T : Nat → Option Fn} {n : Nat}
@[simp] theorem setT_cut (i j k l : Nat) (s : Bool) (c : Int) (a b : Tr) (ρ : Sto) : setT (.tp [i, j, k, l]) (Tr.cut s c a b).enc ρ = .ok ((((ρ.set i (some (.d (.str (kd s))))).set j (some (.d (.int c)))).set k (some (.d a.enc))).set l (some (.d b.enc))) := id rfl
@[simp] theorem isP_pane : Tr.pane.isP = true := rfl
@[simp] theorem isP_cut (s : Bool) (c : Int) (a b : Tr) : (Tr.cut s c a b).isP = false := rfl
theorem c_parts' (h : T 18 = some f18_parts_of) (P : Pn) (s : Bool) (k : Int) : call T (n + 1) 18 [.d (.str (kd s)), .d (.int k), .d (wD P.w P.h)] =
    .ok (.d (.tuple [wD (P.c1 s (P.lo s + k)).w (P.c1 s (P.lo s + k)).h, wD (P.c2 s (P.lo s + k)).w (P.c2 s (P.lo s + k)).h])) := by
  rw [call_go h rfl (st := [some (.d (.str (kd s))), some (.d (.int k)), some (.d (wD P.w P.h)), none, none]) rfl]
  cases s <;> simp [f18_parts_of, Pn.c1, Pn.c2, Pn.lo, show P.l + k - P.l = k by omega, show P.l + P.w - (P.l + k) = P.w - k by omega, show P.t + k - P.t = k by omega, show P.t + P.h - (P.t + k) = P.h - k by omega]
theorem c_lparts' (h : T 5 = some f5_law_parts) (P : Pn) (s : Bool) (k : Int) : call T (n + 1) 5 [.d (.str (kd s)), .d (.int k), .d (wD P.w P.h)] =
    .ok (.d (.tuple [wD (P.c1 s (P.lo s + k)).w (P.c1 s (P.lo s + k)).h, wD (P.c2 s (P.lo s + k)).w (P.c2 s (P.lo s + k)).h])) := by
  rw [call_go h rfl (st := [some (.d (.str (kd s))), some (.d (.int k)), some (.d (wD P.w P.h))]) rfl]
  cases s <;> simp [f5_law_parts, Pn.c1, Pn.c2, Pn.lo, show P.l + k - P.l = k by omega, show P.l + P.w - (P.l + k) = P.w - k by omega, show P.t + k - P.t = k by omega, show P.t + P.h - (P.t + k) = P.h - k by omega]
@[simp] theorem idx_w (P : Pn) (s : Bool) : idxR (.d (wD P.w P.h)) (.d (.int (if s = false then 1 else 0))) = .ok (.d (.int (P.sz s))) := by
  cases s
  · exact wD_1 ..
  · exact wD_0 ..
@[simp] theorem add_enc (s : Bool) (k : Int) (a b : Tr) : binR .add (.d (.tuple [.str (kd s), .int k])) (.d (.tuple [a.enc, b.enc])) = .ok (.d (Tr.cut s k a b).enc) := id rfl
theorem c_turned_tree (h18 : T 18 = some f18_parts_of) (h : T 117 = some f117_turned_tree) (τ : Tn) : ∀ (t : Tr) (P : Pn) (n : Nat), t.count + 1 ≤ n → call T n 117 [.d t.enc, .d (wD P.w P.h), .d (.str τ.nm)] = .ok (.d (t.turn τ P).enc)
  | .pane, P, n, hn => by
    obtain ⟨k, rfl⟩ : ∃ k, n = k + 1 := ⟨n - 1, by have := count_pos .pane; omega⟩
    rw [call_go h rfl (st := [some (.d Tr.pane.enc), some (.d (wD P.w P.h)), some (.d (.str τ.nm)), none, none, none, none, none, none, none, none, none, none]) rfl]
    simp [f117_turned_tree, Tr.turn]
    rfl
  | .cut s k a b, P, n, hn => by
    have hn' : a.count + b.count + 1 ≤ n := hn
    have ca := count_pos a
    have cb := count_pos b
    obtain ⟨m, rfl⟩ : ∃ m, n = m + 2 := ⟨n - 2, by omega⟩
    have ep := c_parts' (n := m) h18 P s k
    have e1 := c_turned_tree h18 h τ a (P.c1 s (P.lo s + k)) (m + 1) (by omega)
    have e2 := c_turned_tree h18 h τ b (P.c2 s (P.lo s + k)) (m + 1) (by omega)
    rw [call_go h rfl (st := [some (.d (Tr.cut s k a b).enc), some (.d (wD P.w P.h)), some (.d (.str τ.nm)), none, none, none, none, none, none, none, none, none, none]) rfl]
    unfold Tr.turn
    simp only [f117_turned_tree]
    cases hr : τ.rv s with
    | true =>
      cases ho : τ.o with
      | true =>
        cases s
        · have hr' : τ.f = true := hr
          simp [ep, e1, e2, hr', ho, Tn.kd]; rfl
        · have hr' : τ.m = true := hr
          simp [ep, e1, e2, hr', ho, Tn.kd]; rfl
      | false =>
        cases s
        · have hr' : τ.f = true := hr
          simp [ep, e1, e2, hr', ho, Tn.kd]; rfl
        · have hr' : τ.m = true := hr
          simp [ep, e1, e2, hr', ho, Tn.kd]; rfl
    | false =>
      cases ho : τ.o with
      | true =>
        cases s
        · have hr' : τ.f = false := hr
          simp [ep, e1, e2, hr', ho, Tn.kd]
        · have hr' : τ.m = false := hr
          simp [ep, e1, e2, hr', ho, Tn.kd]
      | false =>
        cases s
        · have hr' : τ.f = false := hr
          simp [ep, e1, e2, hr', ho, Tn.kd]
        · have hr' : τ.m = false := hr
          simp [ep, e1, e2, hr', ho, Tn.kd]
theorem part_le {P : Pn} {s : Bool} {c k : Int} (h : 1 ≤ c ∧ c < P.sz s) (hw : P.w ≤ k) (hh : P.h ≤ k) : (P.c1 s (P.lo s + c)).w ≤ k ∧ (P.c1 s (P.lo s + c)).h ≤ k ∧ (P.c2 s (P.lo s + c)).w ≤ k ∧ (P.c2 s (P.lo s + c)).h ≤ k := by
  cases s
  · have h : 1 ≤ c ∧ c < P.h := h
    simp only [Pn.c1, Pn.c2, Pn.lo]; omega
  · have h : 1 ≤ c ∧ c < P.w := h
    simp only [Pn.c1, Pn.c2, Pn.lo]; omega
theorem cts_len {k : Nat} : ∀ (t : Tr) (P : Pn), t.Fit P → P.w ≤ k → P.h ≤ k → (t.cts P).length ≤ (t.count - 1) * k
  | .pane, P, _, _, _ => by simp [Tr.cts]
  | .cut s c a b, P, hf, hw, hh => by
    obtain ⟨h1, h2, h3⟩ := fit_cut.mp hf
    have p1 := h2.pos
    have p2 := h3.pos
    obtain ⟨k1, k2, k3, k4⟩ := part_le (k := k) h1 hw hh
    have i1 := cts_len a _ h2 k1 k2
    have i2 := cts_len b _ h3 k3 k4
    have i0 : (cutS P s (P.lo s + c)).length ≤ k := by
      cases s <;> simp only [cutS, List.length_map, len_irange] <;> omega
    have ca := count_pos a
    have cb := count_pos b
    simp only [Tr.cts, List.length_append, Tr.count]
    have e : a.count + b.count - 1 = 1 + (a.count - 1) + (b.count - 1) := by omega
    rw [e, Nat.add_mul, Nat.add_mul]; omega
@[simp 2000] theorem tup_q (a b c d : Int) : tupG [wD a b, wD c d] = .ok (.d (Q4.mk a b c d).D) := id rfl
theorem c_lcuts (h5 : T 5 = some f5_law_parts) (h : T 64 = some f64_law_cuts) : ∀ (t : Tr) (P : Pn) (n : Nat), t.Fit P → P.w ≤ 20 → P.h ≤ 20 → t.count ≤ 100 → t.count + 1 ≤ n → call T n 64 [.d t.enc, .d (.int P.l), .d (.int P.t), .d (wD P.w P.h)] = .ok (.l ((t.cts P).map Q4.D))
  | .pane, P, n, _, _, _, _, hn => by
    obtain ⟨k, rfl⟩ : ∃ k, n = k + 1 := ⟨n - 1, by have := count_pos .pane; omega⟩
    rw [call_go h rfl (st := [some (.d Tr.pane.enc), some (.d (.int P.l)), some (.d (.int P.t)), some (.d (wD P.w P.h)), none, none, none, none, none, none, none, none]) rfl]
    simp [f64_law_cuts, Tr.cts]
  | .cut s k a b, P, n, hf, hw, hh, h100, hn => by
    have hn' : a.count + b.count + 1 ≤ n := hn
    have h100' : a.count + b.count ≤ 100 := h100
    have ca := count_pos a
    have cb := count_pos b
    obtain ⟨h1, h2, h3⟩ := fit_cut.mp hf
    have p0 := hf.pos
    have p1 := h2.pos
    have p2 := h3.pos
    obtain ⟨m, rfl⟩ : ∃ m, n = m + 2 := ⟨n - 2, by omega⟩
    have ep := c_lparts' (n := m) h5 P s k
    have e1 := c_lcuts h5 h a (P.c1 s (P.lo s + k)) (m + 1) h2 (by cases s <;> simp only [Pn.c1, Pn.lo, Pn.sz] at * <;> omega) (by cases s <;> simp only [Pn.c1, Pn.lo, Pn.sz] at * <;> omega) (by omega) (by omega)
    have e2 := c_lcuts h5 h b (P.c2 s (P.lo s + k)) (m + 1) h3 (by cases s <;> simp only [Pn.c2, Pn.lo, Pn.sz] at * <;> omega) (by cases s <;> simp only [Pn.c2, Pn.lo, Pn.sz] at * <;> omega) (by omega) (by omega)
    have l1 := cts_len (k := 20) a _ h2 (by cases s <;> simp only [Pn.c1, Pn.lo, Pn.sz] at * <;> omega) (by cases s <;> simp only [Pn.c1, Pn.lo, Pn.sz] at * <;> omega)
    have l2 := cts_len (k := 20) b _ h3 (by cases s <;> simp only [Pn.c2, Pn.lo, Pn.sz] at * <;> omega) (by cases s <;> simp only [Pn.c2, Pn.lo, Pn.sz] at * <;> omega)
    rw [call_go h rfl (st := [some (.d (Tr.cut s k a b).enc), some (.d (.int P.l)), some (.d (.int P.t)), some (.d (wD P.w P.h)), none, none, none, none, none, none, none, none]) rfl]
    cases s
    · have x1 : (P.c1 false (P.lo false + k)).l = P.l ∧ (P.c1 false (P.lo false + k)).t = P.t := ⟨rfl, rfl⟩
      have x2 : (P.c2 false (P.lo false + k)).l = P.l ∧ (P.c2 false (P.lo false + k)).t = P.t + k := ⟨rfl, rfl⟩
      rw [x1.1, x1.2] at e1
      rw [x2.1, x2.2] at e2
      simp [f64_law_cuts, ep]
      rw [lc_nm PyData.int (fun j => (Q4.mk (P.l + j) (P.t + k - 1) (P.l + j) (P.t + k)).D) (irange 0 P.w) (by simp; exact rngF_ok (by simp only [Pn.pos] at *; omega) (by omega)) (by rw [len_irange, lim_eq]; omega) (by intro j _; simp)]
      have ec : (irange 0 P.w).map (fun j => (Q4.mk (P.l + j) (P.t + k - 1) (P.l + j) (P.t + k)).D) = (cutS P false (P.lo false + k)).map Q4.D := by simp [cutS, Pn.lo]
      rw [ec]
      have l0 : (cutS P false (P.lo false + k)).length ≤ 20 := by simp only [cutS, List.length_map, len_irange]; omega
      simp [e1, e2]
      rw [add_bl (by simp [lim_eq]; omega)]
      simp
      rw [add_ll (by simp [lim_eq]; omega)]
      simp [Tr.cts]
    · have x1 : (P.c1 true (P.lo true + k)).l = P.l ∧ (P.c1 true (P.lo true + k)).t = P.t := ⟨rfl, rfl⟩
      have x2 : (P.c2 true (P.lo true + k)).l = P.l + k ∧ (P.c2 true (P.lo true + k)).t = P.t := ⟨rfl, rfl⟩
      rw [x1.1, x1.2] at e1
      rw [x2.1, x2.2] at e2
      simp [f64_law_cuts, ep]
      rw [lc_nm PyData.int (fun j => (Q4.mk (P.l + k - 1) (P.t + j) (P.l + k) (P.t + j)).D) (irange 0 P.h) (by simp; exact rngF_ok (by simp only [Pn.pos] at *; omega) (by omega)) (by rw [len_irange, lim_eq]; omega) (by intro j _; simp)]
      have ec : (irange 0 P.h).map (fun j => (Q4.mk (P.l + k - 1) (P.t + j) (P.l + k) (P.t + j)).D) = (cutS P true (P.lo true + k)).map Q4.D := by simp [cutS, Pn.lo]
      rw [ec]
      have l0 : (cutS P true (P.lo true + k)).length ≤ 20 := by simp only [cutS, List.length_map, len_irange]; omega
      simp [e1, e2]
      rw [add_bl (by simp [lim_eq]; omega)]
      simp
      rw [add_ll (by simp [lim_eq]; omega)]
      simp [Tr.cts]
end PP

set_option Elab.async false
set_option linter.all false
set_option autoImplicit false
set_option maxRecDepth 100000
set_option maxHeartbeats 2000000
namespace PP
open PySem
variable {T : Nat → Option Fn} {n : Nat}
theorem srt_two (x y : List Int) : srt [x, y] = if y < x then [y, x] else [x, y] := by
  have hp := srt_perm [x, y]
  have hl := srt_le [x, y]
  by_cases h : y < x
  · rw [if_pos h]
    refine List.Perm.eq_of_pairwise (fun _ _ _ _ h1 h2 => List.le_antisymm h1 h2) hl ?_ (hp.trans (List.Perm.swap ..))
    simp; exact List.le_of_lt h
  · rw [if_neg h]
    refine List.Perm.eq_of_pairwise (fun _ _ _ _ h1 h2 => List.le_antisymm h1 h2) hl ?_ hp
    simp; exact List.not_lt.mp h
theorem sorted_two (p q : Int × Int) : bltR .sorted [.l [wD p.1 p.2, wD q.1 q.2]] = .ok (.l [wD (mkQ p q).a (mkQ p q).b, wD (mkQ p q).c (mkQ p q).d]) := by
  have z := sortR_tD (ps := [[p.1, p.2], [q.1, q.2]]) (by simp) (by simp [lim_eq])
  show (sortR ([[p.1, p.2], [q.1, q.2]].map tD) >>= fun ys => Rs.ok (R.l ys)) = _
  rw [z, srt_two]
  show Rs.ok (R.l (List.map tD (if [q.1, q.2] < [p.1, p.2] then [[q.1, q.2], [p.1, p.2]] else [[p.1, p.2], [q.1, q.2]]))) = _
  have e : ([q.1, q.2] < [p.1, p.2]) ↔ (q.1 < p.1 ∨ (q.1 = p.1 ∧ q.2 < p.2)) := by
    simp [List.cons_lt_cons_iff]
  unfold mkQ
  by_cases h : q.1 < p.1 ∨ (q.1 = p.1 ∧ q.2 < p.2)
  · rw [if_pos (e.mpr h), if_pos h]; rfl
  · rw [if_neg (fun z => h (e.mp z)), if_neg h]; rfl
theorem alike_Q (p q : Q4) : PySem.W.alike p.D q.D = true := by
  simp [Q4.D, wD, PySem.W.alike, PySem.W.alikeAll]
theorem depth_Q (p : Q4) : p.D.depth = 2 := by
  simp [Q4.D, wD, PyData.depth, PyData.depthAll]
theorem plain_Q (p : Q4) : plain p.D = true := by
  simp [Q4.D, wD, plain, plainAll, lim_eq]
theorem plain_Qs : ∀ ps : List Q4, plainAll (ps.map Q4.D) = true
  | [] => rfl
  | p :: ps => by simp [plainAll, plain_Q, plain_Qs ps]
theorem depth_Qs : ∀ ps : List Q4, PyData.depthAll (ps.map Q4.D) ≤ 2
  | [] => by simp [PyData.depthAll]
  | p :: ps => by
    have := depth_Qs ps
    have := depth_Q p
    simp only [List.map_cons, PyData.depthAll]; omega
theorem sortR_Q {ps : List Q4} (hl : ps.length ≤ lim) : sortR (ps.map Q4.D) = .ok (sortD (ps.map Q4.D)) := by
  unfold sortR
  rw [if_pos]
  unfold sortOk
  simp only [Bool.and_eq_true, Bool.or_eq_true, List.all_eq_true, List.mem_map, decide_eq_true_eq, List.length_map]
  refine ⟨⟨⟨?_, ?_⟩, hl⟩, .inl ?_⟩
  · rintro _ ⟨p, _, rfl⟩ _ ⟨q, _, rfl⟩
    exact alike_Q p q
  · rintro _ ⟨p, hp, rfl⟩
    rw [depth_Q]; decide
  · rintro _ ⟨p, hp, rfl⟩
    rfl
theorem sorted_Qb {ps : List Q4} (hl : ps.length ≤ lim) : bltR .sorted [.b (ps.map Q4.D)] = .ok (.l (sortD (ps.map Q4.D))) := by
  show (sortR (ps.map Q4.D) >>= fun ys => Rs.ok (R.l ys)) = _
  rw [sortR_Q hl]; rfl
theorem sorted_Ql {ps : List Q4} (hl : ps.length ≤ lim) : bltR .sorted [.l (ps.map Q4.D)] = .ok (.l (sortD (ps.map Q4.D))) := by
  show (sortR (ps.map Q4.D) >>= fun ys => Rs.ok (R.l ys)) = _
  rw [sortR_Q hl]; rfl
theorem plainAll_mem : ∀ {xs : List D}, (∀ x ∈ xs, plain x = true) → plainAll xs = true
  | [], _ => rfl
  | x :: xs, h => by
    simp only [plainAll, Bool.and_eq_true]
    exact ⟨h x (List.mem_cons_self ..), plainAll_mem fun y hy => h y (List.mem_cons_of_mem _ hy)⟩
theorem depthAll_le2 : ∀ {xs : List D} {k : Nat}, (∀ x ∈ xs, x.depth ≤ k) → PyData.depthAll xs ≤ k
  | [], _, _ => by simp [PyData.depthAll]
  | x :: xs, k, h => by
    have a := h x (List.mem_cons_self ..)
    have b := depthAll_le2 (xs := xs) (k := k) fun y hy => h y (List.mem_cons_of_mem _ hy)
    simp only [PyData.depthAll]; omega
theorem eq_lists {xs : List D} (hp : ∀ x ∈ xs, plain x = true ∧ x.depth ≤ 50) : eqR (.l xs) (.l xs) = .ok true := by
  have hd := depthAll_le2 (k := 50) fun x hx => (hp x hx).2
  show (if (true && true && shallow (.list xs) (.list xs)) then Rs.ok (PyData.eqv (.list xs) (.list xs)) else .bad) = _
  rw [shallow_l (by simp only [PyData.depth]; omega)]
  show Rs.ok (PyData.eqv (.list xs) (.list xs)) = _
  simp only [PyData.eqv]
  rw [eqv_reflAll (plainAll_mem fun x hx => (hp x hx).1)]
theorem plain_pc {W H : Int} {ps : List Pn} (hl : ps.length ≤ lim) : plain (pcD W H ps) = true := by
  have := plain_rows (ps := ps.map Pn.L) (fun p hp => by
    obtain ⟨q, _, rfl⟩ := List.mem_map.mp hp
    simp [Pn.L, lim_eq])
  rw [← D_map] at this
  simp [pcD, wD, plain, plainAll, this, hl]
  rw [lim_eq]; decide
theorem depth_pc (W H : Int) (ps : List Pn) : (pcD W H ps).depth ≤ 4 := by
  have := depth_rows (ps.map Pn.L)
  rw [← D_map] at this
  simp [pcD, wD, PyData.depth, PyData.depthAll]; omega
theorem eq_tr (t : Tr) (h : t.count ≤ 50) : eqR (.d t.enc) (.d t.enc) = .ok true := by
  have hd := depth_tr t
  show (if (true && true && shallow t.enc t.enc) then Rs.ok (PyData.eqv t.enc t.enc) else .bad) = _
  rw [shallow_l (by omega), eqv_refl (plain_tr t)]; rfl
theorem c_lturns (h : T 68 = some f68_law_turns) : call T (n + 1) 68 [] = .ok (.d (.tuple (turnsL.map fun τ => .str τ.nm))) := by
  rw [call_go h rfl (st := []) rfl]
  rfl
structure K14 (T : Nat → Option Fn) : Prop where
  w : TW T
  same : T 24 = some f24_law_same
  parts : T 18 = some f18_parts_of
  spot : T 63 = some f63_law_spot
  cuts : T 64 = some f64_law_cuts
  lturned : T 65 = some f65_law_turned
  turns : T 68 = some f68_law_turns
  pane : T 115 = some f115_turned_pane
  turned : T 116 = some f116_turned
  tree : T 117 = some f117_turned_tree
theorem Pict.pos {W H : Int} {ps : List Pn} (h : Pict W H ps) : ∀ p ∈ ps, p.pos := fun p hp => (h.til.inn p hp).1
theorem c_lpc (h : TW T) (t : Tr) (n : Nat) (W H : Int) (hn : t.count + 2 ≤ n) (hc : t.count ≤ 1000) : call T n 9 [.d t.enc, .d (wD W H)] = .ok (.d (pcD W H (srtP (t.pns ⟨0, 0, W, H⟩)))) := by
  have e := c_lpicture_of h.b h.lpicture_of t n W H hn hc
  have hpp := picD_pcD W H (t.pns ⟨0, 0, W, H⟩)
  rw [pns_L] at hpp
  rw [e, ← hpp]
end PP

set_option Elab.async false
set_option linter.all false
set_option autoImplicit false
set_option maxRecDepth 100000
set_option maxHeartbeats 2000000
namespace PP
open PySem
variable {T : Nat → Option Fn} {n : Nat}
@[simp] theorem idx_Q0 (q : Q4) : idxR (.d q.D) (.d (.int 0)) = .ok (.d (wD q.a q.b)) := idx0 ..
@[simp] theorem idx_Q1 (q : Q4) : idxR (.d q.D) (.d (.int 1)) = .ok (.d (wD q.c q.d)) := idx1 ..
theorem eq_same (τ : Tn) : eqR (.d (.str τ.nm)) (.d (.str t_same)) = .ok (decide (τ = ⟨false, false, false⟩)) := by
  obtain ⟨o, m, f⟩ := τ
  cases o <;> cases m <;> cases f <;> rfl
theorem k14_turn (h : K14 T) (ns : List Int) {W H : Int} {ps : List Pn} (pc : Pict W H ps) {t : Tr} (hf : t.Fit ⟨0, 0, W, H⟩) (hc : t.count ≤ 7) (τ : Tn) (v1 v2 v7 v8 v9 v10 : Option R) :
    Nx (fun v : Option R × Option R × Option R × Option R => [some (.s (ns.map PyData.int)), v1, v2, some (.d (pcD W H ps)), some (.d (wD W H)), some (.d t.enc), some (.d (.str τ.nm)), v.1, v.2.1, v.2.2.1, v.2.2.2]) (fun _ => True)
      (xs (call T 59) (forB (hd (tl (tl (tl (forB (hd f118_law.body))))))) [some (.s (ns.map PyData.int)), v1, v2, some (.d (pcD W H ps)), some (.d (wD W H)), some (.d t.enc), some (.d (.str τ.nm)), v7, v8, v9, v10]) := by
  have hw := pc.w
  have hh := pc.h
  have hl := pc.len
  have e1 := c_lturned (n := 57) h.spot h.lturned τ W H (ps := ps) (by omega) pc.pos
  have e2 := c_turned (n := 57) h.pane h.turned τ W H (ps := ps) pc.lim
  have hsl : (srtP (ps.map (tPn τ W H))).length ≤ 7 := by rw [(srtP_perm _).length_eq, List.length_map]; exact hl
  have e3 := c_same h.same 59 (pcD (tW τ W H) (tH τ W H) (srtP (ps.map (tPn τ W H)))) (plain_pc (by rw [lim_eq]; omega)) (by have := depth_pc (tW τ W H) (tH τ W H) (srtP (ps.map (tPn τ W H))); omega)
  have e4 : call T 59 117 [.d t.enc, .d (wD W H), .d (.str τ.nm)] = .ok (.d (t.turn τ ⟨0, 0, W, H⟩).enc) := c_turned_tree h.parts h.tree τ t ⟨0, 0, W, H⟩ 59 (by omega)
  have hf2 := turn_fit τ W H t ⟨0, 0, W, H⟩ hf
  have hp2 := turn_pns τ W H t ⟨0, 0, W, H⟩
  have hc2 := turn_cts τ W H t ⟨0, 0, W, H⟩
  have hn2 := turn_count τ t ⟨0, 0, W, H⟩
  rw [tPn_whole] at hf2 hp2 hc2
  generalize hnw : t.turn τ ⟨0, 0, W, H⟩ = nw at *
  have e5 := c_lpc h.w nw 59 (tW τ W H) (tH τ W H) (by omega) (by omega)
  have e6 := c_lpc h.w t 59 W H (by omega) (by omega)
  have tl1 : Til ⟨0, 0, W, H⟩ (srtP (t.pns ⟨0, 0, W, H⟩)) := (til_tree t _ hf).perm (srtP_perm _).symm
  have hlt : (srtP (t.pns ⟨0, 0, W, H⟩)).length = t.count := by rw [(srtP_perm _).length_eq, pns_len]
  have e7 := c_lturned (n := 57) h.spot h.lturned τ W H (ps := srtP (t.pns ⟨0, 0, W, H⟩)) (by omega) (fun p hp => (tl1.inn p hp).1)
  have heq : srtP ((srtP (t.pns ⟨0, 0, W, H⟩)).map (tPn τ W H)) = srtP (nw.pns ⟨0, 0, tW τ W H, tH τ W H⟩) := srtP_eq (((srtP_perm _).map _).trans hp2.symm)
  rw [heq] at e7
  have hnl : (srtP (nw.pns ⟨0, 0, tW τ W H, tH τ W H⟩)).length ≤ 7 := by rw [(srtP_perm _).length_eq, pns_len]; omega
  have e8 := c_same h.same 59 (pcD (tW τ W H) (tH τ W H) (srtP (nw.pns ⟨0, 0, tW τ W H, tH τ W H⟩))) (plain_pc (by rw [lim_eq]; omega)) (by have := depth_pc (tW τ W H) (tH τ W H) (srtP (nw.pns ⟨0, 0, tW τ W H, tH τ W H⟩)); omega)
  have hWH : (tW τ W H ≤ 6) ∧ (tH τ W H ≤ 6) := by
    unfold tW tH; cases τ.o <;> simp <;> omega
  have e9 : call T 59 64 [.d t.enc, .d (.int 0), .d (.int 0), .d (wD W H)] = .ok (.l ((t.cts ⟨0, 0, W, H⟩).map Q4.D)) := c_lcuts h.w.b.parts h.cuts t ⟨0, 0, W, H⟩ 59 hf (by show W ≤ 20; omega) (by show H ≤ 20; omega) (by omega) (by omega)
  have e10 : call T 59 64 [.d nw.enc, .d (.int 0), .d (.int 0), .d (wD (tW τ W H) (tH τ W H))] = .ok (.l ((nw.cts ⟨0, 0, tW τ W H, tH τ W H⟩).map Q4.D)) := c_lcuts h.w.b.parts h.cuts nw ⟨0, 0, tW τ W H, tH τ W H⟩ 59 hf2 (by show tW τ W H ≤ 20; omega) (by show tH τ W H ≤ 20; omega) (by omega) (by omega)
  have lc1 := cts_len (k := 6) t ⟨0, 0, W, H⟩ hf (by show W ≤ 6; omega) (by show H ≤ 6; omega)
  have lm : (t.count - 1) * 6 ≤ 6 * 6 := Nat.mul_le_mul (by omega) (Nat.le_refl _)
  have lc2 := hc2.length_eq
  rw [List.length_map] at lc2
  generalize hct : t.cts ⟨0, 0, W, H⟩ = ct at *
  generalize hcn : nw.cts ⟨0, 0, tW τ W H, tH τ W H⟩ = cn at *
  simp [f118_law, hd, tl, forB, e1, e2, e3, e4, e5, e6, e7, e8]
  refine for_go (Nx _ _) (fun z => seqK _ _ z) (V := Option R) Q4.D ct
    (fun pre v => [some (.s (ns.map PyData.int)), v1, v2, some (.d (pcD W H ps)), some (.d (wD W H)), some (.d t.enc), some (.d (.str τ.nm)), some (.d (pcD (tW τ W H) (tH τ W H) (srtP (ps.map (tPn τ W H))))), some (.d nw.enc), some (.l ((pre.map (q4T τ W H)).map Q4.D)), v]) (fun _ _ => True) v10
    (by simp [e9]) rfl trivial ?_ ?_
  · rintro pre q post v hpre -
    have hpl : pre.length ≤ 36 := by
      have := congrArg List.length hpre
      simp at this; omega
    have s1 := c_lspot (n := 58) h.spot τ W H q.a q.b
    have s2 := c_lspot (n := 58) h.spot τ W H q.c q.d
    have s3 := sorted_two (spT τ W H q.a q.b) (spT τ W H q.c q.d)
    simp [s1, s2, s3, -List.map_map]
    rw [appS_ok (by simp [lim_eq]; omega)]
    simp [-List.map_map]
    exact Nx.mk (some (.d q.D)) (by simp [q4T, Q4.D]) trivial
  · rintro v -
    have q1 := sorted_Qb (ps := ct.map (q4T τ W H)) (by rw [List.length_map, lim_eq]; omega)
    have q2 := sorted_Ql (ps := cn) (by rw [lim_eq]; omega)
    have q3 : sortD ((ct.map (q4T τ W H)).map Q4.D) = sortD (cn.map Q4.D) := by
      refine sortD_eq (hc2.symm.map _) ?_
      intro x hx y hy
      obtain ⟨a, _, rfl⟩ := List.mem_map.mp hx
      obtain ⟨b, _, rfl⟩ := List.mem_map.mp hy
      exact alike_Q a b
    rw [q3] at q1
    have q4 : eqR (.l (sortD (cn.map Q4.D))) (.l (sortD (cn.map Q4.D))) = .ok true := eq_lists (fun x hx => by
      have := (List.mergeSort_perm (cn.map Q4.D) (PySem.W.dataLe false id)).mem_iff.mp hx
      obtain ⟨a, _, rfl⟩ := List.mem_map.mp this
      exact ⟨plain_Q a, by rw [depth_Q]; decide⟩)
    by_cases hs : τ = ⟨false, false, false⟩
    · have hnt : nw = t := by rw [← hnw, hs, turn_same]
      have q5 : eqR (.d nw.enc) (.d t.enc) = .ok true := by rw [hnt]; exact eq_tr t (by omega)
      have q6 : eqR (.d (.str τ.nm)) (.d (.str t_same)) = .ok true := by rw [eq_same, decide_eq_true hs]
      simp [q1, q2, q4, e10, q5, q6, -List.map_map, -eq_ss]
      exact Nx.mk (_, _, _, _) rfl trivial
    · have q6 : eqR (.d (.str τ.nm)) (.d (.str t_same)) = .ok false := by rw [eq_same, decide_eq_false hs]
      simp [q1, q2, q4, e10, q6, -List.map_map, -eq_ss]
      exact Nx.mk (_, _, _, _) rfl trivial
end PP

set_option Elab.async false
set_option linter.all false
set_option autoImplicit false
set_option maxRecDepth 100000
set_option maxHeartbeats 2000000
namespace PP
open PySem
variable {T : Nat → Option Fn} {n : Nat}
theorem eq_pc {W H : Int} {ps : List Pn} (hl : ps.length ≤ lim) : eqR (.d (pcD W H ps)) (.d (pcD W H ps)) = .ok true := by
  have hd := depth_pc W H ps
  show (if (true && true && shallow (pcD W H ps) (pcD W H ps)) then Rs.ok (PyData.eqv (pcD W H ps) (pcD W H ps)) else .bad) = _
  rw [shallow_l (by omega), eqv_refl (plain_pc hl)]; rfl
theorem k14_true (h : K14 T) (hl : T 118 = some f118_law) (ns : List Int) : call T 60 118 [.s (ns.map PyData.int)] = .ok (.d (.bool true)) := by
  rw [call_go hl rfl (st := [some (.s (ns.map PyData.int)), none, none, none, none, none, none, none, none, none, none]) rfl]
  simp [f118_law]
  refine for_go (· = _) (fun z => outK (seqK _ _ z)) (V := Option R × Option R × Option R × Option R × Option R × Option R × Option R × Option R × Option R) PyData.int (irange 0 8)
    (fun pre v => [some (.s (ns.map PyData.int)), v.1, none, v.2.1, v.2.2.1, v.2.2.2.1, v.2.2.2.2.1, v.2.2.2.2.2.1, v.2.2.2.2.2.2.1, v.2.2.2.2.2.2.2.1, v.2.2.2.2.2.2.2.2]) (fun _ _ => True) (none, none, none, none, none, none, none, none, none)
    (by simp; exact rngF_ok (j := 8) (by decide) (by decide)) rfl trivial ?_ ?_
  · rintro pre i post ⟨v1, v3, v4, v5, v6, v7, v8, v9, v10⟩ hpre -
    have hi : i ∈ irange 0 8 := by rw [← hpre]; simp
    rw [mem_irange] at hi
    obtain ⟨c, ec⟩ := c_cell' (n := 58) h.w.b ns (k := i) (by omega)
    obtain ⟨c8, ec8⟩ := c_cell' (n := 58) h.w.b ns (k := 8) (by omega)
    have h3 := mul_ii' (i := 3) (j := i) (by decide)
    have h5 := mul_ii' (i := 5) (j := i) (by decide)
    obtain ⟨W, H, ps, ep, pc⟩ := c_lpicture (n := 39) h.w (c + 3 * i)
    have hw := pc.w
    have hh := pc.h
    obtain ⟨t, et, hf, hc⟩ := c_tree' h.w.b 7 59 (c8 + 5 * i) W H (by omega) (by omega) (by omega) (by omega)
    have etn := c_lturns (n := 58) h.turns
    simp [ec, ec8, h3, h5, ep, et, etn]
    refine for_go (Nx _ _) (fun z => seqK _ _ z) (V := Option R × Option R × Option R × Option R × Option R) (fun τ : Tn => .str τ.nm) turnsL
      (fun pre v => [some (.s (ns.map PyData.int)), some (.d (.int i)), none, some (.d (pcD W H ps)), some (.d (wD W H)), some (.d t.enc), v.1, v.2.1, v.2.2.1, v.2.2.2.1, v.2.2.2.2]) (fun _ _ => True) (v6, v7, v8, v9, v10)
      (by simp [etn]) rfl trivial ?_ ?_
    · rintro pre2 τ post2 ⟨u6, u7, u8, u9, u10⟩ hpre2 -
      have key := k14_turn h ns pc hf (by omega) τ (some (.d (.int i))) none u7 u8 u9 u10
      obtain ⟨v, ev, _⟩ := key
      simp only [f118_law, hd, tl, forB] at ev
      simp only [setT_nm, b1_ok, List.set_cons_succ, List.set_cons_zero]
      rw [ev]
      exact Nx.mk (_, _, _, _, _) rfl trivial
    · rintro ⟨u6, u7, u8, u9, u10⟩ -
      simp
      exact Nx.mk (_, _, _, _, _, _, _, _, _) rfl trivial
  · rintro ⟨v1, v3, v4, v5, v6, v7, v8, v9, v10⟩ -
    have e1 := c_turned (n := 57) h.pane h.turned ⟨true, false, true⟩ 3 1 (ps := [⟨0, 0, 1, 1⟩, ⟨1, 0, 2, 1⟩]) (by decide)
    have e2 := c_turned (n := 57) h.pane h.turned ⟨false, true, false⟩ 3 1 (ps := [⟨0, 0, 1, 1⟩, ⟨1, 0, 2, 1⟩]) (by decide)
    have s1 : srtP [(⟨0, 0, 1, 1⟩ : Pn), ⟨0, 1, 1, 2⟩] = [⟨0, 0, 1, 1⟩, ⟨0, 1, 1, 2⟩] := List.mergeSort_of_pairwise (by decide)
    have s2 : srtP [(⟨2, 0, 1, 1⟩ : Pn), ⟨0, 0, 2, 1⟩] = [⟨0, 0, 2, 1⟩, ⟨2, 0, 1, 1⟩] := by
      rw [srtP_eq (List.Perm.swap ..)]
      exact List.mergeSort_of_pairwise (by decide)
    have t1 : [(⟨0, 0, 1, 1⟩ : Pn), ⟨1, 0, 2, 1⟩].map (tPn ⟨true, false, true⟩ 3 1) = [⟨0, 0, 1, 1⟩, ⟨0, 1, 1, 2⟩] := by decide
    have t2 : [(⟨0, 0, 1, 1⟩ : Pn), ⟨1, 0, 2, 1⟩].map (tPn ⟨false, true, false⟩ 3 1) = [⟨2, 0, 1, 1⟩, ⟨0, 0, 2, 1⟩] := by decide
    rw [t1, s1] at e1
    rw [t2, s2] at e2
    have e1' : call T 59 116 [.d (.tuple [wD 3 1, .tuple [(Pn.mk 0 0 1 1).D, (Pn.mk 1 0 2 1).D]]), .d (.str t_right)] = .ok (.d (.tuple [wD 1 3, .tuple [(Pn.mk 0 0 1 1).D, (Pn.mk 0 1 1 2).D]])) := e1
    have e2' : call T 59 116 [.d (.tuple [wD 3 1, .tuple [(Pn.mk 0 0 1 1).D, (Pn.mk 1 0 2 1).D]]), .d (.str t_mirror)] = .ok (.d (.tuple [wD 3 1, .tuple [(Pn.mk 0 0 2 1).D, (Pn.mk 2 0 1 1).D]])) := e2
    have q1 : eqR (.d (.tuple [wD 1 3, .tuple [(Pn.mk 0 0 1 1).D, (Pn.mk 0 1 1 2).D]])) (.d (.tuple [wD 1 3, .tuple [(Pn.mk 0 0 1 1).D, (Pn.mk 0 1 1 2).D]])) = .ok true := rfl
    have q2 : eqR (.d (.tuple [(Pn.mk 0 0 2 1).D, (Pn.mk 2 0 1 1).D])) (.d (.tuple [(Pn.mk 0 0 2 1).D, (Pn.mk 2 0 1 1).D])) = .ok true := rfl
    simp [e1', e2', q1, q2]
end PP

set_option Elab.async false
set_option linter.all false
set_option autoImplicit false
set_option maxRecDepth 100000
set_option maxHeartbeats 2000000
namespace PP
open PySem
variable {T : Nat → Option Fn} {n : Nat}
/-- a picture turned -/
def tPc (W H : Int) (ps : List Pn) (τ : Tn) : D := pcD (tW τ W H) (tH τ W H) (srtP (ps.map (tPn τ W H)))
theorem alike_pns : ∀ ps qs : List Pn, PySem.W.alikeAll (ps.map Pn.D) (qs.map Pn.D) = true
  | [], _ => by simp [PySem.W.alikeAll]
  | _ :: _, [] => by simp [PySem.W.alikeAll]
  | p :: ps, q :: qs => by
    have h : PySem.W.alike p.D q.D = true := alike_tD _ _
    simp [PySem.W.alikeAll, h, alike_pns ps qs]
theorem alike_pc (W H W' H' : Int) (ps qs : List Pn) : PySem.W.alike (pcD W H ps) (pcD W' H' qs) = true := by
  simp [pcD, wD, PySem.W.alike, PySem.W.alikeAll, alike_pns]
def leastF (x : D) (xs : List D) : D := xs.foldl (fun a y => if PySem.W.dataLt y a then y else a) x
def leastT (W H : Int) (ps : List Pn) : D := leastF (tPc W H ps ⟨false, false, false⟩) (turnsL.tail.map (tPc W H ps))
theorem leastF_mem : ∀ (xs : List D) (x : D), leastF x xs ∈ x :: xs
  | [], x => by simp [leastF]
  | y :: ys, x => by
    have := leastF_mem ys (if PySem.W.dataLt y x then y else x)
    show leastF (if PySem.W.dataLt y x then y else x) ys ∈ _
    rcases List.mem_cons.mp this with e | e
    · rw [e]
      split
      · simp
      · simp
    · simp [e]
theorem min1_least {x : D} {xs : List D} (h : leastOk (x :: xs) = true) : bltR .min1 [.l (x :: xs)] = .ok (.d (leastF x xs)) := by
  show (if leastOk (x :: xs) then Rs.ok (R.d (xs.foldl (fun a y => if PySem.W.dataLt y a then y else a) x)) else .bad) = _
  rw [if_pos h]; rfl
theorem leastOk_t (W H : Int) (ps : List Pn) : leastOk (turnsL.map (tPc W H ps)) = true := by
  unfold leastOk
  simp only [Bool.and_eq_true, List.all_eq_true, List.mem_map, decide_eq_true_eq]
  refine ⟨⟨?_, ?_⟩, ?_⟩
  · rintro _ ⟨p, _, rfl⟩ _ ⟨q, _, rfl⟩
    exact alike_pc ..
  · rintro _ ⟨p, _, rfl⟩
    have := depth_pc (tW p W H) (tH p W H) (srtP (ps.map (tPn p W H)))
    show (pcD _ _ _).depth ≤ 60
    omega
  · rintro _ ⟨p, _, rfl⟩
    rfl
theorem min1_t (W H : Int) (ps : List Pn) : bltR .min1 [.l (turnsL.map (tPc W H ps))] = .ok (.d (leastT W H ps)) := min1_least (leastOk_t W H ps)
theorem min1_tL (W H : Int) (ps : List Pn) : bltR .min1 [.d (.list (turnsL.map (tPc W H ps)))] = .ok (.d (leastT W H ps)) := by
  have := min1_t W H ps
  exact this
theorem dks_turns : ([(t_same, .tuple [.bool false, .bool false, .bool false]), (t_right, .tuple [.bool true, .bool false, .bool true]), (t_half, .tuple [.bool false, .bool true, .bool true]), (t_left, .tuple [.bool true, .bool true, .bool false]), (t_mirror, .tuple [.bool false, .bool true, .bool false]), (t_flip, .tuple [.bool false, .bool false, .bool true]), (t_over, .tuple [.bool true, .bool false, .bool false]), (t_under, .tuple [.bool true, .bool true, .bool true])] : List (Str × D)).map (fun p => PyData.str p.1) = turnsL.map fun τ => .str τ.nm := rfl
structure TU (T : Nat → Option Fn) : Prop where
  pane : T 115 = some f115_turned_pane
  turned : T 116 = some f116_turned
  least : T 119 = some f119_least_turned
  to : T 120 = some f120_turns_to
theorem c_least (h : TU T) (W H : Int) {ps : List Pn} (hl : ps.length ≤ lim) : call T (n + 3) 119 [.d (pcD W H ps)] = .ok (.d (leastT W H ps)) := by
  have e : ∀ τ : Tn, call T (n + 2) 116 [.d (pcD W H ps), .d (.str τ.nm)] = .ok (.d (tPc W H ps τ)) := fun τ => c_turned h.pane h.turned τ W H hl
  rw [call_go h.least rfl (st := [some (.d (pcD W H ps)), none]) rfl]
  simp only [f119_least_turned]
  simp [-List.map_cons, -List.map_nil]
  rw [lc_nm (fun τ : Tn => .str τ.nm) (tPc W H ps) turnsL (by rw [evI_dks, dks_turns]) (by decide) (by intro τ _; simp [e])]
  simp [min1_t, -List.map_cons, -List.map_nil]
theorem eq_pcX {W H : Int} {ps : List Pn} (X : D) : eqR (.d (pcD W H ps)) (.d X) = .ok (PyData.eqv (pcD W H ps) X) := by
  have hd := depth_pc W H ps
  show (if (true && true && shallow (pcD W H ps) X) then Rs.ok (PyData.eqv (pcD W H ps) X) else .bad) = _
  rw [shallow_l (by omega)]; rfl
def toD (W H : Int) (ps : List Pn) (X : D) : D := .tuple ((turnsL.filter fun τ => PyData.eqv (tPc W H ps τ) X).map fun τ => .str τ.nm)
theorem c_turns_to (h : TU T) (W H : Int) {ps : List Pn} (hl : ps.length ≤ lim) (X : D) : call T (n + 3) 120 [.d (pcD W H ps), .d X] = .ok (.d (toD W H ps X)) := by
  have e : ∀ τ : Tn, call T (n + 2) 116 [.d (pcD W H ps), .d (.str τ.nm)] = .ok (.d (tPc W H ps τ)) := fun τ => c_turned h.pane h.turned τ W H hl
  rw [call_go h.to rfl (st := [some (.d (pcD W H ps)), some (.d X), none]) rfl]
  simp only [f120_turns_to]
  simp [-List.map_cons, -List.map_nil]
  rw [lcf_nm (fun τ : Tn => .str τ.nm) (fun τ => PyData.eqv (tPc W H ps τ) X) (fun τ => .str τ.nm) turnsL (by rw [evI_dks, dks_turns]) (by decide) (by intro τ _; simp [e, tPc, eq_pcX])]
  simp [toD]
theorem plain_toD (W H : Int) (ps : List Pn) (X : D) : plain (toD W H ps X) = true := by
  have hl : (turnsL.filter fun τ => PyData.eqv (tPc W H ps τ) X).length ≤ 8 := List.length_filter_le _ turnsL
  have hp := plainAll_mem (xs := (turnsL.filter fun τ => PyData.eqv (tPc W H ps τ) X).map fun τ => PyData.str τ.nm) (fun x hx => by
    obtain ⟨τ, _, rfl⟩ := List.mem_map.mp hx
    rfl)
  simp only [toD, plain, Bool.and_eq_true, decide_eq_true_eq, List.length_map]
  exact ⟨by rw [lim_eq]; omega, hp⟩
theorem depth_toD (W H : Int) (ps : List Pn) (X : D) : (toD W H ps X).depth ≤ 1 := by
  have := depthAll_le2 (xs := (turnsL.filter fun τ => PyData.eqv (tPc W H ps τ) X).map fun τ => PyData.str τ.nm) (k := 0) (fun x hx => by
    obtain ⟨τ, _, rfl⟩ := List.mem_map.mp hx
    simp [PyData.depth])
  simp only [toD, PyData.depth]; omega
structure K15 (T : Nat → Option Fn) : Prop where
  w : TW T
  u : TU T
  same : T 24 = some f24_law_same
  spot : T 63 = some f63_law_spot
  lturned : T 65 = some f65_law_turned
  turns : T 68 = some f68_law_turns
theorem leastT_plain {W H : Int} {ps : List Pn} (hl : ps.length ≤ 7) : plain (leastT W H ps) = true ∧ (leastT W H ps).depth ≤ 4 := by
  have hm : leastT W H ps ∈ turnsL.map (tPc W H ps) := leastF_mem _ _
  obtain ⟨τ, _, e⟩ := List.mem_map.mp hm
  rw [← e]
  have hsl : (srtP (ps.map (tPn τ W H))).length ≤ 7 := by rw [(srtP_perm _).length_eq, List.length_map]; exact hl
  exact ⟨plain_pc (by rw [lim_eq]; omega), depth_pc ..⟩
theorem k15_true (h : K15 T) (hl : T 121 = some f121_law) (ns : List Int) : call T 60 121 [.s (ns.map PyData.int)] = .ok (.d (.bool true)) := by
  rw [call_go hl rfl (st := [some (.s (ns.map PyData.int)), none, none, none, none, none, none, none, none]) rfl]
  simp [f121_law]
  refine for_go (· = _) (fun z => outK (seqK _ _ z)) (V := Option R × Option R × Option R × Option R × Option R × Option R) PyData.int (irange 0 10)
    (fun pre v => [some (.s (ns.map PyData.int)), v.1, none, v.2.1, v.2.2.1, v.2.2.2.1, v.2.2.2.2.1, v.2.2.2.2.2, none]) (fun _ _ => True) (none, none, none, none, none, none)
    (by simp; exact rngF_ok (j := 10) (by decide) (by decide)) rfl trivial ?_ ?_
  · rintro pre i post ⟨v1, v3, v4, v5, v6, v7⟩ hpre -
    have hi : i ∈ irange 0 10 := by rw [← hpre]; simp
    rw [mem_irange] at hi
    obtain ⟨c, ec⟩ := c_cell' (n := 58) h.w.b ns (k := i % 9) (by omega)
    obtain ⟨c9, ec9⟩ := c_cell' (n := 58) h.w.b ns (k := 9) (by omega)
    have h31 := mul_ii' (i := 31) (j := i) (by decide)
    have h7 := mul_ii' (i := 7) (j := i) (by decide)
    obtain ⟨W, H, ps, ep, pc⟩ := c_lpicture (n := 39) h.w (c + 31 * i)
    obtain ⟨W2, H2, ps2, ep2, pc2⟩ := c_lpicture (n := 39) h.w (c9 + 7 * i)
    have hlen := pc.len
    have etn := c_lturns (n := 58) h.turns
    have et : ∀ τ : Tn, call T 59 65 [.d (pcD W H ps), .d (.str τ.nm)] = .ok (.d (tPc W H ps τ)) := fun τ => c_lturned (n := 57) h.spot h.lturned τ W H (by omega) pc.pos
    have el := c_least (n := 56) h.u W H pc.lim
    obtain ⟨lp, ld⟩ := leastT_plain (W := W) (H := H) (ps := ps) hlen
    have es := c_same h.same 59 (leastT W H ps) lp (by omega)
    obtain ⟨j, ej, j1, j2⟩ := c_mix' (n := 58) h.w.b (c9 + i) (p := 9743) (m := 8) (by decide) (by decide) (by decide)
    obtain ⟨τ0, hτ0, en, _⟩ := idx_mem (tPc W H ps) turnsL j1 (by simpa [turnsL] using j2)
    simp [ec, h31, ep, etn]
    rw [lc_nm (fun τ : Tn => .str τ.nm) (tPc W H ps) turnsL (by simp [etn]) (by decide) (by intro τ _; simp [et])]
    simp [el, min1_tL, es, ec9, ej, en, h7, ep2, -List.map_cons, -List.map_nil]
    refine for_go (Nx _ _) (fun z => seqK _ _ z) (V := Option R × Option R) id [tPc W H ps τ0, pcD W H ps, pcD W2 H2 ps2]
      (fun pre v => [some (.s (ns.map PyData.int)), some (.d (.int i)), none, some (.d (pcD W H ps)), some (.d (.list (turnsL.map (tPc W H ps)))), some (.d (tPc W H ps τ0)), v.1, v.2, none]) (fun _ _ => True) (v6, v7)
      (by simp [ec9, h7, ep2, -List.map_cons]) rfl trivial ?_ ?_
    · rintro pre2 X post2 ⟨u6, u7⟩ hpre2 -
      have et2 := c_turns_to (n := 56) h.u W H pc.lim X
      have es2 := c_same h.same 59 (toD W H ps X) (plain_toD W H ps X) (by have := depth_toD W H ps X; omega)
      simp [etn, -List.map_cons, -List.map_nil]
      rw [lcf_nm (fun τ : Tn => .str τ.nm) (fun τ => PyData.eqv (tPc W H ps τ) X) (fun τ => .str τ.nm) turnsL (by simp [etn, -List.map_cons, -List.map_nil]) (by decide) (by intro τ _; simp [et, tPc, eq_pcX])]
      simp only [toD] at et2 es2
      simp [et2, es2, -List.map_cons, -List.map_nil]
      exact Nx.mk (_, _) rfl trivial
    · rintro ⟨u6, u7⟩ -
      simp [-List.map_cons, -List.map_nil]
      exact Nx.mk (_, _, _, _, _, _) rfl trivial
  · rintro ⟨v1, v3, v4, v5, v6, v7⟩ -
    have etn := c_lturns (n := 58) h.turns
    have e1 := c_turns_to (n := 56) h.u 1 1 (ps := [⟨0, 0, 1, 1⟩]) (by decide) (pcD 1 1 [⟨0, 0, 1, 1⟩])
    have e2 := c_least (n := 56) h.u 2 1 (ps := [⟨0, 0, 2, 1⟩]) (by decide)
    have s1 : ∀ p : Pn, srtP [p] = [p] := fun p => List.mergeSort_of_pairwise (by simp)
    have q1 : toD 1 1 [⟨0, 0, 1, 1⟩] (pcD 1 1 [⟨0, 0, 1, 1⟩]) = .tuple (turnsL.map fun τ => .str τ.nm) := by
      unfold toD
      rw [List.filter_eq_self.mpr]
      intro τ _
      obtain ⟨o, m, f⟩ := τ
      cases o <;> cases m <;> cases f <;> (unfold tPc; rw [List.map_cons, List.map_nil, s1]; decide +kernel)
    have q2 : leastT 2 1 [⟨0, 0, 2, 1⟩] = pcD 1 2 [⟨0, 0, 1, 2⟩] := by
      unfold leastT tPc turnsL
      simp only [List.map_cons, List.map_nil, List.tail_cons, s1]
      rfl
    rw [q1] at e1
    rw [q2] at e2
    simp only [pcD, List.map_cons, List.map_nil] at e1 e2
    have q3 : eqR (.d (.tuple (turnsL.map fun τ => .str τ.nm))) (.d (.tuple (turnsL.map fun τ => .str τ.nm))) = .ok true := rfl
    have q4 : eqR (.d (.tuple [wD 1 2, .tuple [(Pn.mk 0 0 1 2).D]])) (.d (.tuple [wD 1 2, .tuple [(Pn.mk 0 0 1 2).D]])) = .ok true := rfl
    simp [e1, e2, etn, q3, q4, -List.map_cons, -List.map_nil]
end PP

set_option Elab.async false
set_option linter.all false
set_option autoImplicit false
set_option maxRecDepth 100000
set_option maxHeartbeats 4000000
namespace PP
open PySem
/-! ### turns behind turns -/
def Tn.comp (τ σ : Tn) : Tn := match τ.o with
  | true => ⟨!σ.o, τ.m != σ.f, τ.f != σ.m⟩
  | false => ⟨σ.o, τ.m != σ.m, τ.f != σ.f⟩
def Tn.inv (τ : Tn) : Tn := match τ.o with
  | true => ⟨true, τ.f, τ.m⟩
  | false => τ
def Tn.one : Tn := ⟨false, false, false⟩
theorem comp_inv (τ : Tn) : τ.comp τ.inv = Tn.one := by
  obtain ⟨o, m, f⟩ := τ
  cases o <;> cases m <;> cases f <;> rfl
theorem inv_comp (τ : Tn) : τ.inv.comp τ = Tn.one := by
  obtain ⟨o, m, f⟩ := τ
  cases o <;> cases m <;> cases f <;> rfl
theorem tW_comp (τ σ : Tn) (W H : Int) : tW σ (tW τ W H) (tH τ W H) = tW (τ.comp σ) W H ∧ tH σ (tW τ W H) (tH τ W H) = tH (τ.comp σ) W H := by
  obtain ⟨o, m, f⟩ := τ
  obtain ⟨o', m', f'⟩ := σ
  cases o <;> cases o' <;> simp [tW, tH, Tn.comp]
theorem tPn_comp (τ σ : Tn) (W H : Int) (p : Pn) : tPn σ (tW τ W H) (tH τ W H) (tPn τ W H p) = tPn (τ.comp σ) W H p := by
  obtain ⟨o, m, f⟩ := τ
  obtain ⟨o', m', f'⟩ := σ
  cases o <;> cases m <;> cases f <;> cases o' <;> cases m' <;> cases f' <;> simp [tPn, tX, tY, tW, tH, Tn.comp] <;> omega
theorem tPn_one (W H : Int) (p : Pn) : tPn Tn.one W H p = p := rfl
theorem tW_one (W H : Int) : tW Tn.one W H = W ∧ tH Tn.one W H = H := ⟨rfl, rfl⟩
theorem tPn_back (τ : Tn) (W H : Int) (p : Pn) : tPn τ.inv (tW τ W H) (tH τ W H) (tPn τ W H p) = p := by rw [tPn_comp, comp_inv, tPn_one]
theorem tPn_inj {τ : Tn} {W H : Int} {p q : Pn} (h : tPn τ W H p = tPn τ W H q) : p = q := by
  rw [← tPn_back τ W H p, h, tPn_back]
theorem tW_back (τ : Tn) (W H : Int) : tW τ.inv (tW τ W H) (tH τ W H) = W ∧ tH τ.inv (tW τ W H) (tH τ W H) = H := by
  have := tW_comp τ τ.inv W H
  rw [comp_inv] at this
  exact this
theorem has_turn {τ : Tn} {W H : Int} {p : Pn} {x y : Int} : (tPn τ W H p).has (spT τ W H x y).1 (spT τ W H x y).2 ↔ p.has x y := by
  obtain ⟨o, m, f⟩ := τ
  cases o <;> cases m <;> cases f <;> simp only [tPn, tX, tY, spT, sX, sY, Pn.has] <;> constructor <;> intro h <;> omega
theorem spT_back (τ : Tn) (W H u v : Int) : ∃ x y, spT τ W H x y = (u, v) := by
  obtain ⟨o, m, f⟩ := τ
  cases o <;> cases m <;> cases f <;> simp only [spT, sX, sY, Prod.mk.injEq]
  · exact ⟨u, v, rfl, rfl⟩
  · exact ⟨u, H - 1 - v, rfl, by omega⟩
  · exact ⟨W - 1 - u, v, by omega, rfl⟩
  · exact ⟨W - 1 - u, H - 1 - v, by omega, by omega⟩
  · exact ⟨v, u, rfl, rfl⟩
  · exact ⟨v, H - 1 - u, by omega, rfl⟩
  · exact ⟨W - 1 - v, u, rfl, by omega⟩
  · exact ⟨W - 1 - v, H - 1 - u, by omega, by omega⟩
theorem pos_turn {τ : Tn} {W H : Int} {p : Pn} : (tPn τ W H p).pos ↔ p.pos := by
  obtain ⟨o, m, f⟩ := τ
  cases o <;> simp only [tPn, Pn.pos] <;> constructor <;> intro h <;> omega
theorem sub_turn {τ : Tn} {W H : Int} {p q : Pn} : (tPn τ W H p).sub (tPn τ W H q) ↔ p.sub q := by
  obtain ⟨o, m, f⟩ := τ
  cases o <;> cases m <;> cases f <;> simp only [tPn, tX, tY, Pn.sub] <;> constructor <;> intro h <;> omega
theorem til_turn {P : Pn} {ps : List Pn} (h : Til P ps) (τ : Tn) (W H : Int) : Til (tPn τ W H P) (ps.map (tPn τ W H)) := by
  refine ⟨fun p hp => ?_, fun p hp q hq u v hx hy => ?_, ?_, fun u v hx => ?_⟩
  · obtain ⟨r, hr, rfl⟩ := List.mem_map.mp hp
    exact ⟨pos_turn.mpr (h.inn r hr).1, sub_turn.mpr (h.inn r hr).2⟩
  · obtain ⟨r, hr, rfl⟩ := List.mem_map.mp hp
    obtain ⟨s, hs, rfl⟩ := List.mem_map.mp hq
    obtain ⟨x, y, e⟩ := spT_back τ W H u v
    have e1 : u = (spT τ W H x y).1 := by rw [e]
    have e2 : v = (spT τ W H x y).2 := by rw [e]
    rw [e1, e2, has_turn] at hx hy
    rw [h.dis r hr s hs x y hx hy]
  · exact List.pairwise_map.mpr (h.nd.imp fun a e => a (tPn_inj e))
  · obtain ⟨x, y, e⟩ := spT_back τ W H u v
    have e1 : u = (spT τ W H x y).1 := by rw [e]
    have e2 : v = (spT τ W H x y).2 := by rw [e]
    rw [e1, e2, has_turn] at hx
    obtain ⟨p, hp, hh⟩ := h.cov x y hx
    exact ⟨tPn τ W H p, List.mem_map.mpr ⟨p, hp, rfl⟩, by rw [e1, e2, has_turn]; exact hh⟩
theorem tWH {τ : Tn} {W H : Int} (hw : 1 ≤ W ∧ W ≤ 6) (hh : 1 ≤ H ∧ H ≤ 6) : (1 ≤ tW τ W H ∧ tW τ W H ≤ 6) ∧ (1 ≤ tH τ W H ∧ tH τ W H ≤ 6) := by
  unfold tW tH; cases τ.o <;> simp <;> omega
/-- a picture turned -/
def tPs (τ : Tn) (W H : Int) (ps : List Pn) : List Pn := srtP (ps.map (tPn τ W H))
theorem pict_turn {W H : Int} {ps : List Pn} (h : Pict W H ps) (τ : Tn) : Pict (tW τ W H) (tH τ W H) (tPs τ W H ps) := by
  have t := til_turn h.til τ W H
  rw [tPn_whole] at t
  obtain ⟨a, b⟩ := tWH (τ := τ) h.w h.h
  exact pict_mk a b t (by rw [List.length_map]; exact h.len)
theorem tPs_comp (τ σ : Tn) (W H : Int) (ps : List Pn) : tPs σ (tW τ W H) (tH τ W H) (tPs τ W H ps) = tPs (τ.comp σ) W H ps := by
  unfold tPs
  have e : (ps.map (tPn τ W H)).map (tPn σ (tW τ W H) (tH τ W H)) = ps.map (tPn (τ.comp σ) W H) := by
    rw [List.map_map]
    exact List.map_congr_left fun p _ => tPn_comp τ σ W H p
  rw [srtP_eq ((srtP_perm _).map _), e]
theorem srtP_id {ps : List Pn} (h : (ps.map Pn.L).Pairwise (· < ·)) : srtP ps = ps := by
  refine List.mergeSort_of_pairwise ?_
  rw [List.pairwise_map] at h
  exact h.imp fun {a b} z => by unfold leI; exact decide_eq_true (List.le_of_lt z)
theorem tPs_one {W H : Int} {ps : List Pn} (h : Pict W H ps) : tPs Tn.one W H ps = ps := by
  unfold tPs
  have : ps.map (tPn Tn.one W H) = ps := by
    rw [List.map_congr_left (g := id) fun p _ => tPn_one W H p]; simp
  rw [this, srtP_id h.lt]
/-! trees -/
theorem turn_comp (τ σ : Tn) (W H : Int) : ∀ (t : Tr) (P : Pn), (t.turn τ P).turn σ (tPn τ W H P) = t.turn (τ.comp σ) P
  | .pane, _ => rfl
  | .cut s k a b, P => by
    obtain ⟨c1, c2, c3⟩ := turn_c (τ := τ) (W := W) (H := H) (P := P) (s := s) (k := k)
    have i1 := turn_comp τ σ W H a (P.c1 s (P.lo s + k))
    have i2 := turn_comp τ σ W H b (P.c2 s (P.lo s + k))
    have hk : σ.kd (τ.kd s) = (τ.comp σ).kd s := by
      obtain ⟨o, m, f⟩ := τ
      obtain ⟨o', m', f'⟩ := σ
      cases o <;> cases o' <;> cases s <;> rfl
    have hr : (τ.comp σ).rv s = (τ.rv s != σ.rv (τ.kd s)) := by
      obtain ⟨o, m, f⟩ := τ
      obtain ⟨o', m', f'⟩ := σ
      cases o <;> cases s <;> rfl
    cases q : τ.rv s with
    | true =>
      obtain ⟨e1, e2⟩ := c2 q
      cases q2 : σ.rv (τ.kd s) with
      | true =>
        rw [q, q2] at hr
        have hr : (τ.comp σ).rv s = false := hr
        simp only [Tr.turn, q, q2, hr]
        rw [e1, e2, i1, i2, hk, c3]
        congr 1; omega
      | false =>
        rw [q, q2] at hr
        have hr : (τ.comp σ).rv s = true := hr
        simp only [Tr.turn, q, q2, hr]
        rw [e1, e2, i1, i2, hk]
    | false =>
      obtain ⟨e1, e2⟩ := c1 q
      cases q2 : σ.rv (τ.kd s) with
      | true =>
        rw [q, q2] at hr
        have hr : (τ.comp σ).rv s = true := hr
        simp only [Tr.turn, q, q2, hr]
        rw [e1, e2, i1, i2, hk, c3]
      | false =>
        rw [q, q2] at hr
        have hr : (τ.comp σ).rv s = false := hr
        simp only [Tr.turn, q, q2, hr]
        rw [e1, e2, i1, i2, hk]
theorem treesF_nodup : ∀ (k : Nat) (P : Pn) (ps : List Pn), (treesF k P ps).Nodup
  | 0, _, _ => .nil
  | k + 1, P, ps => by
    unfold treesF
    by_cases h1 : ps.length = 1
    · rw [if_pos h1]; simp
    · rw [if_neg h1]
      unfold List.Nodup
      rw [List.pairwise_flatMap]
      have ndl : ∀ s, (linesL s P ps).Nodup := fun s => ((irange_lt _ _).imp (fun h e => by omega)).filter _
      refine ⟨fun a _ => ?_, ?_⟩
      · rw [List.pairwise_flatMap]
        refine ⟨fun x _ => ?_, ?_⟩
        · exact List.pairwise_map.mpr ((treesF_nodup k _ _).imp fun h e => h (by injection e))
        · refine (treesF_nodup k _ _).imp ?_
          intro x y hxy u hu v hv e
          obtain ⟨b, _, rfl⟩ := List.mem_map.mp hu
          obtain ⟨c, _, rfl⟩ := List.mem_map.mp hv
          injection e with _ _ e3 _
          exact hxy e3
      · have ndc : (cutsL P ps).Nodup := by
          unfold cutsL
          rw [List.nodup_append]
          refine ⟨List.pairwise_map.mpr ((ndl true).imp fun h e => h (by simpa using e)), List.pairwise_map.mpr ((ndl false).imp fun h e => h (by simpa using e)), ?_⟩
          intro a ha b hb e
          simp only [List.mem_map] at ha hb
          obtain ⟨x, _, rfl⟩ := ha
          obtain ⟨y, _, rfl⟩ := hb
          simp at e
        refine ndc.imp ?_
        rintro ⟨s, c⟩ ⟨s', c'⟩ hne u hu v hv e
        simp only [List.mem_flatMap, List.mem_map] at hu hv
        obtain ⟨x, _, y, _, rfl⟩ := hu
        obtain ⟨x', _, y', _, rfl⟩ := hv
        injection e with e1 e2 _ _
        apply hne
        subst e1
        simp only [Prod.mk.injEq, true_and]
        omega
end PP

set_option Elab.async false
set_option linter.all false
set_option autoImplicit false
set_option maxRecDepth 100000
set_option maxHeartbeats 4000000
namespace PP
open PySem
theorem mem_allT {W H : Int} {ps : List Pn} (h : Pict W H ps) {t : Tr} : t ∈ allT W H ps ↔ t.Fit ⟨0, 0, W, H⟩ ∧ (t.pns ⟨0, 0, W, H⟩).Perm ps := mem_treesF 7 _ ps h.til h.W.pos h.len t
theorem turn_mem {W H : Int} {ps : List Pn} (h : Pict W H ps) (τ : Tn) {t : Tr} (ht : t ∈ allT W H ps) : t.turn τ ⟨0, 0, W, H⟩ ∈ allT (tW τ W H) (tH τ W H) (tPs τ W H ps) := by
  obtain ⟨h1, h2⟩ := (mem_allT h).mp ht
  have f := turn_fit τ W H t _ h1
  have p := turn_pns τ W H t ⟨0, 0, W, H⟩
  rw [tPn_whole] at f p
  exact (mem_allT (pict_turn h τ)).mpr ⟨f, p.trans ((h2.map _).trans (srtP_perm _).symm)⟩
theorem trees_turn {W H : Int} {ps : List Pn} (h : Pict W H ps) (τ : Tn) : ((allT W H ps).map fun t => t.turn τ ⟨0, 0, W, H⟩).Perm (allT (tW τ W H) (tH τ W H) (tPs τ W H ps)) := by
  have back : ∀ t : Tr, (t.turn τ ⟨0, 0, W, H⟩).turn τ.inv ⟨0, 0, tW τ W H, tH τ W H⟩ = t := fun t => by
    have := turn_comp τ τ.inv W H t ⟨0, 0, W, H⟩
    rw [tPn_whole, comp_inv] at this
    rw [this]; exact turn_same t _
  have hp := pict_turn h τ
  refine (List.perm_ext_iff_of_nodup ?_ (treesF_nodup 7 _ _)).mpr fun t => ?_
  · refine List.pairwise_map.mpr ((treesF_nodup 7 _ _).imp fun {a b} hne e => hne ?_)
    rw [← back a, e, back b]
  · constructor
    · intro ht
      obtain ⟨u, hu, rfl⟩ := List.mem_map.mp ht
      exact turn_mem h τ hu
    · intro ht
      have h1 := turn_mem hp τ.inv ht
      obtain ⟨e1, e2⟩ := tW_back τ W H
      rw [e1, e2, tPs_comp, comp_inv, tPs_one h] at h1
      refine List.mem_map.mpr ⟨_, h1, ?_⟩
      have := turn_comp τ.inv τ (tW τ W H) (tH τ W H) t ⟨0, 0, tW τ W H, tH τ W H⟩
      rw [tPn_whole, e1, e2, inv_comp] at this
      rw [this]; exact turn_same t _
/-- lines -/
def lnT (τ : Tn) (W H : Int) (s : Bool) (c : Int) : Int := if τ.rv s then (if s then W else H) - c else c
theorem line_turn {τ : Tn} {W H : Int} {P : Pn} {ps : List Pn} {s : Bool} {c : Int} : c ∈ linesL s P ps → lnT τ W H s c ∈ linesL (τ.kd s) (tPn τ W H P) (ps.map (tPn τ W H)) := by
  intro hc
  rw [mem_linesL] at hc ⊢
  obtain ⟨h1, h2⟩ := hc
  refine ⟨?_, ?_⟩
  · obtain ⟨o, m, f⟩ := τ
    cases o <;> cases m <;> cases f <;> cases s <;> simp only [lnT, tPn, tX, tY, Tn.rv, Tn.kd, Pn.lo, Pn.sz, Bool.not_true, Bool.not_false, if_true, if_false, Bool.false_eq_true] at * <;> omega
  · intro p hp
    obtain ⟨q, hq, rfl⟩ := List.mem_map.mp hp
    have z := h2 q hq
    obtain ⟨o, m, f⟩ := τ
    cases o <;> cases m <;> cases f <;> cases s <;> simp only [lnT, tPn, tX, tY, Tn.rv, Tn.kd, Pn.lo, Pn.sz, Bool.not_true, Bool.not_false, if_true, if_false, Bool.false_eq_true] at * <;> omega
theorem linesL_nodup (s : Bool) (P : Pn) (ps : List Pn) : (linesL s P ps).Nodup := ((irange_lt _ _).imp (fun h e => by omega)).filter _
theorem lines_le_turn (τ : Tn) (W H : Int) (P : Pn) (ps : List Pn) (s : Bool) : (linesL s P ps).length ≤ (linesL (τ.kd s) (tPn τ W H P) (ps.map (tPn τ W H))).length := by
  have := nodup_len (l := (linesL s P ps).map (lnT τ W H s)) (r := linesL (τ.kd s) (tPn τ W H P) (ps.map (tPn τ W H))) ?_ ?_
  · rw [List.length_map] at this; exact this
  · refine List.pairwise_map.mpr ((linesL_nodup s P ps).imp fun h e => h ?_)
    unfold lnT at e
    split at e <;> omega
  · intro x hx
    obtain ⟨c, hc, rfl⟩ := List.mem_map.mp hx
    exact line_turn hc
theorem lines_len_perm {s : Bool} {P : Pn} {ps qs : List Pn} (e : ps.Perm qs) : (linesL s P ps).length = (linesL s P qs).length :=
  List.Perm.length_eq ((List.perm_ext_iff_of_nodup (linesL_nodup ..) (linesL_nodup ..)).mpr fun c => lines_perm e)
theorem lines_turn {W H : Int} {ps : List Pn} (h : Pict W H ps) (τ : Tn) (s : Bool) : (linesL (τ.kd s) ⟨0, 0, tW τ W H, tH τ W H⟩ (tPs τ W H ps)).length = (linesL s ⟨0, 0, W, H⟩ ps).length := by
  have a := lines_le_turn τ W H ⟨0, 0, W, H⟩ ps s
  rw [tPn_whole, ← lines_len_perm (srtP_perm (ps.map (tPn τ W H)))] at a
  have b := lines_le_turn τ.inv (tW τ W H) (tH τ W H) ⟨0, 0, tW τ W H, tH τ W H⟩ (tPs τ W H ps) (τ.kd s)
  obtain ⟨e1, e2⟩ := tW_back τ W H
  rw [tPn_whole, e1, e2, ← lines_len_perm (srtP_perm ((tPs τ W H ps).map (tPn τ.inv (tW τ W H) (tH τ W H))))] at b
  have e3 : srtP ((tPs τ W H ps).map (tPn τ.inv (tW τ W H) (tH τ W H))) = ps := by
    have := tPs_comp τ τ.inv W H ps
    rw [comp_inv, tPs_one h] at this
    exact this
  have e4 : τ.inv.kd (τ.kd s) = s := by
    obtain ⟨o, m, f⟩ := τ
    cases o <;> cases s <;> rfl
  rw [e3, e4] at b
  exact Nat.le_antisymm b a
/-- knots -/
theorem isK_turn {P Q : Pn} {ps qs : List Pn} (z : IsK P ps Q qs) (τ : Tn) (W H : Int) : IsK (tPn τ W H P) (ps.map (tPn τ W H)) (tPn τ W H Q) (qs.map (tPn τ W H)) := by
  refine ⟨sub_turn.mpr z.sub, til_turn z.til τ W H, fun p hp => ?_, by rw [List.length_map]; exact z.two, fun s => ?_⟩
  · obtain ⟨q, hq, rfl⟩ := List.mem_map.mp hp
    exact List.mem_map.mpr ⟨q, z.has q hq, rfl⟩
  · have a := lines_le_turn τ.inv (tW τ W H) (tH τ W H) (tPn τ W H Q) (qs.map (tPn τ W H)) s
    have e : (qs.map (tPn τ W H)).map (tPn τ.inv (tW τ W H) (tH τ W H)) = qs := by
      rw [List.map_map]
      have : (tPn τ.inv (tW τ W H) (tH τ W H) ∘ tPn τ W H) = id := by funext p; exact tPn_back τ W H p
      rw [this]; simp
    rw [tPn_back, e, z.none] at a
    exact List.eq_nil_of_length_eq_zero (by simpa using a)
/-- the least of all -/
theorem lt_irr (x : D) : PySem.W.dataLt x x = false := (PyProof.Rows.listOrd PyProof.Rows.itemOrd).irrefl _
theorem lt_neg {x y z : D} (h : PySem.W.dataLt x z = true) : PySem.W.dataLt x y = true ∨ PySem.W.dataLt y z = true := (PyProof.Rows.listOrd PyProof.Rows.itemOrd).negTrans _ _ _ h
theorem lt_tot {x y : D} (h : PySem.W.alike x y = true) (h1 : PySem.W.dataLt x y = false) (h2 : PySem.W.dataLt y x = false) : x = y := toks_alike h ((PyProof.Rows.listOrd PyProof.Rows.itemOrd).total _ _ h1 h2)
theorem lt_tr {x y z : D} (h1 : PySem.W.dataLt x y = true) (h2 : PySem.W.dataLt y z = true) : PySem.W.dataLt x z = true := (PyProof.Rows.listOrd PyProof.Rows.itemOrd).trans _ _ _ h1 h2
theorem leastF_le : ∀ (xs : List D) (x : D), ∀ y ∈ x :: xs, PySem.W.dataLt y (leastF x xs) = false
  | [], x, y, hy => by
    simp at hy
    subst hy
    exact lt_irr y
  | z :: zs, x, y, hy => by
    show PySem.W.dataLt y (leastF (if PySem.W.dataLt z x then z else x) zs) = false
    have ih := leastF_le zs (if PySem.W.dataLt z x then z else x)
    have hm := ih _ (List.mem_cons_self ..)
    cases q : PySem.W.dataLt y (leastF (if PySem.W.dataLt z x then z else x) zs) with
    | false => rfl
    | true =>
      exfalso
      rcases List.mem_cons.mp hy with e | e
      · subst e
        rcases lt_neg (y := if PySem.W.dataLt z y then z else y) q with w | w
        · split at w
          · rename_i hz
            have := lt_tr hz w
            rw [lt_irr] at this; cases this
          · rw [lt_irr] at w; cases w
        · rw [hm] at w; cases w
      · rcases List.mem_cons.mp e with e | e
        · subst e
          rcases lt_neg (y := if PySem.W.dataLt y x then y else x) q with w | w
          · split at w
            · rw [lt_irr] at w; cases w
            · rename_i hz; exact hz w
          · rw [hm] at w; cases w
        · rw [ih y (List.mem_cons_of_mem _ e)] at q; cases q
theorem leastF_eq {x y : D} {xs ys : List D} (al : ∀ a ∈ x :: xs, ∀ b ∈ x :: xs, PySem.W.alike a b = true) (h1 : ∀ a ∈ x :: xs, a ∈ y :: ys) (h2 : ∀ a ∈ y :: ys, a ∈ x :: xs) : leastF x xs = leastF y ys := by
  have m1 := leastF_mem xs x
  have m2 := leastF_mem ys y
  refine lt_tot (al _ m1 _ (h2 _ m2)) ?_ ?_
  · exact leastF_le ys y _ (h1 _ m1)
  · exact leastF_le xs x _ (h2 _ m2)
theorem tPc_eq (W H : Int) (ps : List Pn) (τ : Tn) : tPc W H ps τ = pcD (tW τ W H) (tH τ W H) (tPs τ W H ps) := rfl
theorem tPc_comp (W H : Int) (ps : List Pn) (τ σ : Tn) : tPc (tW τ W H) (tH τ W H) (tPs τ W H ps) σ = tPc W H ps (τ.comp σ) := by
  rw [tPc_eq, tPc_eq, tPs_comp, (tW_comp τ σ W H).1, (tW_comp τ σ W H).2]
theorem all_turns (τ : Tn) : τ ∈ turnsL := by
  obtain ⟨o, m, f⟩ := τ
  cases o <;> cases m <;> cases f <;> decide
theorem leastT_turn {W H : Int} {ps : List Pn} (h : Pict W H ps) (τ : Tn) : leastT (tW τ W H) (tH τ W H) (tPs τ W H ps) = leastT W H ps := by
  have hx : ∀ (W H : Int) (ps : List Pn) (a : D), a ∈ tPc W H ps ⟨false, false, false⟩ :: turnsL.tail.map (tPc W H ps) ↔ ∃ σ : Tn, a = tPc W H ps σ := by
    intro W H ps a
    have e : tPc W H ps ⟨false, false, false⟩ :: turnsL.tail.map (tPc W H ps) = turnsL.map (tPc W H ps) := rfl
    rw [e, List.mem_map]
    constructor
    · rintro ⟨σ, _, rfl⟩; exact ⟨σ, rfl⟩
    · rintro ⟨σ, rfl⟩; exact ⟨σ, all_turns σ, rfl⟩
  refine leastF_eq ?_ ?_ ?_
  · intro a ha b hb
    obtain ⟨σ, rfl⟩ := (hx ..).mp ha
    obtain ⟨σ', rfl⟩ := (hx ..).mp hb
    exact alike_pc ..
  · intro a ha
    obtain ⟨σ, rfl⟩ := (hx ..).mp ha
    rw [tPc_comp]
    exact (hx ..).mpr ⟨_, rfl⟩
  · intro a ha
    obtain ⟨σ, rfl⟩ := (hx ..).mp ha
    refine (hx ..).mpr ⟨τ.inv.comp σ, ?_⟩
    rw [tPc_comp]
    have : τ.comp (τ.inv.comp σ) = σ := by
      obtain ⟨o, m, f⟩ := τ
      obtain ⟨o', m', f'⟩ := σ
      cases o <;> cases m <;> cases f <;> cases o' <;> cases m' <;> cases f' <;> rfl
    rw [this]
end PP

set_option Elab.async false
set_option linter.all false
set_option autoImplicit false
set_option maxRecDepth 100000
set_option maxHeartbeats 4000000
namespace PP
open PySem
variable {T : Nat → Option Fn} {n : Nat}
theorem eq_tnil (xs : List D) : eqR (.d (.tuple xs)) (.d (.tuple [])) = .ok xs.isEmpty := by
  show (if (true && true && shallow (.tuple xs) (.tuple [])) then Rs.ok (PyData.eqv (.tuple xs) (.tuple [])) else .bad) = _
  rw [shallow_r (by simp [PyData.depth, PyData.depthAll])]
  show Rs.ok (PyData.eqvAll xs []) = _
  cases xs <;> simp [PyData.eqvAll]
theorem eq_refl' {x : D} (hp : plain x = true) (hd : x.depth ≤ 60) : eqR (.d x) (.d x) = .ok true := by
  show (if (true && true && shallow x x) then Rs.ok (PyData.eqv x x) else .bad) = _
  rw [shallow_l hd, eqv_refl hp]; rfl
theorem toD_to {W H : Int} {ps : List Pn} {X : D} {τ : Tn} (h : tPc W H ps τ = X) (hl : ps.length ≤ 7) : ∃ xs, toD W H ps X = .tuple xs ∧ xs.isEmpty = false ∧ inR (.d (.str τ.nm)) (.d (toD W H ps X)) = .ok true := by
  have hsl : (srtP (ps.map (tPn τ W H))).length ≤ 7 := by rw [(srtP_perm _).length_eq, List.length_map]; exact hl
  have hm : τ ∈ turnsL.filter fun τ => PyData.eqv (tPc W H ps τ) X := by
    refine List.mem_filter.mpr ⟨all_turns τ, ?_⟩
    rw [← h]
    exact eqv_refl (plain_pc (by rw [lim_eq]; omega))
  have hm2 : PyData.str τ.nm ∈ (turnsL.filter fun τ => PyData.eqv (tPc W H ps τ) X).map fun τ => PyData.str τ.nm := List.mem_map.mpr ⟨τ, hm, rfl⟩
  refine ⟨_, rfl, ?_, ?_⟩
  · rw [Bool.eq_false_iff]
    intro z
    rw [List.isEmpty_iff] at z
    rw [z] at hm2; cases hm2
  · show (if (true && decide ((PyData.str τ.nm).depth ≤ 60)) then Rs.ok (((turnsL.filter fun τ => PyData.eqv (tPc W H ps τ) X).map fun τ => PyData.str τ.nm).any fun z => PyData.eqv z (.str τ.nm)) else .bad) = _
    rw [if_pos (by simp [PyData.depth])]
    congr 1
    rw [List.any_eq_true]
    exact ⟨_, hm2, by simp [PyData.eqv]⟩
theorem sorted_ints {xs : List Int} (hl : xs.length ≤ lim) : bltR .sorted [.l (xs.map .int)] = .ok (.l (sortD (xs.map .int))) := by
  show (sortR (xs.map .int) >>= fun ys => Rs.ok (R.l ys)) = _
  have : sortR (xs.map PyData.int) = .ok (sortD (xs.map .int)) := by
    unfold sortR
    rw [if_pos]
    unfold sortOk
    simp only [Bool.and_eq_true, Bool.or_eq_true, List.all_eq_true, List.mem_map, decide_eq_true_eq, List.length_map]
    refine ⟨⟨⟨?_, ?_⟩, hl⟩, .inr ?_⟩
    · rintro _ ⟨p, _, rfl⟩ _ ⟨q, _, rfl⟩; simp [PySem.W.alike]
    · rintro _ ⟨p, _, rfl⟩; simp [PyData.depth]
    · rintro _ ⟨p, _, rfl⟩; rfl
  rw [this]; rfl
theorem sorted_two_eq {a b c d : Int} (h : (a = c ∧ b = d) ∨ (a = d ∧ b = c)) : sortD [.int a, .int b] = sortD [.int c, .int d] ∧ eqR (.l (sortD [.int a, .int b])) (.l (sortD [.int a, .int b])) = .ok true := by
  constructor
  · rcases h with ⟨rfl, rfl⟩ | ⟨rfl, rfl⟩
    · rfl
    · refine sortD_eq (List.Perm.swap ..) ?_
      intro x hx y hy
      simp at hx hy
      rcases hx with rfl | rfl <;> rcases hy with rfl | rfl <;> simp [PySem.W.alike]
  · refine eq_lists fun x hx => ?_
    have := (List.mergeSort_perm [PyData.int a, .int b] (PySem.W.dataLe false id)).mem_iff.mp hx
    simp at this
    rcases this with rfl | rfl <;> exact ⟨rfl, by simp [PyData.depth]⟩
theorem depth_tuple_trs {ts : List Tr} (h : ∀ t ∈ ts, t.count ≤ 7) (hl : ts.length ≤ lim) : plain (.tuple (ts.map Tr.enc)) = true ∧ (PyData.tuple (ts.map Tr.enc)).depth ≤ 8 := by
  have hd := depth_trs (k := 7) ts h
  refine ⟨?_, by simp only [PyData.depth]; omega⟩
  have := plain_trs ts
  simp only [plain, this, Bool.and_true, decide_eq_true_eq, List.length_map]; exact hl
theorem sorted_trL {ts : List Tr} (hd : ∀ t ∈ ts, t.count ≤ 60) (hl : ts.length ≤ lim) : bltR .sorted [.d (.list (ts.map Tr.enc))] = .ok (.l ((srtT ts).map Tr.enc)) := sorted_tr hd hl
structure K16 (T : Nat → Option Fn) : Prop where
  w : TW T
  u : TU T
  k : TK T
  parts : T 18 = some f18_parts_of
  lines : T 29 = some f29_lines
  trees : T 33 = some f33_trees
  count : T 36 = some f36_count_trees
  knot_in : T 43 = some f43_knot_in
  knot : T 47 = some f47_knot
  tree : T 117 = some f117_turned_tree
theorem c_turned' (h : TU T) (τ : Tn) {W H : Int} {ps : List Pn} (hl : ps.length ≤ lim) : call T (n + 2) 116 [.d (pcD W H ps), .d (.str τ.nm)] = .ok (.d (pcD (tW τ W H) (tH τ W H) (tPs τ W H ps))) := c_turned h.pane h.turned τ W H hl
end PP

set_option Elab.async false
set_option linter.all false
set_option autoImplicit false
set_option maxRecDepth 100000
set_option maxHeartbeats 4000000
namespace PP
open PySem
variable {T : Nat → Option Fn} {n : Nat}
theorem names_at {j : Int} (h0 : 0 ≤ j) (h1 : j < 8) : ∃ τ : Tn, idxR (.d (.tuple (turnsL.map fun τ => .str τ.nm))) (.d (.int j)) = .ok (.d (.str τ.nm)) := by
  obtain ⟨τ, _, _, e⟩ := idx_mem (fun τ : Tn => PyData.str τ.nm) turnsL h0 (by simpa [turnsL] using h1)
  exact ⟨τ, e⟩
theorem k16_turn (h : K16 T) (ns : List Int) (i : Int) {W H : Int} {ps : List Pn} (pc : Pict W H ps) (τ σ : Tn) (N : D) (v9 v10 v11 v12 v13 v14 v15 : Option R) :
    Nx (fun v : Option R × Option R × Option R × Option R × Option R => [some (.s (ns.map PyData.int)), some (.d N), some (.d (.int i)), some (.d (pcD W H ps)), some (.d (wD W H)), some (.d (.str τ.nm)), some (.d (.str σ.nm)), some (.d (pcD (tW τ W H) (tH τ W H) (tPs τ W H ps))), some (.d (pcD (tW (τ.comp σ) W H) (tH (τ.comp σ) W H) (tPs (τ.comp σ) W H ps))), v.1, v.2.1, v.2.2.1, v.2.2.2.1, v.2.2.2.2, v14, v15]) (fun _ => True)
      (xs (call T 59) (tl (tl (tl (tl (tl (tl (forB (hd (tl f122_law.body)))))))))
        [some (.s (ns.map PyData.int)), some (.d N), some (.d (.int i)), some (.d (pcD W H ps)), some (.d (wD W H)), some (.d (.str τ.nm)), some (.d (.str σ.nm)), some (.d (pcD (tW τ W H) (tH τ W H) (tPs τ W H ps))), some (.d (pcD (tW (τ.comp σ) W H) (tH (τ.comp σ) W H) (tPs (τ.comp σ) W H ps))), v9, v10, v11, v12, v13, v14, v15]) := by
  have hlen := pc.len
  have pn := pict_turn pc τ
  have pb := pict_turn pc (τ.comp σ)
  -- turns
  obtain ⟨xs1, t1, t1e, _⟩ := toD_to (W := W) (H := H) (ps := ps) (τ := τ.comp σ) (X := pcD (tW (τ.comp σ) W H) (tH (τ.comp σ) W H) (tPs (τ.comp σ) W H ps)) rfl hlen
  have e1 := c_turns_to (n := 56) h.u W H pc.lim (pcD (tW (τ.comp σ) W H) (tH (τ.comp σ) W H) (tPs (τ.comp σ) W H ps))
  rw [t1] at e1
  have hb : tPc (tW (τ.comp σ) W H) (tH (τ.comp σ) W H) (tPs (τ.comp σ) W H ps) (τ.comp σ).inv = pcD W H ps := by
    rw [tPc_comp, comp_inv, tPc_eq, tPs_one pc]; rfl
  obtain ⟨xs2, t2, t2e, _⟩ := toD_to hb pb.len
  have e2 := c_turns_to (n := 56) h.u (tW (τ.comp σ) W H) (tH (τ.comp σ) W H) pb.lim (pcD W H ps)
  rw [t2] at e2
  obtain ⟨xs3, t3, _, t3i⟩ := toD_to (W := W) (H := H) (ps := ps) (τ := τ) (X := pcD (tW τ W H) (tH τ W H) (tPs τ W H ps)) rfl hlen
  have e3 := c_turns_to (n := 56) h.u W H pc.lim (pcD (tW τ W H) (tH τ W H) (tPs τ W H ps))
  -- the least, the counts
  have e4 := c_least (n := 56) h.u (tW (τ.comp σ) W H) (tH (τ.comp σ) W H) pb.lim
  rw [leastT_turn pc] at e4
  have e5 := c_least (n := 56) h.u W H pc.lim
  obtain ⟨lp, ld⟩ := leastT_plain (W := W) (H := H) (ps := ps) hlen
  have q5 := eq_refl' lp (by omega)
  have e6 := c_count_trees (n := 47) h.k.c h.trees h.count pb
  have e7 := c_count_trees (n := 47) h.k.c h.trees h.count pc
  have lc := (trees_turn pc (τ.comp σ)).length_eq
  rw [List.length_map] at lc
  rw [← lc] at e6
  -- the trees
  have e8 := c_trees (n := 48) h.k.c h.trees pc
  have e9 := c_trees (n := 48) h.k.c h.trees pn
  have cnt : ∀ t ∈ allT W H ps, t.count ≤ 7 := fun t ht => by
    have := trees_count pc.til pc.W.pos pc.len t ht
    omega
  have cnt2 : ∀ t ∈ srtT (allT W H ps), t.count ≤ 7 := fun t ht => cnt t ((srtT_perm _).mem_iff.mp ht)
  have hal := allT_len pc
  have hsl := (srtT_perm (allT W H ps)).length_eq
  have e10 : ∀ t ∈ srtT (allT W H ps), call T 59 117 [.d t.enc, .d (wD W H), .d (.str τ.nm)] = .ok (.d (t.turn τ ⟨0, 0, W, H⟩).enc) := fun t ht => c_turned_tree h.parts h.tree τ t ⟨0, 0, W, H⟩ 59 (by have := cnt2 t ht; omega)
  have cnt3 : ∀ t ∈ (srtT (allT W H ps)).map (fun t => t.turn τ ⟨0, 0, W, H⟩), t.count ≤ 7 := fun t ht => by
    obtain ⟨u, hu, rfl⟩ := List.mem_map.mp ht
    rw [turn_count]; exact cnt2 u hu
  have e11 := sorted_trL (ts := (srtT (allT W H ps)).map fun t => t.turn τ ⟨0, 0, W, H⟩) (fun t ht => by have := cnt3 t ht; omega) (by rw [List.length_map, hsl, lim_eq]; omega)
  rw [srtT_eq (((srtT_perm _).map _).trans (trees_turn pc τ))] at e11
  have hal2 := allT_len pn
  have hsl2 := (srtT_perm (allT (tW τ W H) (tH τ W H) (tPs τ W H ps))).length_eq
  obtain ⟨pt, dt⟩ := depth_tuple_trs (ts := srtT (allT (tW τ W H) (tH τ W H) (tPs τ W H ps))) (fun t ht => by
    have := trees_count pn.til pn.W.pos pn.len t ((srtT_perm _).mem_iff.mp ht)
    have := pn.len
    omega) (by rw [hsl2, lim_eq]; omega)
  have q11 := eq_refl' pt (by omega)
  -- the lines
  have e12 := c_lines (n := 57) h.k.c.lines_in h.lines (W := W) (H := H) (by have := pc.w; omega) (by have := pc.h; omega) pc.lim
  have e13 := c_lines (n := 57) h.k.c.lines_in h.lines (W := tW τ W H) (H := tH τ W H) (by have := pn.w; omega) (by have := pn.h; omega) pn.lim
  have lt := lines_turn pc τ true
  have lf := lines_turn pc τ false
  have hsw : (((linesL true ⟨0, 0, tW τ W H, tH τ W H⟩ (tPs τ W H ps)).length : Int) = (linesL true ⟨0, 0, W, H⟩ ps).length ∧ ((linesL false ⟨0, 0, tW τ W H, tH τ W H⟩ (tPs τ W H ps)).length : Int) = (linesL false ⟨0, 0, W, H⟩ ps).length) ∨
      (((linesL true ⟨0, 0, tW τ W H, tH τ W H⟩ (tPs τ W H ps)).length : Int) = (linesL false ⟨0, 0, W, H⟩ ps).length ∧ ((linesL false ⟨0, 0, tW τ W H, tH τ W H⟩ (tPs τ W H ps)).length : Int) = (linesL true ⟨0, 0, W, H⟩ ps).length) := by
    cases ho : τ.o with
    | true =>
      simp only [Tn.kd, ho, Bool.not_true, Bool.not_false] at lt lf
      exact .inr ⟨by rw [lf], by rw [lt]⟩
    | false =>
      simp only [Tn.kd, ho] at lt lf
      exact .inl ⟨by rw [lt], by rw [lf]⟩
  obtain ⟨s1, s2⟩ := sorted_two_eq hsw
  have e14 := sorted_ints (xs := [((linesL true ⟨0, 0, tW τ W H, tH τ W H⟩ (tPs τ W H ps)).length : Int), ((linesL false ⟨0, 0, tW τ W H, tH τ W H⟩ (tPs τ W H ps)).length : Int)]) (by simp [lim_eq])
  have e15 := sorted_ints (xs := [((linesL true ⟨0, 0, W, H⟩ ps).length : Int), ((linesL false ⟨0, 0, W, H⟩ ps).length : Int)]) (by simp [lim_eq])
  simp only [List.map_cons, List.map_nil] at e14 e15
  rw [← s1] at e15
  -- back and forth
  have tr : ∀ ρ : Tn, call T 59 116 [.d (pcD W H ps), .d (.str ρ.nm)] = .ok (.d (pcD (tW ρ W H) (tH ρ W H) (tPs ρ W H ps))) := fun ρ => c_turned' (n := 57) h.u ρ pc.lim
  have tr2 : ∀ ρ π : Tn, call T 59 116 [.d (pcD (tW ρ W H) (tH ρ W H) (tPs ρ W H ps)), .d (.str π.nm)] = .ok (.d (pcD (tW (ρ.comp π) W H) (tH (ρ.comp π) W H) (tPs (ρ.comp π) W H ps))) := fun ρ π => by
    have := c_turned' (n := 57) h.u π (W := tW ρ W H) (H := tH ρ W H) (pict_turn pc ρ).lim
    rw [tPs_comp, (tW_comp ρ π W H).1, (tW_comp ρ π W H).2] at this
    exact this
  have a1 := tr ⟨true, false, true⟩
  have a2 := tr2 ⟨true, false, true⟩ ⟨true, true, false⟩
  have a3 : pcD (tW ((Tn.mk true false true).comp ⟨true, true, false⟩) W H) (tH ((Tn.mk true false true).comp ⟨true, true, false⟩) W H) (tPs ((Tn.mk true false true).comp ⟨true, true, false⟩) W H ps) = pcD W H ps := by
    rw [show (Tn.mk true false true).comp ⟨true, true, false⟩ = Tn.one from rfl, tPs_one pc]; rfl
  rw [a3] at a2
  have a4 := tr ⟨false, true, false⟩
  have a5 := tr2 ⟨false, true, false⟩ ⟨false, false, true⟩
  rw [show (Tn.mk false true false).comp ⟨false, false, true⟩ = ⟨false, true, true⟩ from rfl] at a5
  have a6 := tr ⟨false, true, true⟩
  have a7 := tr2 ⟨false, true, true⟩ ⟨true, false, false⟩
  rw [show (Tn.mk false true true).comp ⟨true, false, false⟩ = ⟨true, true, true⟩ from rfl] at a7
  have a8 := tr ⟨true, true, true⟩
  have b1 := eq_pc (W := W) (H := H) pc.lim
  have b2 := fun ρ => eq_pc (W := tW ρ W H) (H := tH ρ W H) (ps := tPs ρ W H ps) (pict_turn pc ρ).lim
  simp only [show (Tn.mk true false true).nm = t_right from rfl, show (Tn.mk true true false).nm = t_left from rfl, show (Tn.mk false true false).nm = t_mirror from rfl, show (Tn.mk false false true).nm = t_flip from rfl, show (Tn.mk false true true).nm = t_half from rfl, show (Tn.mk true false false).nm = t_over from rfl, show (Tn.mk true true true).nm = t_under from rfl] at a1 a2 a4 a5 a6 a7 a8
  have ek := c_knot (n := 48) h.k.c h.knot_in h.knot pc
  simp [f122_law, hd, tl, forB, e1, e2, e3, eq_tnil, t1e, t2e, t3i, e4, e5, q5, e6, e7, e8]
  rw [lc_nm Tr.enc (fun t => (t.turn τ ⟨0, 0, W, H⟩).enc) (srtT (allT W H ps)) (by simp [e8]) (by rw [hsl, lim_eq]; omega) (by intro t ht; simp [e10 t ht])]
  rw [show (srtT (allT W H ps)).map (fun t => (t.turn τ ⟨0, 0, W, H⟩).enc) = ((srtT (allT W H ps)).map fun t => t.turn τ ⟨0, 0, W, H⟩).map Tr.enc by simp]
  simp [e11, e9, q11, ek, -List.map_map]
  have lns : ∀ u9 u10 u11, Nx (fun v : Option R × Option R × Option R × Option R × Option R => [some (.s (ns.map PyData.int)), some (.d N), some (.d (.int i)), some (.d (pcD W H ps)), some (.d (wD W H)), some (.d (.str τ.nm)), some (.d (.str σ.nm)), some (.d (pcD (tW τ W H) (tH τ W H) (tPs τ W H ps))), some (.d (pcD (tW (τ.comp σ) W H) (tH (τ.comp σ) W H) (tPs (τ.comp σ) W H ps))), v.1, v.2.1, v.2.2.1, v.2.2.2.1, v.2.2.2.2, v14, v15]) (fun _ => True)
      (xs (call T 59) (tl (tl (tl (tl (tl (tl (tl (tl (tl (tl (tl (tl (forB (hd (tl f122_law.body)))))))))))))))
        [some (.s (ns.map PyData.int)), some (.d N), some (.d (.int i)), some (.d (pcD W H ps)), some (.d (wD W H)), some (.d (.str τ.nm)), some (.d (.str σ.nm)), some (.d (pcD (tW τ W H) (tH τ W H) (tPs τ W H ps))), some (.d (pcD (tW (τ.comp σ) W H) (tH (τ.comp σ) W H) (tPs (τ.comp σ) W H ps))), u9, u10, u11, v12, v13, v14, v15]) := by
    intro u9 u10 u11
    simp [f122_law, hd, tl, forB, e13]
    rw [lc_nm (fun l : List Int => .tuple (l.map .int)) (fun l => .int l.length) [linesL true ⟨0, 0, W, H⟩ ps, linesL false ⟨0, 0, W, H⟩ ps] (by simp [e12]) (by simp [lim_eq]) (by intro l _; simp)]
    simp [e14, e15, s2, a1, a2, a4, a5, a6, a7, a8, b1, b2]
    exact Nx.mk (_, _, _, _, _) rfl trivial
  simp only [f122_law, hd, tl, forB] at lns
  cases hk : knotF 7 ⟨0, 0, W, H⟩ ps with
  | none =>
    have := lns (some (.d (.list (((srtT (allT W H ps)).map fun t => t.turn τ ⟨0, 0, W, H⟩).map Tr.enc)))) (some (.d .none)) v11
    simp [-List.map_map] at this
    simp [optD, -List.map_map]
    exact this
  | some Q =>
    obtain ⟨ks, z⟩ := knotF_some 7 _ ps Q pc.til pc.W.pos pc.len hk
    have z2 := isK_turn z τ W H
    rw [tPn_whole] at z2
    have z3 : IsK ⟨0, 0, tW τ W H, tH τ W H⟩ (tPs τ W H ps) (tPn τ W H Q) (ks.map (tPn τ W H)) := ⟨z2.sub, z2.til, fun p hp => (srtP_perm _).mem_iff.mpr (z2.has p hp), z2.two, z2.none⟩
    have eik := c_is_knot (n := 55) h.k pn z3.sub z3.pos
    rw [(knotB_iff pn.til z3.sub z3.pos).mpr (isK_ins pn.til z3)] at eik
    have s1' : srtP [tPn τ W H Q] = [tPn τ W H Q] := List.mergeSort_of_pairwise (by simp)
    have etq := c_turned (n := 57) h.u.pane h.u.turned τ W H (ps := [Q]) (by simp [lim_eq])
    rw [List.map_cons, List.map_nil, s1'] at etq
    simp only [pcD, List.map_cons, List.map_nil] at etq
    have := lns (some (.d (.list (((srtT (allT W H ps)).map fun t => t.turn τ ⟨0, 0, W, H⟩).map Tr.enc)))) (some (.d Q.D)) (some (.d (tPn τ W H Q).D))
    simp [-List.map_map] at this
    simp [optD, etq, eik, -List.map_map]
    exact this
end PP

set_option Elab.async false
set_option linter.all false
set_option autoImplicit false
set_option maxRecDepth 100000
set_option maxHeartbeats 4000000
namespace PP
open PySem
variable {T : Nat → Option Fn} {n : Nat}
theorem tupG_8 (a b c d e f g h : D) : tupG [a, b, c, d, e, f, g, h] = .ok (.d (.tuple [a, b, c, d, e, f, g, h])) := id rfl
theorem k16_true (h : K16 T) (hl : T 122 = some f122_law) (ns : List Int) : call T 60 122 [.s (ns.map PyData.int)] = .ok (.d (.bool true)) := by
  rw [call_go hl rfl (st := [some (.s (ns.map PyData.int)), none, none, none, none, none, none, none, none, none, none, none, none, none, none, none]) rfl]
  simp [f122_law, tupG_8]
  refine for_go (· = _) (fun z => outK (seqK _ _ z)) (V := Option R × Option R × Option R × Option R × Option R × Option R × Option R × Option R × Option R × Option R × Option R × Option R) PyData.int (irange 0 8)
    (fun pre v => [some (.s (ns.map PyData.int)), some (.d (.tuple [.str t_same, .str t_right, .str t_half, .str t_left, .str t_mirror, .str t_flip, .str t_over, .str t_under])), v.1, v.2.1, v.2.2.1, v.2.2.2.1, v.2.2.2.2.1, v.2.2.2.2.2.1, v.2.2.2.2.2.2.1, v.2.2.2.2.2.2.2.1, v.2.2.2.2.2.2.2.2.1, v.2.2.2.2.2.2.2.2.2.1, v.2.2.2.2.2.2.2.2.2.2.1, v.2.2.2.2.2.2.2.2.2.2.2, none, none]) (fun _ _ => True) (none, none, none, none, none, none, none, none, none, none, none, none)
    (by simp; exact rngF_ok (j := 8) (by decide) (by decide)) rfl trivial ?_ ?_
  · rintro pre i post ⟨v2, v3, v4, v5, v6, v7, v8, v9, v10, v11, v12, v13⟩ hpre -
    have hi : i ∈ irange 0 8 := by rw [← hpre]; simp
    rw [mem_irange] at hi
    obtain ⟨c, ec⟩ := c_cell' (n := 58) h.w.b ns (k := i) (by omega)
    obtain ⟨c8, ec8⟩ := c_cell' (n := 58) h.w.b ns (k := 8) (by omega)
    obtain ⟨c9, ec9⟩ := c_cell' (n := 58) h.w.b ns (k := 9) (by omega)
    have h3 := mul_ii' (i := 3) (j := i) (by decide)
    obtain ⟨W, H, ps, ep, pc⟩ := c_lpicture (n := 39) h.w (c + 3 * i)
    obtain ⟨j1, ej1, a1, a2⟩ := c_mix' (n := 58) h.w.b (c8 + i) (p := 9739) (m := 8) (by decide) (by decide) (by decide)
    obtain ⟨j2, ej2, a3, a4⟩ := c_mix' (n := 58) h.w.b (c9 + i) (p := 9733) (m := 8) (by decide) (by decide) (by decide)
    obtain ⟨τ, e1⟩ := names_at a1 a2
    obtain ⟨σ, e2⟩ := names_at a3 a4
    have e1' : idxR (.d (.tuple [.str t_same, .str t_right, .str t_half, .str t_left, .str t_mirror, .str t_flip, .str t_over, .str t_under])) (.d (.int j1)) = .ok (.d (.str τ.nm)) := e1
    have e2' : idxR (.d (.tuple [.str t_same, .str t_right, .str t_half, .str t_left, .str t_mirror, .str t_flip, .str t_over, .str t_under])) (.d (.int j2)) = .ok (.d (.str σ.nm)) := e2
    have t1 := c_turned' (n := 57) h.u τ pc.lim (W := W) (H := H)
    have t2 := c_turned' (n := 57) h.u σ (pict_turn pc τ).lim (W := tW τ W H) (H := tH τ W H)
    rw [tPs_comp, (tW_comp τ σ W H).1, (tW_comp τ σ W H).2] at t2
    have key := k16_turn h ns i pc τ σ (.tuple [.str t_same, .str t_right, .str t_half, .str t_left, .str t_mirror, .str t_flip, .str t_over, .str t_under]) v9 v10 v11 v12 v13 none none
    obtain ⟨v, ev, _⟩ := key
    simp only [f122_law, hd, tl, forB] at ev
    simp only [xs_cons'] at ev
    simp only [setT_nm, b1_ok, List.set_cons_succ, List.set_cons_zero]
    simp only [xs_cons', x1_asg, ev_call, evs_cons, evs_nil, ev_bin, ev_var, ev_cst, ev_idx, List.getElem?_cons_zero, List.getElem?_cons_succ, varR_ok, lend_s, lend_d, b2_ok, b1_ok, consF_eq, argAll_consE, argAll_nil, arg_s, arg_d, consG_eq, ec, ec8, ec9, h3, add_ii, ep, pcD_0, ej1, ej2, e1', e2', t1, t2, frz_d, asgF_eq, setT_nm, nxF_eq, seqK_nx, List.set_cons_succ, List.set_cons_zero]
    rw [ev]
    exact Nx.mk (_, _, _, _, _, _, _, _, _, _, _, _) rfl trivial
  · rintro ⟨v2, v3, v4, v5, v6, v7, v8, v9, v10, v11, v12, v13⟩ -
    simp
end PP

set_option Elab.async false
set_option linter.all false
set_option autoImplicit false
set_option maxRecDepth 100000
set_option maxHeartbeats 1000000
namespace PP
open PySem
/-! ### sorted lists of panes -/
theorem srt_uniq {ps qs : List Pn} (h1 : (ps.map Pn.L).Pairwise (· < ·)) (h2 : (qs.map Pn.L).Pairwise (· < ·)) (h : ∀ p, p ∈ ps ↔ p ∈ qs) : ps = qs := by
  have nd : ∀ {l : List Pn}, (l.map Pn.L).Pairwise (· < ·) → l.Nodup := fun {l} h => by
    rw [List.pairwise_map] at h
    exact h.imp fun a e => by subst e; exact absurd a (List.lt_irrefl _)
  have pm : ps.Perm qs := (List.perm_ext_iff_of_nodup (nd h1) (nd h2)).mpr h
  apply map_L_inj
  exact (pm.map Pn.L).eq_of_pairwise (le := (· < ·)) (fun a b _ _ x y => absurd (List.lt_trans x y) (List.lt_irrefl _)) h1 h2
theorem srtP_uniq {ps qs : List Pn} (h1 : (ps.map Pn.L).Pairwise (· < ·)) (h2 : qs.Nodup) (h : ∀ p, p ∈ qs ↔ p ∈ ps) : srtP qs = ps :=
  srt_uniq (srtP_lt h2) h1 fun p => by rw [(srtP_perm qs).mem_iff]; exact h p
/-! ### two panes as one -/
def joinB (f g : Pn) : Option Pn :=
  if f.t = g.t ∧ f.h = g.h ∧ f.l + f.w = g.l then some ⟨f.l, f.t, f.w + g.w, f.h⟩
  else if f.l = g.l ∧ f.w = g.w ∧ f.t + f.h = g.t then some ⟨f.l, f.t, f.w, f.h + g.h⟩
  else none
def both (p q : Pn) : Option Pn := if q.L < p.L then joinB q p else joinB p q
theorem c1_lt {P : Pn} {s : Bool} {c : Int} (hc : P.lo s < c ∧ c < P.lo s + P.sz s) : (P.c1 s c).L < (P.c2 s c).L := by
  cases s <;> simp only [Pn.c1, Pn.c2, Pn.L, Pn.lo, Pn.sz, List.cons_lt_cons_iff] at * <;> simp <;> omega
theorem pn_ext {p q : Pn} (h1 : p.l = q.l) (h2 : p.t = q.t) (h3 : p.w = q.w) (h4 : p.h = q.h) : p = q := by
  cases p; cases q; simp at *; simp [*]
theorem joinB_cut {P : Pn} {s : Bool} {c : Int} (hc : P.lo s < c ∧ c < P.lo s + P.sz s) : joinB (P.c1 s c) (P.c2 s c) = some P := by
  cases s
  · simp only [joinB, Pn.c1, Pn.c2, Pn.lo, Pn.sz] at *
    rw [if_neg (by omega), if_pos ⟨trivial, trivial, by omega⟩]
    exact congrArg some (pn_ext rfl rfl rfl (by dsimp only; omega))
  · simp only [joinB, Pn.c1, Pn.c2, Pn.lo, Pn.sz] at *
    rw [if_pos ⟨trivial, trivial, by omega⟩]
    exact congrArg some (pn_ext rfl rfl (by dsimp only; omega) rfl)
theorem both_cut {P : Pn} {s : Bool} {c : Int} (hc : P.lo s < c ∧ c < P.lo s + P.sz s) : both (P.c1 s c) (P.c2 s c) = some P ∧ both (P.c2 s c) (P.c1 s c) = some P := by
  have h := c1_lt hc
  have h' : ¬ (P.c2 s c).L < (P.c1 s c).L := fun z => List.lt_irrefl _ (List.lt_trans h z)
  simp [both, h, h', joinB_cut hc]
theorem joinB_some {f g r : Pn} (h : joinB f g = some r) (hf : f.pos) (hg : g.pos) : ∃ s, (r.lo s < r.lo s + f.sz s ∧ r.lo s + f.sz s < r.lo s + r.sz s) ∧ f = r.c1 s (r.lo s + f.sz s) ∧ g = r.c2 s (r.lo s + f.sz s) ∧ s = (decide (f.t = g.t) && !decide (f.l = g.l)) := by
  simp only [joinB] at h
  simp only [Pn.pos] at hf hg
  by_cases h1 : f.t = g.t ∧ f.h = g.h ∧ f.l + f.w = g.l
  · rw [if_pos h1] at h; cases h
    refine ⟨true, ?_, ?_, ?_, ?_⟩
    · simp only [Pn.lo, Pn.sz]; omega
    · apply pn_ext <;> simp only [Pn.lo, Pn.sz, Pn.c1] <;> omega
    · apply pn_ext <;> simp only [Pn.lo, Pn.sz, Pn.c2] <;> omega
    · have : ¬ f.l = g.l := by omega
      simp [h1.1, this]
  · rw [if_neg h1] at h
    by_cases h2 : f.l = g.l ∧ f.w = g.w ∧ f.t + f.h = g.t
    · rw [if_pos h2] at h; cases h
      refine ⟨false, ?_, ?_, ?_, ?_⟩
      · simp only [Pn.lo, Pn.sz]; omega
      · apply pn_ext <;> simp only [Pn.lo, Pn.sz, Pn.c1] <;> omega
      · apply pn_ext <;> simp only [Pn.lo, Pn.sz, Pn.c2] <;> omega
      · have : ¬ f.t = g.t := by omega
        simp [this]
    · rw [if_neg h2] at h; cases h
/-! ### a pane cut -/
def cut2 (P : Pn) (s : Bool) (c : Int) : List Pn := [P.c1 s c, P.c2 s c]
theorem til_cut2 {P : Pn} {s : Bool} {c : Int} (hP : P.pos) (hc : P.lo s < c ∧ c < P.lo s + P.sz s) : Til P (cut2 P s c) :=
  (til_app hc (til_one (c1_pos hP hc)) (til_one (c2_pos hP hc))).1
def partP (P : Pn) (s : Bool) (c : Int) (ps : List Pn) : List Pn := srtP (wo P ps ++ cut2 P s c)
theorem pict_part {W H : Int} {ps : List Pn} (h : Pict W H ps) {P : Pn} (hP : P ∈ ps) {s : Bool} {c : Int} (hc : P.lo s < c ∧ c < P.lo s + P.sz s) (hl : ps.length < 7) : Pict W H (partP P s c ps) := by
  refine pict_mk h.w h.h (til_repl h.til hP (til_cut2 (h.til.inn P hP).1 hc)) ?_
  have := wo_len hP
  simp only [List.length_append, cut2, List.length_cons, List.length_nil]; omega
theorem mem_wo {P p : Pn} {ps : List Pn} : p ∈ wo P ps ↔ p ∈ ps ∧ ¬ p = P := by simp [wo]
theorem mem_part {P p : Pn} {s : Bool} {c : Int} {ps : List Pn} : p ∈ partP P s c ps ↔ (p ∈ ps ∧ ¬ p = P) ∨ p = P.c1 s c ∨ p = P.c2 s c := by
  rw [partP, (srtP_perm _).mem_iff]; simp [cut2, mem_wo]
/-- a part of a pane is no pane -/
theorem part_new {Q P p : Pn} {ps : List Pn} (h : Til Q ps) (hP : P ∈ ps) (hs : p.sub P) (hp : p.pos) (hne : ¬ p = P) : ¬ p ∈ ps := fun hm => by
  refine hne (h.dis p hm P hP p.l p.t ?_ ?_) <;> simp only [Pn.has, Pn.pos, Pn.sub] at * <;> omega
theorem c1_ne {P : Pn} {s : Bool} {c : Int} (hc : P.lo s < c ∧ c < P.lo s + P.sz s) : ¬ P.c1 s c = P := fun e => by
  cases P; cases s <;> simp only [Pn.c1, Pn.lo, Pn.sz, Pn.mk.injEq] at * <;> omega
theorem c2_ne {P : Pn} {s : Bool} {c : Int} (hc : P.lo s < c ∧ c < P.lo s + P.sz s) : ¬ P.c2 s c = P := fun e => by
  cases P; cases s <;> simp only [Pn.c2, Pn.lo, Pn.sz, Pn.mk.injEq] at * <;> omega
theorem c12_ne {P : Pn} {s : Bool} {c : Int} (hc : P.lo s < c ∧ c < P.lo s + P.sz s) : ¬ P.c1 s c = P.c2 s c := fun e => by
  have := c1_lt hc; rw [e] at this; exact List.lt_irrefl _ this
def news (ps qs : List Pn) : List Pn := qs.filter fun p => !decide (p ∈ ps)
theorem mem_news {ps qs : List Pn} {p : Pn} : p ∈ news ps qs ↔ p ∈ qs ∧ ¬ p ∈ ps := by simp [news]
theorem news_lt {ps qs : List Pn} (h : (qs.map Pn.L).Pairwise (· < ·)) : ((news ps qs).map Pn.L).Pairwise (· < ·) := h.sublist ((List.filter_sublist).map _)
theorem news_part {W H : Int} {ps : List Pn} (h : Pict W H ps) {P : Pn} (hP : P ∈ ps) {s : Bool} {c : Int} (hc : P.lo s < c ∧ c < P.lo s + P.sz s) (hl : ps.length < 7) : news ps (partP P s c ps) = cut2 P s c := by
  have pp := (h.til.inn P hP).1
  have n1 := part_new h.til hP (c1_sub hc) (c1_pos pp hc) (c1_ne hc)
  have n2 := part_new h.til hP (c2_sub hc) (c2_pos pp hc) (c2_ne hc)
  refine srt_uniq (news_lt (pict_part h hP hc hl).lt) (by simp [cut2, c1_lt hc]) fun p => ?_
  rw [mem_news, mem_part]
  simp only [cut2, List.mem_cons, List.not_mem_nil, or_false]
  constructor
  · rintro ⟨(⟨a, _⟩ | a), b⟩
    · exact absurd a b
    · exact a
  · rintro (rfl | rfl)
    · exact ⟨.inr (.inl rfl), n1⟩
    · exact ⟨.inr (.inr rfl), n2⟩
/-! ### two panes joined -/
def wo2 (p q : Pn) (ps : List Pn) : List Pn := ps.filter fun x => !(decide (x = p) || decide (x = q))
theorem mem_wo2 {p q x : Pn} {ps : List Pn} : x ∈ wo2 p q ps ↔ x ∈ ps ∧ ¬ x = p ∧ ¬ x = q := by simp [wo2]
def joinP (p q r : Pn) (ps : List Pn) : List Pn := srtP (wo2 p q ps ++ [r])
theorem mem_join {p q r x : Pn} {ps : List Pn} : x ∈ joinP p q r ps ↔ (x ∈ ps ∧ ¬ x = p ∧ ¬ x = q) ∨ x = r := by
  rw [joinP, (srtP_perm _).mem_iff]; simp [mem_wo2]
theorem join_part {W H : Int} {ps : List Pn} (h : Pict W H ps) {P : Pn} (hP : P ∈ ps) {s : Bool} {c : Int} (hc : P.lo s < c ∧ c < P.lo s + P.sz s) (hl : ps.length < 7) : joinP (P.c2 s c) (P.c1 s c) P (partP P s c ps) = ps := by
  have pp := (h.til.inn P hP).1
  have n1 := part_new h.til hP (c1_sub hc) (c1_pos pp hc) (c1_ne hc)
  have n2 := part_new h.til hP (c2_sub hc) (c2_pos pp hc) (c2_ne hc)
  refine srtP_uniq h.lt ?_ fun p => ?_
  · rw [List.nodup_append]
    refine ⟨(pict_part h hP hc hl).til.nd.filter _, by simp, fun x hx y hy => ?_⟩
    simp only [List.mem_cons, List.not_mem_nil, or_false] at hy
    subst hy
    rw [mem_wo2, mem_part] at hx
    rintro rfl
    rcases hx.1 with a | a | a
    · exact a.2 rfl
    · exact hx.2.2 a
    · exact hx.2.1 a
  · rw [List.mem_append, mem_wo2, mem_part]
    simp only [List.mem_cons, List.not_mem_nil, or_false]
    constructor
    · rintro (⟨a | a | a, b, c⟩ | rfl)
      · exact a.1
      · exact absurd a c
      · exact absurd a b
      · exact hP
    · intro hp
      by_cases e : p = P
      · exact .inr e
      · exact .inl ⟨.inl ⟨hp, e⟩, fun z => n2 (z ▸ hp), fun z => n1 (z ▸ hp)⟩
theorem wo2_len {p q : Pn} {ps : List Pn} (hp : p ∈ ps) (hq : q ∈ ps) (hne : ¬ p = q) : (wo2 p q ps).length + 2 ≤ ps.length := by
  have e : wo2 p q ps = wo q (wo p ps) := by
    unfold wo2 wo
    rw [List.filter_filter]
    congr 1; funext x
    by_cases h1 : x = p <;> by_cases h2 : x = q <;> simp [h1, h2]
  have h1 := wo_len hp
  have h2 := wo_len (P := q) (ps := wo p ps) (mem_wo.mpr ⟨hq, fun z => hne z.symm⟩)
  rw [e]; omega
theorem c12_has {r : Pn} {s : Bool} {c x y : Int} (hc : r.lo s < c ∧ c < r.lo s + r.sz s) : r.has x y ↔ (r.c1 s c).has x y ∨ (r.c2 s c).has x y := by
  cases s <;> simp only [Pn.has, Pn.c1, Pn.c2, Pn.lo, Pn.sz] at * <;> omega
theorem til_join {Q r : Pn} {ps : List Pn} (h : Til Q ps) {s : Bool} {c : Int} (hc : r.lo s < c ∧ c < r.lo s + r.sz s) (h1 : r.c1 s c ∈ ps) (h2 : r.c2 s c ∈ ps) : Til Q (wo2 (r.c1 s c) (r.c2 s c) ps ++ [r]) ∧ ¬ r ∈ ps := by
  have p1 := h.inn _ h1
  have p2 := h.inn _ h2
  have hr : ¬ r ∈ ps := fun hm => by
    refine c1_ne hc (h.dis _ h1 r hm r.l r.t ?_ ?_) <;> cases s <;> simp only [Pn.has, Pn.pos, Pn.sub, Pn.c1, Pn.c2, Pn.lo, Pn.sz] at * <;> omega
  refine ⟨⟨fun p hp => ?_, fun p hp q hq x y hx hy => ?_, ?_, fun x y hx => ?_⟩, hr⟩
  · rcases List.mem_append.mp hp with hp | hp
    · exact h.inn p (mem_wo2.mp hp).1
    · simp only [List.mem_cons, List.not_mem_nil, or_false] at hp; subst hp
      cases s <;> simp only [Pn.pos, Pn.sub, Pn.c1, Pn.c2, Pn.lo, Pn.sz] at * <;> omega
  · have key : ∀ p ∈ wo2 (r.c1 s c) (r.c2 s c) ps, p.has x y → ¬ r.has x y := fun p hp hx hy => by
      rw [mem_wo2] at hp
      rcases (c12_has hc).mp hy with z | z
      · exact hp.2.1 (h.dis p hp.1 _ h1 x y hx z)
      · exact hp.2.2 (h.dis p hp.1 _ h2 x y hx z)
    rcases List.mem_append.mp hp with hp | hp <;> rcases List.mem_append.mp hq with hq | hq
    · exact h.dis p (mem_wo2.mp hp).1 q (mem_wo2.mp hq).1 x y hx hy
    · simp only [List.mem_cons, List.not_mem_nil, or_false] at hq; subst hq
      exact absurd hy (key p hp hx)
    · simp only [List.mem_cons, List.not_mem_nil, or_false] at hp; subst hp
      exact absurd hx (key q hq hy)
    · simp only [List.mem_cons, List.not_mem_nil, or_false] at hp hq; rw [hp, hq]
  · rw [List.nodup_append]
    refine ⟨h.nd.filter _, by simp, fun x hx y hy => ?_⟩
    simp only [List.mem_cons, List.not_mem_nil, or_false] at hy
    rintro rfl; subst hy
    exact hr (mem_wo2.mp hx).1
  · by_cases z : r.has x y
    · exact ⟨r, by simp, z⟩
    · obtain ⟨p, hp, hh⟩ := h.cov x y hx
      refine ⟨p, List.mem_append.mpr (.inl (mem_wo2.mpr ⟨hp, ?_, ?_⟩)), hh⟩
      · rintro rfl; exact z ((c12_has hc).mpr (.inl hh))
      · rintro rfl; exact z ((c12_has hc).mpr (.inr hh))
theorem pict_join {W H : Int} {ps : List Pn} (h : Pict W H ps) {r : Pn} {s : Bool} {c : Int} (hc : r.lo s < c ∧ c < r.lo s + r.sz s) (h1 : r.c1 s c ∈ ps) (h2 : r.c2 s c ∈ ps) :
    Pict W H (joinP (r.c1 s c) (r.c2 s c) r ps) ∧ (joinP (r.c1 s c) (r.c2 s c) r ps).length < 7 ∧ r ∈ joinP (r.c1 s c) (r.c2 s c) r ps ∧ news ps (joinP (r.c1 s c) (r.c2 s c) r ps) = [r] ∧ partP r s c (joinP (r.c1 s c) (r.c2 s c) r ps) = ps := by
  obtain ⟨t, hr⟩ := til_join h.til hc h1 h2
  have hl := wo2_len h1 h2 (c12_ne hc)
  have hl7 := h.len
  have hlen : (joinP (r.c1 s c) (r.c2 s c) r ps).length < 7 := by
    rw [joinP, (srtP_perm _).length_eq, List.length_append, List.length_singleton]; omega
  have hp : Pict W H (joinP (r.c1 s c) (r.c2 s c) r ps) := pict_mk h.w h.h t (by rw [List.length_append, List.length_singleton]; omega)
  refine ⟨hp, hlen, mem_join.mpr (.inr rfl), ?_, ?_⟩
  · refine srt_uniq (news_lt hp.lt) (by simp) fun p => ?_
    rw [mem_news, mem_join]
    simp only [List.mem_cons, List.not_mem_nil, or_false]
    constructor
    · rintro ⟨a | a, b⟩
      · exact absurd a.1 b
      · exact a
    · rintro rfl; exact ⟨.inr rfl, hr⟩
  · have hr' : r ∈ joinP (r.c1 s c) (r.c2 s c) r ps := mem_join.mpr (.inr rfl)
    have pr := pict_part hp hr' hc hlen
    refine srt_uniq pr.lt h.lt fun p => ?_
    rw [mem_part, mem_join]
    constructor
    · rintro (⟨a | a, b⟩ | rfl | rfl)
      · exact a.1
      · exact absurd a b
      · exact h1
      · exact h2
    · intro hm
      by_cases e1 : p = r.c1 s c
      · exact .inr (.inl e1)
      · by_cases e2 : p = r.c2 s c
        · exact .inr (.inr e2)
        · exact .inl ⟨.inl ⟨hm, e1, e2⟩, fun z => hr (z ▸ hm)⟩
/-! ### trees -/
theorem wo_not {P : Pn} {ps : List Pn} (h : ¬ P ∈ ps) : wo P ps = ps := by
  refine List.filter_eq_self.mpr fun p hp => ?_
  have : ¬ p = P := fun e => h (e ▸ hp)
  simp [this]
theorem wo_app (P : Pn) (ps qs : List Pn) : wo P (ps ++ qs) = wo P ps ++ wo P qs := List.filter_append ..
theorem grow : ∀ (t : Tr) (Q P : Pn) (s : Bool) (c : Int), t.Fit Q → P ∈ t.pns Q → P.lo s < c ∧ c < P.lo s + P.sz s → ∃ t' : Tr, t'.Fit Q ∧ (t'.pns Q).Perm (wo P (t.pns Q) ++ cut2 P s c)
  | .pane, Q, P, s, c, hf, hP, hc => by
    simp only [Tr.pns, List.mem_cons, List.not_mem_nil, or_false] at hP; subst hP
    have pp := hf.pos
    refine ⟨.cut s (c - P.lo s) .pane .pane, fit_cut.mpr ⟨by omega, ?_, ?_⟩, ?_⟩
    · rw [show P.lo s + (c - P.lo s) = c by omega]
      have := c1_pos pp hc
      simp only [Tr.Fit, Tr.WF, Pn.pos] at *; omega
    · rw [show P.lo s + (c - P.lo s) = c by omega]
      have := c2_pos pp hc
      simp only [Tr.Fit, Tr.WF, Pn.pos] at *; omega
    · simp only [Tr.pns, show P.lo s + (c - P.lo s) = c by omega]
      simp [wo, cut2]
  | .cut s' k a b, Q, P, s, c, hf, hP, hc => by
    obtain ⟨h1, h2, h3⟩ := fit_cut.mp hf
    have nd := (til_tree _ _ hf).nd
    simp only [Tr.pns] at hP nd ⊢
    rw [List.nodup_append] at nd
    rcases List.mem_append.mp hP with hP | hP
    · obtain ⟨t', f', e'⟩ := grow a _ P s c h2 hP hc
      refine ⟨.cut s' k t' b, fit_cut.mpr ⟨h1, f', h3⟩, ?_⟩
      simp only [Tr.pns]
      rw [wo_app, wo_not (ps := b.pns _) (fun z => nd.2.2 _ hP _ z rfl)]
      refine (e'.append_right _).trans ?_
      rw [List.append_assoc, List.append_assoc]
      exact List.Perm.append_left _ List.perm_append_comm
    · obtain ⟨t', f', e'⟩ := grow b _ P s c h3 hP hc
      refine ⟨.cut s' k a t', fit_cut.mpr ⟨h1, h2, f'⟩, ?_⟩
      simp only [Tr.pns]
      rw [wo_app, wo_not (ps := a.pns _) (fun z => nd.2.2 _ z _ hP rfl), List.append_assoc]
      exact List.Perm.append_left _ e'
theorem leafs : ∀ (t : Tr) (Q : Pn), t.Fit Q → ¬ t = .pane → ∃ (r : Pn) (s : Bool) (c : Int), (r.lo s < c ∧ c < r.lo s + r.sz s) ∧ r.c1 s c ∈ t.pns Q ∧ r.c2 s c ∈ t.pns Q
  | .pane, Q, _, h => absurd rfl h
  | .cut s k a b, Q, hf, _ => by
    obtain ⟨h1, h2, h3⟩ := fit_cut.mp hf
    by_cases ha : a = .pane
    · by_cases hb : b = .pane
      · subst ha hb
        exact ⟨Q, s, Q.lo s + k, by omega, by simp [Tr.pns], by simp [Tr.pns]⟩
      · obtain ⟨r, s', c, e, m1, m2⟩ := leafs b _ h3 hb
        exact ⟨r, s', c, e, by simp [Tr.pns, m1], by simp [Tr.pns, m2]⟩
    · obtain ⟨r, s', c, e, m1, m2⟩ := leafs a _ h2 ha
      exact ⟨r, s', c, e, by simp [Tr.pns, m1], by simp [Tr.pns, m2]⟩
theorem allT_part {W H : Int} {ps : List Pn} (h : Pict W H ps) {P : Pn} (hP : P ∈ ps) {s : Bool} {c : Int} (hc : P.lo s < c ∧ c < P.lo s + P.sz s) (hl : ps.length < 7) (ht : ¬ allT W H ps = []) : ¬ allT W H (partP P s c ps) = [] ∧ knotF 7 ⟨0, 0, W, H⟩ (partP P s c ps) = none := by
  have hp := pict_part h hP hc hl
  obtain ⟨t, hm⟩ : ∃ t, t ∈ allT W H ps := List.exists_mem_of_ne_nil _ ht
  obtain ⟨f, e⟩ := (mem_treesF 7 _ ps h.til h.W.pos h.len t).mp hm
  obtain ⟨t', f', e'⟩ := grow t _ P s c f (e.mem_iff.mpr hP) hc
  have hm' : t' ∈ allT W H (partP P s c ps) := (mem_treesF 7 _ _ hp.til hp.W.pos hp.len t').mpr ⟨f', e'.trans (((e.filter _).append_right _).trans (srtP_perm _).symm)⟩
  have ne : ¬ allT W H (partP P s c ps) = [] := fun z => by rw [z] at hm'; cases hm'
  refine ⟨ne, ?_⟩
  have := knot_iff hp.til hp.W.pos hp.len
  exact Classical.byContradiction fun z => ne (this.mpr z)
theorem allT_join {W H : Int} {ps : List Pn} (h : Pict W H ps) (ht : ¬ allT W H ps = []) (hl : 1 < ps.length) : ∃ (r : Pn) (s : Bool) (c : Int), (r.lo s < c ∧ c < r.lo s + r.sz s) ∧ r.c1 s c ∈ ps ∧ r.c2 s c ∈ ps := by
  obtain ⟨t, hm⟩ : ∃ t, t ∈ allT W H ps := List.exists_mem_of_ne_nil _ ht
  obtain ⟨f, e⟩ := (mem_treesF 7 _ ps h.til h.W.pos h.len t).mp hm
  obtain ⟨r, s, c, hc, m1, m2⟩ := leafs t _ f (fun z => by
    have := e.length_eq
    subst z
    simp [Tr.pns] at this; omega)
  exact ⟨r, s, c, hc, e.mem_iff.mp m1, e.mem_iff.mp m2⟩
end PP

set_option Elab.async false
set_option linter.all false
set_option autoImplicit false
set_option maxRecDepth 100000
set_option maxHeartbeats 1000000
namespace PP
open PySem
variable {T : Nat → Option Fn} {n : Nat}
structure TJ (T : Nat → Option Fn) : Prop where
  must : T 108 = some f108_must_have
  parted : T 77 = some f77_parted
  both : T 71 = some f71_pane_of_both
  joined : T 78 = some f78_joined
  joins : T 76 = some f76_joins
theorem any_D (p : Pn) : ∀ ps : List Pn, ((ps.map Pn.D).any fun z => PyData.eqv z p.D) = decide (p ∈ ps)
  | [] => by simp
  | q :: ps => by
    rw [List.map_cons, List.any_cons, any_D p ps, eqv_DD]
    by_cases h : q = p
    · simp [h]
    · have : ¬ p = q := fun z => h z.symm
      simp [h, this]
@[simp] theorem in_D (p : Pn) (ps : List Pn) : inR (.d p.D) (.d (.tuple (ps.map Pn.D))) = .ok (decide (p ∈ ps)) := by
  show (if (R.d p.D).isD && decide (p.D.depth ≤ 60) then Rs.ok ((ps.map Pn.D).any fun z => PyData.eqv z p.D) else .bad) = _
  rw [depth_D, any_D]; rfl
theorem in_D2 (p a b : Pn) : inR (.d p.D) (.d (.tuple [a.D, b.D])) = .ok (decide (p = a) || decide (p = b)) := by
  have := in_D p [a, b]
  rw [List.map_cons, List.map_cons, List.map_nil] at this
  rw [this]; simp
@[simp] theorem min_D (p q : Pn) : bltR .min [.d p.D, .d q.D] = .ok (.d (if q.L < p.L then q else p).D) := by
  show (match ints? (p.L.map .int), ints? (q.L.map .int) with | some a, some b => Rs.ok (R.d (.tuple (if HT.lexLt b a then q.L.map .int else p.L.map .int))) | _, _ => .bad) = _
  rw [ints_map, ints_map]
  show Rs.ok (R.d (.tuple (if HT.lexLt q.L p.L then q.L.map .int else p.L.map .int))) = _
  rw [lexLt_dec]
  by_cases h : q.L < p.L <;> simp [h] <;> rfl
@[simp] theorem max_D (p q : Pn) : bltR .max [.d p.D, .d q.D] = .ok (.d (if p.L < q.L then q else p).D) := by
  show (match ints? (p.L.map .int), ints? (q.L.map .int) with | some a, some b => Rs.ok (R.d (.tuple (if HT.lexLt a b then q.L.map .int else p.L.map .int))) | _, _ => .bad) = _
  rw [ints_map, ints_map]
  show Rs.ok (R.d (.tuple (if HT.lexLt p.L q.L then q.L.map .int else p.L.map .int))) = _
  rw [lexLt_dec]
  by_cases h : p.L < q.L <;> simp [h] <;> rfl
theorem c_must (h : T 108 = some f108_must_have) {W H : Int} {ps : List Pn} {P : Pn} (hP : P ∈ ps) : call T (n + 1) 108 [.d (pcD W H ps), .d P.D] = .ok (.d .none) := by
  rw [call_go h rfl (st := [some (.d (pcD W H ps)), some (.d P.D)]) rfl]
  simp [f108_must_have, hP]
theorem L_tri (p q : Pn) (h1 : ¬ q.L < p.L) (h2 : ¬ p.L < q.L) : p = q := Pn.L_inj (List.le_antisymm h1 h2)
theorem c_both (h : T 71 = some f71_pane_of_both) (p q : Pn) : call T (n + 1) 71 [.d p.D, .d q.D] = .ok (.d (optD (both p q))) := by
  rw [call_go h rfl (st := [some (.d p.D), some (.d q.D), none, none]) rfl]
  obtain ⟨f, g, ef, eg, eb⟩ : ∃ f g : Pn, (if q.L < p.L then q else p) = f ∧ (if p.L < q.L then q else p) = g ∧ both p q = joinB f g := by
    refine ⟨_, _, rfl, rfl, ?_⟩
    unfold both
    by_cases h1 : q.L < p.L
    · have h2 : ¬ p.L < q.L := fun z => List.lt_irrefl _ (List.lt_trans h1 z)
      simp [h1, h2]
    · by_cases h2 : p.L < q.L
      · simp [h1, h2]
      · have e := L_tri p q h1 h2
        subst e
        simp [h1]
  rw [eb]
  simp [f71_pane_of_both, ef, eg, setAll]
  clear ef eg eb
  unfold joinB
  by_cases hA : f.t = g.t ∧ f.h = g.h ∧ f.l + f.w = g.l
  · rw [if_pos hA]
    simp [hA.1, hA.2.1, hA.2.2, optD]
  · rw [if_neg hA]
    have z : ∀ k : Bool, andT (call T n) (.and (.cmp .eq (.idx (.var 2) (.cst (.int 3))) (.idx (.var 3) (.cst (.int 3)))) (.cmp .eq (.bin .add (.idx (.var 2) (.cst (.int 0))) (.idx (.var 2) (.cst (.int 2)))) (.idx (.var 3) (.cst (.int 0))))) [some (.d p.D), some (.d q.D), some (.d f.D), some (.d g.D)] (.ok k) = .ok (k && (decide (f.h = g.h) && decide (f.l + f.w = g.l))) := by
      intro k
      cases k
      · simp
      · by_cases a2 : f.h = g.h <;> simp [a2]
    have z' : (decide (f.t = g.t) && (decide (f.h = g.h) && decide (f.l + f.w = g.l))) = false := by
      rw [← Bool.not_eq_true]; simpa using hA
    rw [z, z']
    simp
    by_cases hB : f.l = g.l ∧ f.w = g.w ∧ f.t + f.h = g.t
    · rw [if_pos hB]
      simp [hB.1, hB.2.1, hB.2.2, optD]
    · rw [if_neg hB]
      have y : ∀ k : Bool, andT (call T n) (.and (.cmp .eq (.idx (.var 2) (.cst (.int 2))) (.idx (.var 3) (.cst (.int 2)))) (.cmp .eq (.bin .add (.idx (.var 2) (.cst (.int 1))) (.idx (.var 2) (.cst (.int 3)))) (.idx (.var 3) (.cst (.int 1))))) [some (.d p.D), some (.d q.D), some (.d f.D), some (.d g.D)] (.ok k) = .ok (k && (decide (f.w = g.w) && decide (f.t + f.h = g.t))) := by
        intro k
        cases k
        · simp
        · by_cases a2 : f.w = g.w <;> simp [a2]
      have y' : (decide (f.l = g.l) && (decide (f.w = g.w) && decide (f.t + f.h = g.t))) = false := by
        rw [← Bool.not_eq_true]; simpa using hB
      rw [y, y']
      simp [optD]
theorem add_lb {xs ys : List D} (h : xs.length + ys.length ≤ lim) : binR .add (.l xs) (.d (.list ys)) = .ok (.l (xs ++ ys)) := by
  show fit _ _ = _
  rw [fit_ok h]
theorem c_parted (h : TJ T) {W H : Int} {ps : List Pn} {P : Pn} (hP : P ∈ ps) {s : Bool} {k : Int} (hc : 0 < k ∧ k < P.sz s) (hl : ps.length < 7) : call T (n + 2) 77 [.d (pcD W H ps), .d P.D, .d (.str (kd s)), .d (.int k)] = .ok (.d (pcD W H (partP P s (P.lo s + k) ps))) := by
  rw [call_go h.parted rfl (st := [some (.d (pcD W H ps)), some (.d P.D), some (.d (.str (kd s))), some (.d (.int k)), none, none, none, none, none, none, none]) rfl]
  have em := c_must (n := n) h.must (W := W) (H := H) hP
  have hl' : ¬ (7 : Int) ≤ ps.length := by omega
  have hw := wo_len hP
  have hs := sorted_Dl (ps := wo P ps ++ cut2 P s (P.lo s + k)) (by rw [List.length_append, lim_eq]; simp only [cut2, List.length_cons, List.length_nil]; omega)
  have hadb : binR .add (.l ((wo P ps).map Pn.D)) (.d (.list ((cut2 P s (P.lo s + k)).map Pn.D))) = .ok (.l ((wo P ps ++ cut2 P s (P.lo s + k)).map Pn.D)) := by
    rw [add_lb (by simp only [List.length_map, lim_eq, cut2, List.length_cons, List.length_nil]; omega), List.map_append]
  cases s
  · have hsz : k < P.h := hc.2
    have e2 : [(Pn.mk P.l P.t P.w k).D, (Pn.mk P.l (P.t + k) P.w (P.h - k)).D] = (cut2 P false (P.lo false + k)).map Pn.D := by
      simp only [cut2, Pn.c1, Pn.c2, Pn.lo, List.map_cons, List.map_nil]
      rw [show P.t + k - P.t = k by omega, show P.t + P.h - (P.t + k) = P.h - k by omega]
    simp [f77_parted, em, hc.1, hsz, hl']
    rw [e2, lcf_nm Pn.D (fun p => !decide (p = P)) Pn.D ps (by simp [pcD]) (by rw [lim_eq]; omega) (by
        intro p _
        simp)]
    rw [show (ps.filter fun p => !decide (p = P)) = wo P ps from rfl]
    simp [hadb, hs, -List.map_append]
    rfl
  · have hsz : k < P.w := hc.2
    have e2 : [(Pn.mk P.l P.t k P.h).D, (Pn.mk (P.l + k) P.t (P.w - k) P.h).D] = (cut2 P true (P.lo true + k)).map Pn.D := by
      simp only [cut2, Pn.c1, Pn.c2, Pn.lo, List.map_cons, List.map_nil]
      rw [show P.l + k - P.l = k by omega, show P.l + P.w - (P.l + k) = P.w - k by omega]
    simp [f77_parted, em, hc.1, hsz, hl']
    rw [e2, lcf_nm Pn.D (fun p => !decide (p = P)) Pn.D ps (by simp [pcD]) (by rw [lim_eq]; omega) (by
        intro p _
        simp)]
    rw [show (ps.filter fun p => !decide (p = P)) = wo P ps from rfl]
    simp [hadb, hs, -List.map_append]
    rfl
theorem c_joined (h : TJ T) {W H : Int} {ps : List Pn} {p q r : Pn} (hp : p ∈ ps) (hq : q ∈ ps) (hr : both p q = some r) (hl : ps.length ≤ 7) : call T (n + 2) 78 [.d (pcD W H ps), .d p.D, .d q.D] = .ok (.d (pcD W H (joinP p q r ps))) := by
  rw [call_go h.joined rfl (st := [some (.d (pcD W H ps)), some (.d p.D), some (.d q.D), none, none]) rfl]
  have em := c_must (n := n) h.must (W := W) (H := H) hp
  have em2 := c_must (n := n) h.must (W := W) (H := H) hq
  have eb := c_both (n := n) h.both p q
  rw [hr] at eb
  have hw : (wo2 p q ps).length ≤ ps.length := List.length_filter_le _ _
  have hs := sorted_Dl (ps := wo2 p q ps ++ [r]) (by rw [List.length_append, lim_eq]; simp only [List.length_cons, List.length_nil]; omega)
  have hadb := add_ll (xs := (wo2 p q ps).map Pn.D) (ys := [r.D]) (by simp only [List.length_map, lim_eq, List.length_cons, List.length_nil]; omega)
  rw [show (wo2 p q ps).map Pn.D ++ [r.D] = (wo2 p q ps ++ [r]).map Pn.D by simp] at hadb
  simp [f78_joined, em, em2, eb, optD]
  rw [lcf_nm Pn.D (fun x => !(decide (x = p) || decide (x = q))) Pn.D ps (by simp [pcD]) (by rw [lim_eq]; omega) (by
      intro x _
      simp [in_D2])]
  rw [show (ps.filter fun x => !(decide (x = p) || decide (x = q))) = wo2 p q ps from rfl]
  simp [hadb, hs, -List.map_append]
  rfl
def prD (a : Pn × Pn) : D := .tuple [a.1.D, a.2.D]
def joinsAt (ps : List Pn) (a : Nat × Pn) : List (Pn × Pn) := ((ps.drop (a.1 + 1)).filter fun q => (both a.2 q).isSome).map fun q => (a.2, q)
def enumP : Nat → List Pn → List (Nat × Pn)
  | _, [] => []
  | n, p :: ps => (n, p) :: enumP (n + 1) ps
theorem enumL_P : ∀ (k : Nat) (ps : List Pn), enumL k (ps.map Pn.D) = (enumP k ps).map fun a => .tuple [.int a.1, a.2.D]
  | _, [] => rfl
  | k, p :: ps => by rw [List.map_cons, enumL, enumL_P (k + 1) ps]; rfl
theorem mem_enumP : ∀ {k : Nat} {ps : List Pn} {a : Nat × Pn}, a ∈ enumP k ps ↔ k ≤ a.1 ∧ ps[a.1 - k]? = some a.2
  | k, [], a => by simp [enumP]
  | k, p :: ps, (i, q) => by
    rw [enumP, List.mem_cons, mem_enumP]
    by_cases h : i = k
    · subst h
      simp
      constructor
      · rintro (rfl | ⟨h, _⟩)
        · rfl
        · omega
      · rintro rfl; exact .inl rfl
    · by_cases h2 : k ≤ i
      · have : i - k = (i - (k + 1)) + 1 := by omega
        simp [h, h2, this]
        omega
      · have : ¬ k + 1 ≤ i := by omega
        simp [h, h2, this]
def joinsL (ps : List Pn) : List (Pn × Pn) := (enumP 0 ps).flatMap (joinsAt ps)
theorem enumP_len : ∀ (k : Nat) (ps : List Pn), (enumP k ps).length = ps.length
  | _, [] => rfl
  | k, p :: ps => by simp [enumP, enumP_len (k + 1) ps]
theorem mem_joins {ps : List Pn} {p q : Pn} (hlt : (ps.map Pn.L).Pairwise (· < ·)) : (p, q) ∈ joinsL ps ↔ p ∈ ps ∧ q ∈ ps ∧ p.L < q.L ∧ (both p q).isSome = true := by
  rw [List.pairwise_map, List.pairwise_iff_getElem] at hlt
  simp only [joinsL, List.mem_flatMap, joinsAt, List.mem_map, List.mem_filter]
  constructor
  · rintro ⟨⟨i, p'⟩, hi, q', ⟨hq, hb⟩, e⟩
    simp only [Prod.mk.injEq] at e
    obtain ⟨rfl, rfl⟩ := e
    rw [mem_enumP] at hi
    simp only [Nat.zero_le, Nat.sub_zero, true_and] at hi hb
    obtain ⟨h1, e1⟩ := List.getElem?_eq_some_iff.mp hi
    rw [List.mem_iff_getElem] at hq
    obtain ⟨j, hj, e2⟩ := hq
    rw [List.getElem_drop] at e2
    rw [List.length_drop] at hj
    refine ⟨e1 ▸ List.getElem_mem _, e2 ▸ List.getElem_mem _, ?_, hb⟩
    have := hlt i (i + 1 + j) h1 (by omega) (by omega)
    simp only at e2 ⊢
    rw [e1, e2] at this
    exact this
  · rintro ⟨hp, hq, hl, hb⟩
    obtain ⟨i, hi, rfl⟩ := List.mem_iff_getElem.mp hp
    obtain ⟨j, hj, rfl⟩ := List.mem_iff_getElem.mp hq
    have hij : i < j := by
      rcases Nat.lt_trichotomy i j with z | z | z
      · exact z
      · subst z; exact absurd hl (List.lt_irrefl _)
      · exact absurd (List.lt_trans hl (hlt j i hj hi z)) (List.lt_irrefl _)
    refine ⟨(i, ps[i]), mem_enumP.mpr (by simp), ps[j], ⟨?_, hb⟩, rfl⟩
    refine List.mem_iff_getElem.mpr ⟨j - (i + 1), by rw [List.length_drop]; omega, ?_⟩
    rw [List.getElem_drop]
    congr 1; omega
end PP

set_option Elab.async false
set_option linter.all false
set_option autoImplicit false
set_option maxRecDepth 100000
set_option maxHeartbeats 1000000
namespace PP
open PySem
variable {T : Nat → Option Fn} {n : Nat}
theorem slc_drop (xs : List D) (k : Nat) : slcR (.d (.tuple xs)) (some ((k : Int) + 1)) none = .ok (.d (.tuple (xs.drop (k + 1)))) := by
  show Rs.ok (R.d (.tuple (cutD xs _ _))) = _
  have hk : HT.sIx xs.length 0 (some ((k : Int) + 1)) = min (k + 1) xs.length := by
    simp only [HT.sIx]; rw [if_neg (by omega)]; omega
  have hk2 : HT.sIx xs.length xs.length none = xs.length := rfl
  unfold cutD
  rw [hk, hk2]
  congr 3
  rcases Nat.le_total (k + 1) xs.length with z | z
  · rw [Nat.min_eq_left z]
    exact List.take_of_length_le (by rw [List.length_drop]; omega)
  · rw [Nat.min_eq_right z, List.drop_eq_nil_of_le z, List.drop_eq_nil_of_le (Nat.le_refl _)]; simp
theorem joins_len {ps : List Pn} (hl : ps.length ≤ 7) (pre post : List (Nat × Pn)) (h : pre ++ post = enumP 0 ps) : (pre.flatMap (joinsAt ps)).length ≤ 49 := by
  have := flatMap_le (f := joinsAt ps) (k := 7) pre (fun a _ => by
    simp only [joinsAt, List.length_map]
    refine Nat.le_trans (List.length_filter_le _ _) ?_
    rw [List.length_drop]; omega)
  have h2 : pre.length ≤ 7 := by
    have := congrArg List.length h
    rw [List.length_append, enumP_len] at this; omega
  have h3 : pre.length * 7 ≤ 7 * 7 := Nat.mul_le_mul_right 7 h2
  omega
theorem c_joins (h : TJ T) {W H : Int} {ps : List Pn} (hl : ps.length ≤ 7) : call T (n + 2) 76 [.d (pcD W H ps)] = .ok (.d (.tuple ((joinsL ps).map prD))) := by
  rw [call_go h.joins rfl (st := [some (.d (pcD W H ps)), none, none, none, none, none]) rfl]
  simp [f76_joins]
  refine for_go (· = _) (fun z => outK (seqK _ _ z)) (V := Option R × Option R × Option R) (fun a : Nat × Pn => .tuple [.int a.1, a.2.D]) (enumP 0 ps)
    (fun pre v => [some (.d (pcD W H ps)), some (.d (.tuple (ps.map Pn.D))), some (.l ((pre.flatMap (joinsAt ps)).map prD)), v.1, v.2.1, v.2.2]) (fun _ _ => True) (none, none, none) ?_ rfl trivial ?_ ?_
  · simp; exact enumL_P 0 ps
  · rintro pre ⟨k, p⟩ post ⟨v3, v4, v5⟩ hpre -
    have h1 := joins_len hl (pre ++ [(k, p)]) post (by simpa using hpre)
    rw [List.flatMap_append, List.length_append] at h1
    simp only [List.flatMap_cons, List.flatMap_nil, List.append_nil] at h1
    simp
    rw [lcf_nm Pn.D (fun q => (both p q).isSome) (fun q => prD (p, q)) (ps.drop (k + 1)) (by simp [slc_drop]) (by rw [List.length_drop, lim_eq]; omega) (by
      intro q _
      have eb := c_both (n := n) h.both p q
      cases hb : both p q <;> simp [eb, hb, optD, prD])]
    have ha := appS_ok (ρ := [some (.d (pcD W H ps)), some (.d (.tuple (ps.map Pn.D))), some (.l ((pre.flatMap (joinsAt ps)).map prD)), some (.d (.int k)), some (.d p.D), v5]) (i := 2) (xs := (pre.flatMap (joinsAt ps)).map prD) (ys := (joinsAt ps (k, p)).map prD) (by rw [List.length_map, List.length_map, lim_eq]; omega)
    have e : (((ps.drop (k + 1)).filter fun q => (both p q).isSome).map fun q => prD (p, q)) = (joinsAt ps (k, p)).map prD := by
      simp [joinsAt]
    rw [e]
    simp [ha]
    exact Nx.mk (some (.d (.int k)), some (.d p.D), v5) (by simp) trivial
  · rintro ⟨v3, v4, v5⟩ -
    simp
    rfl

theorem spots_has {p : Pn} {s : List Int} : s ∈ spotsP p.L ↔ ∃ x y, s = [x, y] ∧ p.has x y := by
  rw [Pn.L, mem_spots]; rfl
theorem Pict.pic {W H : Int} {ps : List Pn} (h : Pict W H ps) : Pic W H (ps.map Pn.L) := by
  have hw := h.w
  have hh := h.h
  have nd : ((ps.map Pn.L).flatMap spotsP).Nodup := by
    unfold List.Nodup
    rw [List.pairwise_flatMap]
    refine ⟨fun q hq => ?_, ?_⟩
    · obtain ⟨p, _, rfl⟩ := List.mem_map.mp hq
      exact nodup_spots ..
    · rw [List.pairwise_map]
      have := h.til.nd
      refine List.Pairwise.imp_of_mem ?_ this
      intro p q hp hq hne x hx y hy e
      subst e
      obtain ⟨a, b, rfl, z1⟩ := spots_has.mp hx
      obtain ⟨a', b', e, z2⟩ := spots_has.mp hy
      simp only [List.cons.injEq, and_true] at e
      obtain ⟨rfl, rfl⟩ := e
      exact hne (h.til.dis p hp q hq _ _ z1 z2)
  have full : ((ps.map Pn.L).flatMap spotsP).length = (spotsP [0, 0, W, H]).length := by
    have m : ∀ s, s ∈ (ps.map Pn.L).flatMap spotsP ↔ s ∈ spotsP (Pn.mk 0 0 W H).L := by
      intro s
      rw [spots_has]
      simp only [List.mem_flatMap, List.mem_map]
      constructor
      · rintro ⟨_, ⟨p, hp, rfl⟩, hs⟩
        obtain ⟨x, y, rfl, z⟩ := spots_has.mp hs
        refine ⟨x, y, rfl, ?_⟩
        have := (h.til.inn p hp).2
        simp only [Pn.has, Pn.sub] at *; omega
      · rintro ⟨x, y, rfl, z⟩
        obtain ⟨p, hp, z⟩ := h.til.cov x y z
        exact ⟨_, ⟨p, hp, rfl⟩, spots_has.mpr ⟨x, y, rfl, z⟩⟩
    exact ((List.perm_ext_iff_of_nodup nd (nodup_spots 0 0 W H)).mpr m).length_eq
  refine ⟨h.w, h.h, ?_, ?_, h.lt, nd, ?_⟩
  · rw [List.length_map]
    refine ⟨?_, h.len⟩
    have := h.til.ne h.W.pos
    cases ps with
    | nil => exact absurd rfl this
    | cons => simp
  · intro q hq
    obtain ⟨p, hp, rfl⟩ := List.mem_map.mp hq
    have := h.til.inn p hp
    refine ⟨p.l, p.t, p.w, p.h, rfl, ?_⟩
    simp only [Pn.pos, Pn.sub] at this; omega
  · rw [full, len_spots, Nat.mul_comm]
theorem c_is_picture (h : TS T) {W H : Int} {ps : List Pn} (p : Pict W H ps) : call T (n + 3) 16 [.d (pcD W H ps)] = .ok (.d (.bool true)) := by
  have := c_picture (n := n) h p.pic
  rw [← D_map] at this
  exact this
def bigs (ps : List Pn) : List Pn := ps.filter fun p => decide (1 < p.w) || decide (1 < p.h)
theorem c_lcut (hm : TB T) (h75 : T 75 = some f75_law_cut) (c : Int) {W H : Int} {ps : List Pn} (h : Pict W H ps) :
    call T (n + 2) 75 [.d (.int c), .d (pcD W H ps)] = .ok (.d .none) ∨ ∃ P s k, call T (n + 2) 75 [.d (.int c), .d (pcD W H ps)] = .ok (.d (.tuple [Pn.D P, .str (kd s), .int k])) ∧ P ∈ ps ∧ (0 < k ∧ k < P.sz s) ∧ ps.length < 7 := by
  have hl := h.len
  rw [call_go h75 rfl (st := [some (.d (.int c)), some (.d (pcD W H ps)), none, none, none]) rfl]
  simp [f75_law_cut, -Bool.exists_bool]
  rw [lcf_nm Pn.D (fun p => decide (1 < p.w) || decide (1 < p.h)) Pn.D ps (by simp [pcD]) (by rw [lim_eq]; omega) (by
      intro p _
      by_cases z : 1 < p.w <;> simp [z])]
  rw [show (ps.filter fun p => decide (1 < p.w) || decide (1 < p.h)) = bigs ps from rfl]
  generalize hb : bigs ps = bs
  by_cases hbe : bs = []
  · refine .inl ?_
    simp [hbe]
  · by_cases h6 : (6 : Int) < ps.length
    · refine .inl ?_
      have hne : bs.isEmpty = false := by simp [hbe]
      simp [h6, hne]
    · refine .inr ?_
      have hlg : 0 < (bs.length : Int) := by
        cases bs with
        | nil => exact absurd rfl hbe
        | cons a b => simp
      obtain ⟨j, ej, a1, a2⟩ := c_mix' (n := n) hm c (p := 9719) (m := bs.length) (by decide) (by decide) hlg
      obtain ⟨P, hP, e4, _⟩ := idx_mem Pn.D bs a1 a2
      have hPm : P ∈ ps ∧ (1 < P.w ∨ 1 < P.h) := by
        rw [← hb, bigs, List.mem_filter] at hP
        simpa using hP
      have hne : bs.isEmpty = false := by simp [hbe]
      have hl6 : ps.length < 7 := by omega
      have fin : ∀ s : Bool, 1 < P.sz s → ∃ k, call T (n + 1) 4 [.d (.int c), .d (.int 9697), .d (.int (P.sz s - 1))] = .ok (.d (.int k)) ∧ (0 < 1 + k ∧ 1 + k < P.sz s) := fun s hs => by
        obtain ⟨k, ek, b1, b2⟩ := c_mix' (n := n) hm c (p := 9697) (m := P.sz s - 1) (by decide) (by decide) (by omega)
        exact ⟨k, ek, by omega, by omega⟩
      by_cases hs : 1 < P.w ∧ (P.h = 1 ∨ c % 2 = 0)
      · obtain ⟨k, ek, hk⟩ := fin true hs.1
        refine ⟨P, true, 1 + k, ?_, hPm.1, hk, hl6⟩
        simp only [Pn.sz] at ek
        by_cases z : P.h = 1
        · simp [h6, hne, ej, e4, hs.1, z, ek, kd, tupG_3]
        · have z2 : c % 2 = 0 := by rcases hs.2 with a | a; exact absurd a z; exact a
          simp [h6, hne, ej, e4, hs.1, z, z2, ek, kd, tupG_3]
      · have hh : 1 < P.h := by
          have := hPm.2
          have := (h.til.inn P hPm.1).1
          simp only [Pn.pos] at this; omega
        obtain ⟨k, ek, hk⟩ := fin false hh
        refine ⟨P, false, 1 + k, ?_, hPm.1, hk, hl6⟩
        simp only [Pn.sz] at ek
        by_cases z1 : 1 < P.w
        · have z : ¬ P.h = 1 := by omega
          have z2 : ¬ c % 2 = 0 := by omega
          simp [h6, hne, ej, e4, z1, z, z2, ek, kd, tupG_3]
        · simp [h6, hne, ej, e4, z1, ek, kd, tupG_3]
end PP

set_option Elab.async false
set_option linter.all false
set_option autoImplicit false
set_option maxRecDepth 100000
set_option maxHeartbeats 4000000
namespace PP
open PySem
variable {T : Nat → Option Fn} {n : Nat}
structure K18 (T : Nat → Option Fn) : Prop where
  w : TW T
  c : TC T
  s : TS T
  j : TJ T
  trees : T 33 = some f33_trees
  count : T 36 = some f36_count_trees
  knot_in : T 43 = some f43_knot_in
  knot : T 47 = some f47_knot
  cut : T 75 = some f75_law_cut
theorem eqv_prD (a b : Pn × Pn) : PyData.eqv (prD a) (prD b) = decide (a = b) := by
  obtain ⟨p, q⟩ := a
  obtain ⟨p', q'⟩ := b
  show (PyData.eqv p.D p'.D && (PyData.eqv q.D q'.D && true)) = _
  rw [eqv_DD, eqv_DD]
  by_cases h1 : p = p' <;> by_cases h2 : q = q' <;> simp [h1, h2]
theorem depth_prD (a : Pn × Pn) : (prD a).depth ≤ 60 := by
  have := depth_D a.1
  have := depth_D a.2
  simp [prD, PyData.depth, PyData.depthAll]; omega
theorem in_pr {a : Pn × Pn} {as : List (Pn × Pn)} (h : a ∈ as) : inR (.d (prD a)) (.d (.tuple (as.map prD))) = .ok true := by
  show (if (R.d (prD a)).isD && decide ((prD a).depth ≤ 60) then Rs.ok ((as.map prD).any fun z => PyData.eqv z (prD a)) else .bad) = _
  have : (as.map prD).any (fun z => PyData.eqv z (prD a)) = true := by
    rw [List.any_eq_true]
    exact ⟨prD a, List.mem_map.mpr ⟨a, h, rfl⟩, by rw [eqv_prD]; simp⟩
  rw [this, decide_eq_true (depth_prD a)]; rfl
@[simp] theorem setT_pr (i j : Nat) (p q : Pn) (ρ : Sto) : setT (.tp [i, j]) (prD (p, q)) ρ = .ok ((ρ.set i (some (.d p.D))).set j (some (.d q.D))) := id rfl
theorem k18_turn (h : K18 T) (ns : List Int) (i : Int) (k : Int) (hk : 0 ≤ k) {W H : Int} {ps : List Pn} (pc : Pict W H ps) (v4 v5 v6 v7 v8 v9 v10 v11 v12 v13 v14 : Option R) :
    Nx (fun v : List Pn × Option R × Option R × Option R × Option R × Option R × Option R × Option R × Option R × Option R × Option R × Option R => [some (.s (ns.map PyData.int)), some (.d (.int i)), some (.d (pcD W H v.1)), some (.d (.int k)), v.2.1, v.2.2.1, v.2.2.2.1, v.2.2.2.2.1, v.2.2.2.2.2.1, v.2.2.2.2.2.2.1, v.2.2.2.2.2.2.2.1, v.2.2.2.2.2.2.2.2.1, v.2.2.2.2.2.2.2.2.2.1, v.2.2.2.2.2.2.2.2.2.2.1, v.2.2.2.2.2.2.2.2.2.2.2, none]) (fun v => Pict W H v.1)
      (xs (call T 59) (forB (hd (tl (forB (hd f113_law.body))))) 
        [some (.s (ns.map PyData.int)), some (.d (.int i)), some (.d (pcD W H ps)), some (.d (.int k)), v4, v5, v6, v7, v8, v9, v10, v11, v12, v13, v14, none]) := by
  have hlen := pc.len
  obtain ⟨c0, ec⟩ := c_cell' (n := 58) h.w.b ns (k := 8 + k % 2) (by omega)
  have h7 := mul_ii' (i := 7) (j := k) (by decide)
  have h11 := mul_ii' (i := 11) (j := i) (by decide)
  generalize hcc : c0 + 7 * k + 11 * i = c
  have ej := c_joins (n := 57) h.j (W := W) (H := H) hlen
  have et := c_count_trees (n := 47) h.c h.trees h.count pc
  have mj := fun p q => mem_joins (p := p) (q := q) pc.lt
  have t1 : ∀ b, (decide (0 < (allT W H ps).length)) = b → (b && ((joinsL ps).map prD).isEmpty && decide (1 < (ps.length : Int))) = false := by
    intro b hb
    by_cases hn : allT W H ps = []
    · simp [hn] at hb; subst hb; rfl
    · by_cases h1 : 1 < ps.length
      · obtain ⟨r, s, c, hc, m1, m2⟩ := allT_join pc hn h1
        have := (mj _ _).mpr ⟨m1, m2, c1_lt hc, by rw [(both_cut hc).1]; rfl⟩
        have : ((joinsL ps).map prD).isEmpty = false := by
          cases hj : joinsL ps with
          | nil => rw [hj] at this; cases this
          | cons => rfl
        simp [this]
      · have : ¬ 1 < (ps.length : Int) := by omega
        simp [this]
  simp only [f113_law, hd, tl, forB]
  generalize hhas : decide (0 < (allT W H ps).length) = has at *
  have t1' := t1 has rfl
  have epp := eq_refl' (plain_pc (W := W) (H := H) (ps := ps) (by rw [lim_eq]; omega)) (Nat.le_trans (depth_pc W H ps) (by decide))
  have tv : ∀ X, andT (call T 59) (.and (.cmp .eq (.var 6) (.tup .nil)) (.cmp .gt (.blt .len (.cons (.idx (.var 2) (.cst (.int 1))) .nil)) (.cst (.int 1)))) [some (.s (ns.map PyData.int)), some (.d (.int i)), some (.d (pcD W H ps)), some (.d (.int k)), some (.d (.int c)), some (.d X), some (.d (.tuple ((joinsL ps).map prD))), some (.d (.bool has)), v8, v9, v10, v11, v12, v13, v14, none] (Rs.ok has) = Rs.ok false := by
    intro X
    cases has
    · simp
    · cases hj : ((joinsL ps).map prD).isEmpty
      · simp [eq_tnil, hj]
      · rw [hj] at t1'
        have : ¬ 1 < (ps.length : Int) := by simpa using t1'
        simp [eq_tnil, hj, this]
  simp [ec, h7, h11, hcc, ej, et]
  rcases c_lcut (n := 57) h.w.b h.cut c pc with e5 | ⟨P, s, at', e5, hP, hc, hl⟩
  · simp [e5, ej, et, hhas, tv]
    by_cases hj : joinsL ps = []
    · have hj' : ((joinsL ps).map prD).isEmpty = true := by simp [hj]
      simp [eq_tnil, hj']
      exact Nx.mk (_, _, _, _, _, _, _, _, _, _, _, _) rfl pc
    · have hj' : ((joinsL ps).map prD).isEmpty = false := by simp [hj]
      have hlg : 0 < ((joinsL ps).length : Int) := by
        have := List.length_pos_iff.mpr hj
        omega
      obtain ⟨j, ejj, a1, a2⟩ := c_mix' (n := 58) h.w.b c (p := 9689) (m := (joinsL ps).length) (by decide) (by decide) hlg
      obtain ⟨⟨p, q⟩, hpq, _, e4⟩ := idx_mem prD (joinsL ps) a1 a2
      obtain ⟨hp, hq, hpql, hbs⟩ := (mj p q).mp hpq
      obtain ⟨r, hr⟩ := Option.isSome_iff_exists.mp hbs
      have eJ := c_joined (n := 57) h.j (W := W) (H := H) hp hq hr hlen
      have hr' : joinB p q = some r := by
        have : ¬ q.L < p.L := fun z => List.lt_irrefl _ (List.lt_trans hpql z)
        rw [both, if_neg this] at hr; exact hr
      obtain ⟨s', hc', e1, e2, es⟩ := joinB_some hr' (pc.til.inn p hp).1 (pc.til.inn q hq).1
      have PJ := pict_join pc hc' (e1 ▸ hp) (e2 ▸ hq)
      rw [← e1, ← e2] at PJ
      obtain ⟨pj, jl, rj, nj, bj⟩ := PJ
      have eP := c_parted (n := 57) h.j (W := W) (H := H) rj (s := s') (k := p.sz s') (by omega) jl
      rw [bj] at eP
      have eI := c_is_picture (n := 56) h.s pj
      have lj : (joinP p q r ps).length ≤ lim := by rw [lim_eq]; omega
      generalize joinP p q r ps = qs at *
      simp [eq_tnil, hj', ejj, e4, setT_pr, eJ]
      rw [lcf_nm Pn.D (fun x => !decide (x ∈ ps)) Pn.D qs (by simp [pcD]) lj (by intro x _; simp)]
      rw [show (qs.filter fun x => !decide (x ∈ ps)) = news ps qs from rfl, nj]
      have i0 : idxR (.l [r.D]) (.d (.int 0)) = .ok (.d r.D) := id rfl
      cases s'
      · simp only [kd, Pn.sz] at eP
        by_cases z1 : p.t = q.t
        · have z2 : p.l = q.l := by
            have := es.symm
            rw [decide_eq_true z1] at this
            simpa using this
          simp [i0, z1, z2, eP, epp, eI]
          exact Nx.mk (_, _, _, _, _, _, _, _, _, _, _, _) rfl pj
        · simp [i0, z1, eP, epp, eI]
          exact Nx.mk (_, _, _, _, _, _, _, _, _, _, _, _) rfl pj
      · simp only [kd, Pn.sz] at eP
        have z : p.t = q.t ∧ ¬ p.l = q.l := by simpa using es.symm
        simp [i0, z.1, z.2, eP, epp, eI]
        exact Nx.mk (_, _, _, _, _, _, _, _, _, _, _, _) rfl pj
  · have i0 : idxR (.d (.tuple [Pn.D P, .str (kd s), .int at'])) (.d (.int 0)) = .ok (.d P.D) := id rfl
    have i1 : idxR (.d (.tuple [Pn.D P, .str (kd s), .int at'])) (.d (.int 1)) = .ok (.d (.str (kd s))) := id rfl
    have i2 : idxR (.d (.tuple [Pn.D P, .str (kd s), .int at'])) (.d (.int 2)) = .ok (.d (.int at')) := id rfl
    have in0 : isR (.d (.tuple [Pn.D P, .str (kd s), .int at'])) (.d .none) = .ok false := id rfl
    simp [e5, ej, et, hhas, tv, in0]
    by_cases h3 : 0 < c % 3
    · have hc' : P.lo s < P.lo s + at' ∧ P.lo s + at' < P.lo s + P.sz s := by omega
      have eP := c_parted (n := 57) h.j (W := W) (H := H) hP hc hl
      have pq := pict_part pc hP hc' hl
      have nq := news_part pc hP hc' hl
      have jq := join_part pc hP hc' hl
      have tq := allT_part pc hP hc' hl
      have m1 : P.c1 s (P.lo s + at') ∈ partP P s (P.lo s + at') ps := mem_part.mpr (.inr (.inl rfl))
      have m2 : P.c2 s (P.lo s + at') ∈ partP P s (P.lo s + at') ps := mem_part.mpr (.inr (.inr rfl))
      have eJ := c_joined (n := 57) h.j (W := W) (H := H) m2 m1 (both_cut hc').2 pq.len
      rw [jq] at eJ
      have ejq := c_joins (n := 57) h.j (W := W) (H := H) pq.len
      have mq : (P.c1 s (P.lo s + at'), P.c2 s (P.lo s + at')) ∈ joinsL (partP P s (P.lo s + at') ps) := (mem_joins pq.lt).mpr ⟨m1, m2, c1_lt hc', by rw [(both_cut hc').1]; rfl⟩
      have inq := in_pr mq
      have eI := c_is_picture (n := 56) h.s pq
      have etq := c_count_trees (n := 47) h.c h.trees h.count pq
      have ekq := c_knot (n := 48) h.c h.knot_in h.knot pq
      have lj : (partP P s (P.lo s + at') ps).length ≤ lim := by have := pq.len; rw [lim_eq]; omega
      simp only [cut2] at nq
      generalize P.c1 s (P.lo s + at') = x1 at *
      generalize P.c2 s (P.lo s + at') = x2 at *
      generalize partP P s (P.lo s + at') ps = qs at *
      simp [h3, i0, i1, i2, eP]
      rw [lcf_nm Pn.D (fun x => !decide (x ∈ ps)) Pn.D qs (by simp [pcD]) lj (by intro x _; simp)]
      rw [show (qs.filter fun x => !decide (x ∈ ps)) = news ps qs from rfl, nq]
      have j0 : idxR (.d (prD (x1, x2))) (.d (.int 0)) = .ok (.d x1.D) := id rfl
      have j1 : idxR (.d (prD (x1, x2))) (.d (.int 1)) = .ok (.d x2.D) := id rfl
      have tp : bltR .tuple [.l [x1.D, x2.D]] = .ok (.d (prD (x1, x2))) := id rfl
      simp [tp, ejq, inq, j0, j1, eJ, epp, eI]
      cases has
      · simp
        exact Nx.mk (_, _, _, _, _, _, _, _, _, _, _, _) rfl pq
      · have hne : ¬ allT W H ps = [] := fun z => by rw [z] at hhas; simp at hhas
        obtain ⟨u1, u2⟩ := tq hne
        rw [u2] at ekq
        simp [etq, ekq, u1, optD]
        exact Nx.mk (_, _, _, _, _, _, _, _, _, _, _, _) rfl pq
    · simp [h3]
      by_cases hj : joinsL ps = []
      · have hj' : ((joinsL ps).map prD).isEmpty = true := by simp [hj]
        simp [eq_tnil, hj']
        exact Nx.mk (_, _, _, _, _, _, _, _, _, _, _, _) rfl pc
      · have hj' : ((joinsL ps).map prD).isEmpty = false := by simp [hj]
        have hlg : 0 < ((joinsL ps).length : Int) := by
          have := List.length_pos_iff.mpr hj
          omega
        obtain ⟨j, ejj, a1, a2⟩ := c_mix' (n := 58) h.w.b c (p := 9689) (m := (joinsL ps).length) (by decide) (by decide) hlg
        obtain ⟨⟨p, q⟩, hpq, _, e4⟩ := idx_mem prD (joinsL ps) a1 a2
        obtain ⟨hp, hq, hpql, hbs⟩ := (mj p q).mp hpq
        obtain ⟨r, hr⟩ := Option.isSome_iff_exists.mp hbs
        have eJ := c_joined (n := 57) h.j (W := W) (H := H) hp hq hr hlen
        have hr' : joinB p q = some r := by
          have : ¬ q.L < p.L := fun z => List.lt_irrefl _ (List.lt_trans hpql z)
          rw [both, if_neg this] at hr; exact hr
        obtain ⟨s', hc', e1, e2, es⟩ := joinB_some hr' (pc.til.inn p hp).1 (pc.til.inn q hq).1
        have PJ := pict_join pc hc' (e1 ▸ hp) (e2 ▸ hq)
        rw [← e1, ← e2] at PJ
        obtain ⟨pj, jl, rj, nj, bj⟩ := PJ
        have eP := c_parted (n := 57) h.j (W := W) (H := H) rj (s := s') (k := p.sz s') (by omega) jl
        rw [bj] at eP
        have eI := c_is_picture (n := 56) h.s pj
        have lj : (joinP p q r ps).length ≤ lim := by rw [lim_eq]; omega
        generalize joinP p q r ps = qs at *
        simp [eq_tnil, hj', ejj, e4, setT_pr, eJ]
        rw [lcf_nm Pn.D (fun x => !decide (x ∈ ps)) Pn.D qs (by simp [pcD]) lj (by intro x _; simp)]
        rw [show (qs.filter fun x => !decide (x ∈ ps)) = news ps qs from rfl, nj]
        have i0 : idxR (.l [r.D]) (.d (.int 0)) = .ok (.d r.D) := id rfl
        cases s'
        · simp only [kd, Pn.sz] at eP
          by_cases z1 : p.t = q.t
          · have z2 : p.l = q.l := by
              have := es.symm
              rw [decide_eq_true z1] at this
              simpa using this
            simp [i0, z1, z2, eP, epp, eI]
            exact Nx.mk (_, _, _, _, _, _, _, _, _, _, _, _) rfl pj
          · simp [i0, z1, eP, epp, eI]
            exact Nx.mk (_, _, _, _, _, _, _, _, _, _, _, _) rfl pj
        · simp only [kd, Pn.sz] at eP
          have z : p.t = q.t ∧ ¬ p.l = q.l := by simpa using es.symm
          simp [i0, z.1, z.2, eP, epp, eI]
          exact Nx.mk (_, _, _, _, _, _, _, _, _, _, _, _) rfl pj
theorem k18_true (h : K18 T) (hl : T 113 = some f113_law) (ns : List Int) : call T 60 113 [.s (ns.map PyData.int)] = .ok (.d (.bool true)) := by
  rw [call_go hl rfl (st := [some (.s (ns.map PyData.int)), none, none, none, none, none, none, none, none, none, none, none, none, none, none, none]) rfl]
  simp [f113_law]
  refine for_go (· = _) (fun z => outK (seqK _ _ z)) (V := Option R × Option R × Option R × Option R × Option R × Option R × Option R × Option R × Option R × Option R × Option R × Option R × Option R × Option R) PyData.int (irange 0 8)
    (fun pre v => [some (.s (ns.map PyData.int)), v.1, v.2.1, v.2.2.1, v.2.2.2.1, v.2.2.2.2.1, v.2.2.2.2.2.1, v.2.2.2.2.2.2.1, v.2.2.2.2.2.2.2.1, v.2.2.2.2.2.2.2.2.1, v.2.2.2.2.2.2.2.2.2.1, v.2.2.2.2.2.2.2.2.2.2.1, v.2.2.2.2.2.2.2.2.2.2.2.1, v.2.2.2.2.2.2.2.2.2.2.2.2.1, v.2.2.2.2.2.2.2.2.2.2.2.2.2, none]) (fun _ _ => True) (none, none, none, none, none, none, none, none, none, none, none, none, none, none)
    (by simp; exact rngF_ok (j := 8) (by decide) (by decide)) rfl trivial ?_ ?_
  · rintro pre i post ⟨v1, v2, v3, v4, v5, v6, v7, v8, v9, v10, v11, v12, v13, v14⟩ hpre -
    have hi : i ∈ irange 0 8 := by rw [← hpre]; simp
    rw [mem_irange] at hi
    obtain ⟨c, ec⟩ := c_cell' (n := 58) h.w.b ns (k := i) (by omega)
    have h3 := mul_ii' (i := 3) (j := i) (by decide)
    obtain ⟨W, H, ps, ep, pc⟩ := c_lpicture (n := 39) h.w (c + 3 * i)
    simp [ec, h3, ep]
    refine for_go (Nx _ _) (fun z => seqK _ _ z) (V := List Pn × Option R × Option R × Option R × Option R × Option R × Option R × Option R × Option R × Option R × Option R × Option R × Option R) PyData.int (irange 0 6)
      (fun pre v => [some (.s (ns.map PyData.int)), some (.d (.int i)), some (.d (pcD W H v.1)), v.2.1, v.2.2.1, v.2.2.2.1, v.2.2.2.2.1, v.2.2.2.2.2.1, v.2.2.2.2.2.2.1, v.2.2.2.2.2.2.2.1, v.2.2.2.2.2.2.2.2.1, v.2.2.2.2.2.2.2.2.2.1, v.2.2.2.2.2.2.2.2.2.2.1, v.2.2.2.2.2.2.2.2.2.2.2.1, v.2.2.2.2.2.2.2.2.2.2.2.2, none]) (fun _ v => Pict W H v.1) (ps, v3, v4, v5, v6, v7, v8, v9, v10, v11, v12, v13, v14)
      (by simp; exact rngF_ok (j := 6) (by decide) (by decide)) rfl pc ?_ ?_
    · rintro pre' k post' ⟨qs, w3, w4, w5, w6, w7, w8, w9, w10, w11, w12, w13, w14⟩ hpre' pq
      have hk : k ∈ irange 0 6 := by rw [← hpre']; simp
      rw [mem_irange] at hk
      obtain ⟨v, ev, iv⟩ := k18_turn h ns i k (by omega) pq w4 w5 w6 w7 w8 w9 w10 w11 w12 w13 w14
      simp only [f113_law, hd, tl, forB] at ev
      simp only [setT_nm, b1_ok, List.set_cons_succ, List.set_cons_zero]
      rw [ev]
      exact Nx.mk (v.1, some (.d (.int k)), v.2) rfl iv
    · rintro ⟨qs, w3, w4, w5, w6, w7, w8, w9, w10, w11, w12, w13, w14⟩ pq
      simp
      exact Nx.mk (_, _, _, _, _, _, _, _, _, _, _, _, _, _) rfl trivial
  · rintro ⟨v1, v2, v3, v4, v5, v6, v7, v8, v9, v10, v11, v12, v13, v14⟩ -
    simp
end PP

set_option Elab.async false
set_option linter.all false
set_option autoImplicit false
set_option maxRecDepth 100000
set_option maxHeartbeats 1000000
namespace PP
open PySem
/-! ### least sizes -/
abbrev Nd := Int × Int
def Nd.co (c : Bool) (n : Nd) : Int := match c with
  | true => n.1
  | false => n.2
def mx (i j : Int) : Int := if i < j then j else i
theorem mx_assoc (i j k : Int) : mx (mx i j) k = mx i (mx j k) := by
  unfold mx; repeat' split
  all_goals omega
theorem mx_comm (i j : Int) : mx i j = mx j i := by
  unfold mx; repeat' split
  all_goals omega
theorem mx_le {i j k : Int} : mx i j ≤ k ↔ i ≤ k ∧ j ≤ k := by
  unfold mx; split <;> omega
/-- how much of one kind a tree needs -/
def lz (c : Bool) : Tr → List Nd → Int
  | .pane, ns => Nd.co c (ns.headD (0, 0))
  | .cut s _ a b, ns => if s = c then lz c a (ns.take a.count) + lz c b (ns.drop a.count) else mx (lz c a (ns.take a.count)) (lz c b (ns.drop a.count))
/-- the same cuts in kind -/
def Tr.like : Tr → Tr → Prop
  | .pane, .pane => True
  | .cut s _ a b, .cut s' _ a' b' => s = s' ∧ a.like a' ∧ b.like b'
  | _, _ => False
theorem like_count : ∀ {t u : Tr}, t.like u → t.count = u.count
  | .pane, .pane, _ => rfl
  | .pane, .cut .., h => h.elim
  | .cut .., .pane, h => h.elim
  | .cut s k a b, .cut s' k' a' b', h => by
    simp only [Tr.like] at h
    simp only [Tr.count, like_count h.2.1, like_count h.2.2]
theorem lz_like (c : Bool) : ∀ {t u : Tr} (ns : List Nd), t.like u → lz c t ns = lz c u ns
  | .pane, .pane, _, _ => rfl
  | .pane, .cut .., _, h => h.elim
  | .cut .., .pane, _, h => h.elim
  | .cut s k a b, .cut s' k' a' b', ns, h => by
    simp only [Tr.like] at h
    obtain ⟨rfl, h1, h2⟩ := h
    simp only [lz, like_count h1, lz_like c _ h1, lz_like c _ h2]
/-- a tree cut elsewhere -/
def laid : Tr → List Nd → Tr
  | .pane, _ => .pane
  | .cut s _ a b, ns => .cut s (lz s a (ns.take a.count)) (laid a (ns.take a.count)) (laid b (ns.drop a.count))
theorem laid_like : ∀ (t : Tr) (ns : List Nd), (laid t ns).like t
  | .pane, _ => trivial
  | .cut s k a b, ns => ⟨rfl, laid_like a _, laid_like b _⟩
theorem laid_of_like : ∀ {t u : Tr} (ns : List Nd), t.like u → laid t ns = laid u ns
  | .pane, .pane, _, _ => rfl
  | .pane, .cut .., _, h => h.elim
  | .cut .., .pane, _, h => h.elim
  | .cut s k a b, .cut s' k' a' b', ns, h => by
    simp only [Tr.like] at h
    obtain ⟨rfl, h1, h2⟩ := h
    simp only [laid, like_count h1, lz_like s _ h1, laid_of_like _ h1, laid_of_like _ h2]
theorem laid_laid (t : Tr) (ns : List Nd) : laid (laid t ns) ns = laid t ns := laid_of_like ns (laid_like t ns)
theorem laid_room : ∀ (t : Tr) (ns : List Nd) (P : Pn), ns.length = t.count → lz true t ns ≤ P.w → lz false t ns ≤ P.h →
    ∀ (j : Nat) (p : Pn) (d : Nd), ((laid t ns).pns P)[j]? = some p → ns[j]? = some d → d.1 ≤ p.w ∧ d.2 ≤ p.h
  | .pane, ns, P, hl, h1, h2, j, p, d, hp, hd => by
    cases ns with
    | nil => cases hd
    | cons x xs =>
      simp only [laid, Tr.pns] at hp
      cases j with
      | zero =>
        simp only [List.getElem?_cons_zero, Option.some.injEq] at hp hd
        subst hp hd
        exact ⟨h1, h2⟩
      | succ j => simp at hp
  | .cut s k a b, ns, P, hl, h1, h2, j, p, d, hp, hd => by
    simp only [Tr.count] at hl
    have ta : (ns.take a.count).length = a.count := by rw [List.length_take]; omega
    have tb : (ns.drop a.count).length = b.count := by rw [List.length_drop]; omega
    have la : ((laid a (ns.take a.count)).pns (P.c1 s (P.lo s + lz s a (ns.take a.count)))).length = a.count := by rw [pns_len, like_count (laid_like a _)]
    have ra := laid_room a (ns.take a.count) (P.c1 s (P.lo s + lz s a (ns.take a.count))) ta
    have rb := laid_room b (ns.drop a.count) (P.c2 s (P.lo s + lz s a (ns.take a.count))) tb
    simp only [laid, Tr.pns] at hp
    have sa : lz true a (ns.take a.count) ≤ (P.c1 s (P.lo s + lz s a (ns.take a.count))).w ∧ lz false a (ns.take a.count) ≤ (P.c1 s (P.lo s + lz s a (ns.take a.count))).h ∧ lz true b (ns.drop a.count) ≤ (P.c2 s (P.lo s + lz s a (ns.take a.count))).w ∧ lz false b (ns.drop a.count) ≤ (P.c2 s (P.lo s + lz s a (ns.take a.count))).h := by
      cases s <;> simp only [lz, Pn.c1, Pn.c2, Pn.lo, if_true, if_false, Bool.false_eq_true, Bool.true_eq_false, mx_le] at * <;> omega
    by_cases hj : j < a.count
    · rw [List.getElem?_append_left (by omega)] at hp
      exact ra sa.1 sa.2.1 j p d hp (by rw [List.getElem?_take]; simp [hj, hd])
    · rw [List.getElem?_append_right (by omega), la] at hp
      refine rb sa.2.2.1 sa.2.2.2 (j - a.count) p d hp ?_
      rw [List.getElem?_drop, show a.count + (j - a.count) = j by omega]; exact hd
end PP

set_option Elab.async false
set_option linter.all false
set_option autoImplicit false
set_option maxRecDepth 100000
set_option maxHeartbeats 1000000
namespace PP
open PySem
/-! ### least sizes of turned trees -/
def swN (n : Nd) : Nd := (n.2, n.1)
theorem co_sw (c : Bool) (n : Nd) : Nd.co c (swN n) = Nd.co (!c) n := by cases c <;> rfl
theorem lz_over (c : Bool) : ∀ (t : Tr) (P : Pn) (ns : List Nd), ns.length = t.count → lz c (t.turn ⟨true, false, false⟩ P) (ns.map swN) = lz (!c) t ns
  | .pane, P, ns, hl => by
    cases ns with
    | nil => simp [Tr.count] at hl
    | cons x xs => simp only [Tr.turn, lz, List.map_cons, List.headD_cons, co_sw]
  | .cut s k a b, P, ns, hl => by
    simp only [Tr.count] at hl
    have h1 : (ns.take a.count).length = a.count := by rw [List.length_take]; omega
    have h2 : (ns.drop a.count).length = b.count := by rw [List.length_drop]; omega
    have e1 := lz_over c a (P.c1 s (P.lo s + k)) _ h1
    have e2 := lz_over c b (P.c2 s (P.lo s + k)) _ h2
    rw [List.map_take] at e1
    rw [List.map_drop] at e2
    have ht : (Tr.cut s k a b).turn ⟨true, false, false⟩ P = .cut (!s) k (a.turn ⟨true, false, false⟩ (P.c1 s (P.lo s + k))) (b.turn ⟨true, false, false⟩ (P.c2 s (P.lo s + k))) := by
      cases s <;> rfl
    rw [ht]
    simp only [lz, turn_count, e1, e2]
    cases s <;> cases c <;> rfl
theorem lz_half (c : Bool) : ∀ (t : Tr) (P : Pn) (ns : List Nd), ns.length = t.count → lz c (t.turn ⟨false, true, true⟩ P) ns.reverse = lz c t ns
  | .pane, P, ns, hl => by
    match ns, hl with
    | [x], _ => rfl
  | .cut s k a b, P, ns, hl => by
    simp only [Tr.count] at hl
    have h1 : (ns.take a.count).length = a.count := by rw [List.length_take]; omega
    have h2 : (ns.drop a.count).length = b.count := by rw [List.length_drop]; omega
    have e1 := lz_half c a (P.c1 s (P.lo s + k)) _ h1
    have e2 := lz_half c b (P.c2 s (P.lo s + k)) _ h2
    have ht : (Tr.cut s k a b).turn ⟨false, true, true⟩ P = .cut s (P.sz s - k) (b.turn ⟨false, true, true⟩ (P.c2 s (P.lo s + k))) (a.turn ⟨false, true, true⟩ (P.c1 s (P.lo s + k))) := by
      cases s <;> rfl
    have r1 : ns.reverse.take b.count = (ns.drop a.count).reverse := by
      rw [List.take_reverse, show ns.length - b.count = a.count by omega]
    have r2 : ns.reverse.drop b.count = (ns.take a.count).reverse := by
      rw [List.drop_reverse, show ns.length - b.count = a.count by omega]
    rw [ht]
    simp only [lz, turn_count, r1, r2, e1, e2]
    by_cases h : s = c
    · rw [if_pos h, if_pos h, Int.add_comm]
    · rw [if_neg h, if_neg h, mx_comm]
/-! ### moves -/
inductive Mw where
  | cross | left | right
  deriving DecidableEq
def hereM : Mw → Tr → Option Tr
  | _, .pane => none
  | .left, .cut s k a (.cut s' k' b c) => if s' = s then some (.cut s (k + k') (.cut s k a b) c) else none
  | .left, .cut _ _ _ .pane => none
  | .right, .cut s k (.cut s' k' a b) c => if s' = s then some (.cut s k' a (.cut s (k - k') b c)) else none
  | .right, .cut _ _ .pane _ => none
  | .cross, .cut s k (.cut s1 k1 a b) (.cut s2 k2 c d) => if s1 = !s ∧ s2 = s1 ∧ k2 = k1 then some (.cut s1 k1 (.cut s k a c) (.cut s k b d)) else none
  | .cross, .cut _ _ _ _ => none
def atM : List Bool → Mw → Tr → Option Tr
  | [], m, t => hereM m t
  | _ :: _, _, .pane => none
  | false :: p, m, .cut s k a b => (atM p m a).map fun x => .cut s k x b
  | true :: p, m, .cut s k a b => (atM p m b).map fun x => .cut s k a x
def mwL : List Mw := [.cross, .left, .right]
def mvsF : Tr → List Bool → List (List Bool × Mw)
  | .pane, _ => []
  | .cut s k a b, p => ((mwL.filter fun m => (hereM m (.cut s k a b)).isSome).map fun m => (p, m)) ++ mvsF a (p ++ [false]) ++ mvsF b (p ++ [true])
theorem mem_mvsF : ∀ (t : Tr) (p : List Bool) (x : List Bool × Mw), x ∈ mvsF t p ↔ ∃ q, x.1 = p ++ q ∧ (atM q x.2 t).isSome = true
  | .pane, p, x => by
    simp only [mvsF, List.not_mem_nil, false_iff, not_exists, not_and]
    intro q _
    cases q with
    | nil => simp [atM, hereM]
    | cons b q => simp [atM]
  | .cut s k a b, p, x => by
    obtain ⟨y, m⟩ := x
    rw [mvsF, List.mem_append, List.mem_append, mem_mvsF a, mem_mvsF b]
    simp only [List.mem_map, List.mem_filter, Prod.mk.injEq]
    constructor
    · rintro ((⟨m', ⟨_, h⟩, rfl, rfl⟩ | ⟨q, h1, h2⟩) | ⟨q, h1, h2⟩)
      · exact ⟨[], by simp, h⟩
      · exact ⟨false :: q, by simpa using h1, by simpa [atM] using h2⟩
      · exact ⟨true :: q, by simpa using h1, by simpa [atM] using h2⟩
    · rintro ⟨q, h1, h2⟩
      cases q with
      | nil => exact .inl (.inl ⟨m, ⟨by cases m <;> simp [mwL], h2⟩, by simpa using h1.symm, rfl⟩)
      | cons c q =>
        cases c with
        | false => exact .inl (.inr ⟨q, by simpa using h1, by simpa [atM] using h2⟩)
        | true => exact .inr ⟨q, by simpa using h1, by simpa [atM] using h2⟩
theorem here_lz (c : Bool) {m : Mw} {t u : Tr} (hm : ¬ m = .cross) (h : hereM m t = some u) (ns : List Nd) : u.count = t.count ∧ lz c u ns = lz c t ns := by
  cases m with
  | cross => exact absurd rfl hm
  | left =>
    match t, h with
    | .cut s k a (.cut s' k' b d), h =>
      simp only [hereM] at h
      by_cases e : s' = s
      · rw [if_pos e] at h; subst e; cases h
        refine ⟨by simp only [Tr.count]; omega, ?_⟩
        simp only [lz, Tr.count, List.take_take, List.drop_drop, List.drop_take]
        rw [Nat.min_eq_left (by omega), show a.count + b.count - a.count = b.count by omega]
        by_cases z : s' = c
        · simp only [if_pos z]; omega
        · simp only [if_neg z]; rw [mx_assoc]
      · rw [if_neg e] at h; cases h
    | .cut s k a .pane, h => simp [hereM] at h
    | .pane, h => simp [hereM] at h
  | right =>
    match t, h with
    | .cut s k (.cut s' k' a b) d, h =>
      simp only [hereM] at h
      by_cases e : s' = s
      · rw [if_pos e] at h; subst e; cases h
        refine ⟨by simp only [Tr.count]; omega, ?_⟩
        simp only [lz, Tr.count, List.take_take, List.drop_drop, List.drop_take]
        rw [Nat.min_eq_left (by omega), show a.count + b.count - a.count = b.count by omega]
        by_cases z : s' = c
        · simp only [if_pos z]; omega
        · simp only [if_neg z]; rw [mx_assoc]
      · rw [if_neg e] at h; cases h
    | .cut s k .pane d, h => simp [hereM] at h
    | .pane, h => simp [hereM] at h
theorem at_lz (c : Bool) {m : Mw} (hm : ¬ m = .cross) : ∀ (p : List Bool) (t u : Tr) (ns : List Nd), atM p m t = some u → u.count = t.count ∧ lz c u ns = lz c t ns
  | [], t, u, ns, h => here_lz c hm h ns
  | _ :: _, .pane, u, ns, h => by simp [atM] at h
  | false :: p, .cut s k a b, u, ns, h => by
    simp only [atM, Option.map_eq_some_iff] at h
    obtain ⟨x, hx, rfl⟩ := h
    obtain ⟨e1, e2⟩ := at_lz c hm p a x (ns.take a.count) hx
    simp only [Tr.count, lz, e1, e2]; simp
  | true :: p, .cut s k a b, u, ns, h => by
    simp only [atM, Option.map_eq_some_iff] at h
    obtain ⟨x, hx, rfl⟩ := h
    obtain ⟨e1, e2⟩ := at_lz c hm p b x (ns.drop a.count) hx
    simp only [Tr.count, lz, e1, e2]; simp
end PP

set_option Elab.async false
set_option linter.all false
set_option autoImplicit false
set_option maxRecDepth 100000
set_option maxHeartbeats 2000000
namespace PP
open PySem
variable {T : Nat → Option Fn} {n : Nat}
structure TZ (T : Nat → Option Fn) : Prop where
  parts : T 18 = some f18_parts_of
  count : T 20 = some f20_panes_in
  fit : T 109 = some f109_must_fit
  least_in : T 79 = some f79_least_in
  least : T 90 = some f90_least_size
  laid_in : T 80 = some f80_laid_in
  laid : T 91 = some f91_laid_out
def ndD (d : Nd) : D := wD d.1 d.2
def nsD (ns : List Nd) : D := .tuple (ns.map ndD)
@[simp] theorem enc_2 (s : Bool) (k : Int) (a b : Tr) : idxR (.d (Tr.cut s k a b).enc) (.d (.int 2)) = .ok (.d a.enc) := idx2 ..
@[simp] theorem enc_3 (s : Bool) (k : Int) (a b : Tr) : idxR (.d (Tr.cut s k a b).enc) (.d (.int 3)) = .ok (.d b.enc) := idx3 ..
@[simp] theorem enc_0 (s : Bool) (k : Int) (a b : Tr) : idxR (.d (Tr.cut s k a b).enc) (.d (.int 0)) = .ok (.d (.str (kd s))) := idx0 ..
theorem c_count (h : T 20 = some f20_panes_in) : ∀ (t : Tr) (n : Nat), t.count ≤ n → call T n 20 [.d t.enc] = .ok (.d (.int t.count))
  | .pane, n, hn => by
    obtain ⟨k, rfl⟩ : ∃ k, n = k + 1 := ⟨n - 1, by have := count_pos .pane; omega⟩
    rw [call_go h rfl (st := [some (.d Tr.pane.enc)]) rfl]
    simp [f20_panes_in, Tr.count]
  | .cut s k a b, n, hn => by
    have hn' : a.count + b.count ≤ n := hn
    have ca := count_pos a
    have cb := count_pos b
    obtain ⟨m, rfl⟩ : ∃ m, n = m + 1 := ⟨n - 1, by omega⟩
    have e1 := c_count h a m (by omega)
    have e2 := c_count h b m (by omega)
    rw [call_go h rfl (st := [some (.d (Tr.cut s k a b).enc)]) rfl]
    simp [f20_panes_in, e1, e2, Tr.count]
theorem slc_take (xs : List D) (k : Nat) : slcR (.d (.tuple xs)) none (some (k : Int)) = .ok (.d (.tuple (xs.take k))) := by
  show Rs.ok (R.d (.tuple (cutD xs _ _))) = _
  have hk : HT.sIx xs.length xs.length (some (k : Int)) = min k xs.length := HT.sIx_nat ..
  have hk2 : HT.sIx xs.length 0 none = 0 := rfl
  unfold cutD
  rw [hk, hk2]
  congr 3
  rw [List.drop_zero, Nat.sub_zero]
  rcases Nat.le_total k xs.length with z | z
  · rw [Nat.min_eq_left z]
  · rw [Nat.min_eq_right z, List.take_of_length_le z, List.take_of_length_le (Nat.le_refl _)]
theorem slc_drop' (xs : List D) (k : Nat) : slcR (.d (.tuple xs)) (some (k : Int)) none = .ok (.d (.tuple (xs.drop k))) := by
  cases k with
  | zero =>
    show Rs.ok (R.d (.tuple (cutD xs _ _))) = _
    unfold cutD
    simp [HT.sIx]
  | succ k => exact slc_drop xs k
@[simp] theorem ns_take (ns : List Nd) (k : Nat) : slcR (.d (nsD ns)) none (some (k : Int)) = .ok (.d (nsD (ns.take k))) := by
  rw [nsD, slc_take, nsD, List.map_take]
@[simp] theorem ns_drop (ns : List Nd) (k : Nat) : slcR (.d (nsD ns)) (some (k : Int)) none = .ok (.d (nsD (ns.drop k))) := by
  rw [nsD, slc_drop', nsD, List.map_drop]
theorem c_least_in (h : TZ T) : ∀ (t : Tr) (ns : List Nd) (n : Nat), t.count + 1 ≤ n → ns.length = t.count →
    call T n 79 [.d t.enc, .d (nsD ns)] = .ok (.d (wD (lz true t ns) (lz false t ns)))
  | .pane, ns, n, hn, hl => by
    obtain ⟨k, rfl⟩ : ∃ k, n = k + 1 := ⟨n - 1, by have := count_pos .pane; omega⟩
    rw [call_go h.least_in rfl (st := [some (.d Tr.pane.enc), some (.d (nsD ns)), none, none, none]) rfl]
    match ns, hl with
    | [x], _ =>
      have i0 : idxR (.d (nsD [x])) (.d (.int 0)) = .ok (.d (ndD x)) := id rfl
      simp [f79_least_in, i0]; rfl
  | .cut s k a b, ns, n, hn, hl => by
    have hn' : a.count + b.count + 1 ≤ n := hn
    have ca := count_pos a
    have cb := count_pos b
    simp only [Tr.count] at hl
    obtain ⟨m, rfl⟩ : ∃ m, n = m + 2 := ⟨n - 2, by omega⟩
    have e0 := c_count h.count a (m + 1) (by omega)
    have e1 := c_least_in h a (ns.take a.count) (m + 1) (by omega) (by rw [List.length_take]; omega)
    have e2 := c_least_in h b (ns.drop a.count) (m + 1) (by omega) (by rw [List.length_drop]; omega)
    rw [call_go h.least_in rfl (st := [some (.d (Tr.cut s k a b).enc), some (.d (nsD ns)), none, none, none]) rfl]
    cases s <;> simp [f79_least_in, e0, e1, e2, setAll, lz, mx]
theorem ns_len (ns : List Nd) : bltR .len [.d (nsD ns)] = .ok (.d (.int ns.length)) := by
  have : bltR .len [.d (nsD ns)] = .ok (.d (.int (ns.map ndD).length)) := id rfl
  rw [this, List.length_map]
theorem c_fit (h : TZ T) (t : Tr) (ns : List Nd) (n : Nat) (hn : t.count + 1 ≤ n) (hl : ns.length = t.count) : call T n 109 [.d t.enc, .d (nsD ns)] = .ok (.d .none) := by
  obtain ⟨m, rfl⟩ : ∃ m, n = m + 1 := ⟨n - 1, by omega⟩
  have e0 := c_count h.count t m (by omega)
  rw [call_go h.fit rfl (st := [some (.d t.enc), some (.d (nsD ns))]) rfl]
  simp [f109_must_fit, e0, ns_len, hl]
theorem c_least_size (h : TZ T) (t : Tr) (ns : List Nd) (n : Nat) (hn : t.count + 2 ≤ n) (hl : ns.length = t.count) : call T n 90 [.d t.enc, .d (nsD ns)] = .ok (.d (wD (lz true t ns) (lz false t ns))) := by
  obtain ⟨m, rfl⟩ : ∃ m, n = m + 1 := ⟨n - 1, by omega⟩
  have e0 := c_fit h t ns m (by omega) hl
  have e1 := c_least_in h t ns m (by omega) hl
  rw [call_go h.least rfl (st := [some (.d t.enc), some (.d (nsD ns))]) rfl]
  simp [f90_least_size, e0, e1]
theorem wD_lz (t : Tr) (ns : List Nd) (s : Bool) : idxR (.d (wD (lz true t ns) (lz false t ns))) (.d (.int (if s = false then 1 else 0))) = .ok (.d (.int (lz s t ns))) := by
  cases s
  · exact wD_1 ..
  · exact wD_0 ..
theorem c_laid_in (h : TZ T) : ∀ (t : Tr) (ns : List Nd) (P : Pn) (n : Nat), t.count + 2 ≤ n → ns.length = t.count →
    call T n 80 [.d t.enc, .d (nsD ns), .d (wD P.w P.h)] = .ok (.d (laid t ns).enc)
  | .pane, ns, P, n, hn, hl => by
    obtain ⟨k, rfl⟩ : ∃ k, n = k + 1 := ⟨n - 1, by have := count_pos .pane; omega⟩
    rw [call_go h.laid_in rfl (st := [some (.d Tr.pane.enc), some (.d (nsD ns)), some (.d (wD P.w P.h)), none, none, none, none]) rfl]
    simp [f80_laid_in, laid]; rfl
  | .cut s k a b, ns, P, n, hn, hl => by
    have hn' : a.count + b.count + 2 ≤ n := hn
    have ca := count_pos a
    have cb := count_pos b
    simp only [Tr.count] at hl
    obtain ⟨m, rfl⟩ : ∃ m, n = m + 2 := ⟨n - 2, by omega⟩
    have e0 := c_count h.count a (m + 1) (by omega)
    have la : (ns.take a.count).length = a.count := by rw [List.length_take]; omega
    have e1 := c_least_in h a (ns.take a.count) (m + 1) (by omega) la
    have ep := c_parts' (n := m) h.parts P s (lz s a (ns.take a.count))
    have e3 := c_laid_in h a (ns.take a.count) (P.c1 s (P.lo s + lz s a (ns.take a.count))) (m + 1) (by omega) la
    have e4 := c_laid_in h b (ns.drop a.count) (P.c2 s (P.lo s + lz s a (ns.take a.count))) (m + 1) (by omega) (by rw [List.length_drop]; omega)
    rw [call_go h.laid_in rfl (st := [some (.d (Tr.cut s k a b).enc), some (.d (nsD ns)), some (.d (wD P.w P.h)), none, none, none, none]) rfl]
    simp [f80_laid_in, e0, e1, wD_lz, ep, e3, e4, laid]
    rfl
theorem c_laid_out (h : TZ T) (t : Tr) (ns : List Nd) (w g : Int) (n : Nat) (hn : t.count + 3 ≤ n) (hl : ns.length = t.count) (hw : lz true t ns ≤ w) (hg : lz false t ns ≤ g) : call T n 91 [.d t.enc, .d (nsD ns), .d (.int w), .d (.int g)] = .ok (.d (laid t ns).enc) := by
  obtain ⟨m, rfl⟩ : ∃ m, n = m + 1 := ⟨n - 1, by omega⟩
  have e0 := c_fit h t ns m (by omega) hl
  have e1 := c_least_in h t ns m (by omega) hl
  have e2 := c_laid_in h t ns ⟨0, 0, w, g⟩ m (by omega) hl
  have z1 : ¬ w < lz true t ns := by omega
  have z2 : ¬ g < lz false t ns := by omega
  rw [call_go h.laid rfl (st := [some (.d t.enc), some (.d (nsD ns)), some (.d (.int w)), some (.d (.int g)), none]) rfl]
  simp [f91_laid_out, e0, e1, z1, z2, e2]
end PP

set_option Elab.async false
set_option linter.all false
set_option autoImplicit false
set_option maxRecDepth 100000
set_option maxHeartbeats 2000000
namespace PP
open PySem
variable {T : Nat → Option Fn} {n : Nat}
def knD : Tr → D
  | .pane => .tuple [.str t_pane]
  | .cut s _ a b => .tuple [.str (kd s), knD a, knD b]
theorem knD_like : ∀ {t u : Tr}, t.like u → knD t = knD u
  | .pane, .pane, _ => rfl
  | .pane, .cut .., h => h.elim
  | .cut .., .pane, h => h.elim
  | .cut s k a b, .cut s' k' a' b', h => by
    simp only [Tr.like] at h
    obtain ⟨rfl, h1, h2⟩ := h
    simp only [knD, knD_like h1, knD_like h2]
theorem knD_plain : ∀ t : Tr, plain (knD t) = true ∧ (knD t).depth ≤ t.count
  | .pane => ⟨by decide +kernel, by decide +kernel⟩
  | .cut s k a b => by
    obtain ⟨p1, d1⟩ := knD_plain a
    obtain ⟨p2, d2⟩ := knD_plain b
    have ca := count_pos a
    have cb := count_pos b
    refine ⟨?_, ?_⟩
    · simp [knD, plain, plainAll, p1, p2, lim_eq]
    · simp only [knD, PyData.depth, PyData.depthAll, Tr.count]; omega
theorem c_kinds (h : T 88 = some f88_law_kinds) : ∀ (t : Tr) (n : Nat), t.count ≤ n → call T n 88 [.d t.enc] = .ok (.d (knD t))
  | .pane, n, hn => by
    obtain ⟨k, rfl⟩ : ∃ k, n = k + 1 := ⟨n - 1, by have := count_pos .pane; omega⟩
    rw [call_go h rfl (st := [some (.d Tr.pane.enc)]) rfl]
    simp [f88_law_kinds]
    rfl
  | .cut s k a b, n, hn => by
    have hn' : a.count + b.count ≤ n := hn
    have ca := count_pos a
    have cb := count_pos b
    obtain ⟨m, rfl⟩ : ∃ m, n = m + 1 := ⟨n - 1, by omega⟩
    have e1 := c_kinds h a m (by omega)
    have e2 := c_kinds h b m (by omega)
    rw [call_go h rfl (st := [some (.d (Tr.cut s k a b).enc)]) rfl]
    simp [f88_law_kinds, e1, e2, knD, tupG_3]
theorem lz_take (c : Bool) : ∀ (t : Tr) (ns : List Nd) (k : Nat), t.count ≤ k → lz c t (ns.take k) = lz c t ns
  | .pane, ns, k, hk => by
    simp only [Tr.count] at hk
    cases ns with
    | nil => simp
    | cons x xs =>
      obtain ⟨j, rfl⟩ : ∃ j, k = j + 1 := ⟨k - 1, by omega⟩
      rfl
  | .cut s _ a b, ns, k, hk => by
    simp only [Tr.count] at hk
    simp only [lz]
    have e1 : (ns.take k).take a.count = ns.take a.count := by rw [List.take_take, Nat.min_eq_left (by omega)]
    have e2 : (ns.take k).drop a.count = (ns.drop a.count).take (k - a.count) := by rw [List.drop_take]
    rw [e1, e2, lz_take c b _ _ (by omega)]
theorem c_chains (h : T 89 = some f89_law_chains) (c : Bool) : ∀ (t : Tr) (ns : List Nd) (n : Nat), t.count ≤ n → t.count ≤ ns.length →
    call T n 89 [.d t.enc, .d (nsD ns), .d (.int (if c = false then 1 else 0))] = .ok (.d (.tuple [.int (lz c t ns), nsD (ns.drop t.count)]))
  | .pane, ns, n, hn, hl => by
    obtain ⟨k, rfl⟩ : ∃ k, n = k + 1 := ⟨n - 1, by have := count_pos .pane; omega⟩
    rw [call_go h rfl (st := [some (.d Tr.pane.enc), some (.d (nsD ns)), some (.d (.int (if c = false then 1 else 0))), none, none, none]) rfl]
    match ns, hl with
    | x :: xs, _ =>
      have i0 : idxR (.d (nsD (x :: xs))) (.d (.int 0)) = .ok (.d (ndD x)) := idx0 ..
      have i1 : idxR (.d (ndD x)) (.d (.int (if c = false then 1 else 0))) = .ok (.d (.int (Nd.co c x))) := by
        cases c
        · exact wD_1 ..
        · exact wD_0 ..
      have sl : slcR (.d (nsD (x :: xs))) (some 1) none = .ok (.d (nsD xs)) := ns_drop (x :: xs) 1
      simp [f89_law_chains, i0, i1, sl, lz, Tr.count]
  | .cut s k a b, ns, n, hn, hl => by
    have hn' : a.count + b.count ≤ n := hn
    have ca := count_pos a
    have cb := count_pos b
    simp only [Tr.count] at hl
    obtain ⟨m, rfl⟩ : ∃ m, n = m + 1 := ⟨n - 1, by omega⟩
    have e1 := c_chains h c a ns m (by omega) (by omega)
    have e2 := c_chains h c b (ns.drop a.count) m (by omega) (by rw [List.length_drop]; omega)
    rw [List.drop_drop] at e2
    rw [call_go h rfl (st := [some (.d (Tr.cut s k a b).enc), some (.d (nsD ns)), some (.d (.int (if c = false then 1 else 0))), none, none, none]) rfl]
    cases s <;> cases c <;> simp [f89_law_chains, lz, lz_take, mx, Tr.count] at e1 e2 ⊢ <;> simp [e1, e2]
end PP

set_option Elab.async false
set_option linter.all false
set_option autoImplicit false
set_option maxRecDepth 100000
set_option maxHeartbeats 2000000
namespace PP
open PySem
variable {T : Nat → Option Fn} {n : Nat}
/-! ### moves -/
def wayC (b : Bool) : Nat := match b with
  | true => 50
  | false => 49
def wayS (p : List Bool) : Str := ⟨(p.map wayC).toArray⟩
def mwS : Mw → Str
  | .cross => t_cross
  | .left => t_left
  | .right => t_right
def optT : Option Tr → D
  | none => .none
  | some t => t.enc
def mvD (x : List Bool × Mw) : D := .tuple [.str (wayS x.1), .str (mwS x.2)]
structure TM (T : Nat → Option Fn) : Prop where
  here : T 123 = some f123_after_here
  move : T 124 = some f124_after_move
  from_ : T 125 = some f125_moves_from
  moves : T 126 = some f126_moves
  moved : T 127 = some f127_moved
@[simp] theorem pane_0 : idxR (.d Tr.pane.enc) (.d (.int 0)) = .ok (.d (.str t_pane)) := idx0 ..
@[simp] theorem enc_1 (s : Bool) (k : Int) (a b : Tr) : idxR (.d (Tr.cut s k a b).enc) (.d (.int 1)) = .ok (.d (.int k)) := idx1 ..
@[simp] theorem cut_2 (s : Bool) (k : Int) (a b : Tr) : slcR (.d (Tr.cut s k a b).enc) none (some 2) = .ok (.d (.tuple [.str (kd s), .int k])) := id rfl
@[simp] theorem pane_2 : slcR (.d Tr.pane.enc) none (some 2) = .ok (.d (.tuple [.str t_pane])) := id rfl
theorem kd_inj {s s' : Bool} : kd s = kd s' ↔ s = s' := by cases s <;> cases s' <;> decide
theorem eq_sk (s s' : Bool) (k k' : Int) : eqR (.d (.tuple [.str (kd s), .int k])) (.d (.tuple [.str (kd s'), .int k'])) = .ok (decide (s = s') && decide (k = k')) := by
  show Rs.ok (PyData.eqv (.str (kd s)) (.str (kd s')) && (PyData.eqv (.int k) (.int k') && true)) = _
  have : PyData.eqv (.str (kd s)) (.str (kd s')) = decide (s = s') := by cases s <;> cases s' <;> rfl
  rw [this]
  by_cases h : k = k' <;> simp [PyData.eqv, h]
theorem eq_kp (s : Bool) (k : Int) : eqR (.d (.tuple [.str (kd s), .int k])) (.d (.tuple [.str t_pane])) = .ok false := by
  cases s <;> rfl
theorem tup_tr (s : Bool) (k : Int) (a b : Tr) : tupG [.str (kd s), .int k, a.enc, b.enc] = .ok (.d (Tr.cut s k a b).enc) := id rfl
theorem kd_pane (s : Bool) : ¬ t_pane = kd s := by cases s <;> decide
def oth (s : Bool) : R := .d (.str (kd (!s)))
theorem dget_k (s : Bool) : dgetR [(t_side, .str t_stack), (t_stack, .str t_side)] (.d (.str (kd s))) = .ok (.d (.str (kd (!s)))) := by
  cases s <;> rfl
theorem c_after_here (h : TM T) (t : Tr) (m : Mw) : call T (n + 1) 123 [.d t.enc, .d (.str (mwS m))] = .ok (.d (optT (hereM m t))) := by
  rw [call_go h.here rfl (st := [some (.d t.enc), some (.d (.str (mwS m))), none, none, none, none]) rfl]
  cases t with
  | pane => cases m <;> simp [f123_after_here, hereM, optT]
  | cut s k a b =>
    cases m with
    | cross =>
      cases a with
      | pane => 
        have := kd_pane (!s)
        simp [f123_after_here, hereM, optT, mwS, dget_k, this]
      | cut s1 k1 a1 b1 =>
        by_cases e1 : s1 = !s
        · cases b with
          | pane => simp [f123_after_here, hereM, optT, mwS, dget_k, kd_inj, e1, eq_kp]
          | cut s2 k2 a2 b2 =>
            by_cases e2 : s2 = !s <;> by_cases e3 : k2 = k1
            · simp [f123_after_here, hereM, optT, mwS, dget_k, kd_inj, e1, e2, e3, eq_sk, tup_tr]
              rfl
            · have : ¬ k1 = k2 := fun z => e3 z.symm
              simp [f123_after_here, hereM, optT, mwS, dget_k, kd_inj, e1, e2, e3, this, eq_sk, tup_tr]
            · have : ¬ (!s) = s2 := fun z => e2 z.symm
              simp [f123_after_here, hereM, optT, mwS, dget_k, kd_inj, e1, e2, e3, this, eq_sk, tup_tr]
            · have : ¬ (!s) = s2 := fun z => e2 z.symm
              simp [f123_after_here, hereM, optT, mwS, dget_k, kd_inj, e1, e2, e3, this, eq_sk, tup_tr]
        · have : hereM .cross (.cut s k (.cut s1 k1 a1 b1) b) = none := by
            cases b with
            | pane => rfl
            | cut => simp [hereM, e1]
          rw [this]
          simp [f123_after_here, optT, mwS, dget_k, kd_inj, e1]
    | left =>
      cases b with
      | pane =>
        have := kd_pane s
        simp [f123_after_here, hereM, optT, mwS, this]
      | cut s' k' b1 c1 =>
        by_cases e : s' = s
        · subst e; simp [f123_after_here, hereM, optT, mwS, kd_inj, tup_tr]; rfl
        · simp [f123_after_here, hereM, optT, mwS, kd_inj, e, tup_tr]
    | right =>
      cases a with
      | pane =>
        have := kd_pane s
        simp [f123_after_here, hereM, optT, mwS, this]
      | cut s' k' b1 c1 =>
        by_cases e : s' = s
        · subst e; simp [f123_after_here, hereM, optT, mwS, kd_inj, tup_tr]; rfl
        · simp [f123_after_here, hereM, optT, mwS, kd_inj, e, tup_tr]
theorem way_len (p : List Bool) : (wayS p).length = p.length := by
  show ((p.map wayC).toArray).size = _
  simp
theorem way_0 (b : Bool) (p : List Bool) (hl : p.length ≤ 1000) : idxR (.d (.str (wayS (b :: p)))) (.d (.int 0)) = .ok (.d (.str (wayS [b]))) := by
  show (match L2.atI (wayS (b :: p)).cps.toList 0 with | some c => fit (wayS (b :: p)).length (Rs.ok (R.d (.str ⟨#[c]⟩))) | none => .bad) = _
  have : L2.atI (wayS (b :: p)).cps.toList 0 = some (wayC b) := by
    simp [wayS, L2.atI, L2.ixN]; try (rw [if_pos (by omega)]; rfl)
  rw [this]
  show fit _ _ = _
  rw [fit_ok (by rw [way_len, lim_eq]; simp; omega)]; rfl
theorem way_tl (b : Bool) (p : List Bool) (hl : p.length ≤ 1000) : slcR (.d (.str (wayS (b :: p)))) (some 1) none = .ok (.d (.str (wayS p))) := by
  show fit (wayS (b :: p)).length (Rs.ok (R.d (.str (L2.cutS (wayS (b :: p)) (some 1) none)))) = _
  rw [fit_ok (by rw [way_len, lim_eq]; simp; omega)]
  congr 3
  unfold L2.cutS
  have h1 : HT.sIx (wayS (b :: p)).length 0 (some 1) = 1 := by
    have := HT.sIx_nat (wayS (b :: p)).length 0 1
    rw [way_len] at *
    simp at this ⊢
    exact this
  have h2 : HT.sIx (wayS (b :: p)).length (wayS (b :: p)).length none = (wayS (b :: p)).length := rfl
  rw [h1, h2, way_len]
  simp [wayS]
  exact List.take_of_length_le (by simp)
theorem way_eq (b : Bool) (p : List Bool) : ¬ wayS (b :: p) = t_empty := by
  intro z
  have := congrArg (fun s : Str => s.cps.size) z
  simp [wayS] at this
theorem way_nil : wayS [] = t_empty := rfl
theorem in_12 (b : Bool) : inR (.d (.str (wayS [b]))) (.d (.tuple [.str t_1, .str t_2])) = .ok true := by cases b <;> rfl
theorem int_12 (b : Bool) : bltR .int [.d (.str (wayS [b]))] = .ok (.d (.int (if b then 2 else 1))) := by
  cases b
  · show (match PySem.intText? ⟨#[49]⟩ with | some n => if (⟨#[49]⟩ : Str).length ≤ 600 then Rs.ok (R.d (.int n)) else .bad | none => .bad) = _
    rw [show PySem.intText? ⟨#[49]⟩ = some 1 by decide +kernel]; rfl
  · show (match PySem.intText? ⟨#[50]⟩ with | some n => if (⟨#[50]⟩ : Str).length ≤ 600 then Rs.ok (R.d (.int n)) else .bad | none => .bad) = _
    rw [show PySem.intText? ⟨#[50]⟩ = some 2 by decide +kernel]; rfl
@[simp] theorem cut_lo3 (s : Bool) (k : Int) (a b : Tr) : slcR (.d (Tr.cut s k a b).enc) none (some 3) = .ok (.d (.tuple [.str (kd s), .int k, a.enc])) := id rfl
@[simp] theorem cut_hi3 (s : Bool) (k : Int) (a b : Tr) : slcR (.d (Tr.cut s k a b).enc) (some 3) none = .ok (.d (.tuple [b.enc])) := id rfl
@[simp] theorem cut_hi4 (s : Bool) (k : Int) (a b : Tr) : slcR (.d (Tr.cut s k a b).enc) (some 4) none = .ok (.d (.tuple [])) := id rfl
theorem is_opt (o : Option Tr) : isR (.d (optT o)) (.d .none) = .ok o.isNone := by
  cases o with
  | none => rfl
  | some t => cases t <;> rfl
theorem is_enc (t : Tr) : isR (.d t.enc) (.d .none) = .ok false := is_opt (some t)
theorem add_21 (a b c : D) : binR .add (.d (.tuple [a, b])) (.d (.tuple [c])) = .ok (.d (.tuple [a, b, c])) := id rfl
theorem add_31 (a b c d : D) : binR .add (.d (.tuple [a, b, c])) (.d (.tuple [d])) = .ok (.d (.tuple [a, b, c, d])) := id rfl
theorem add_40 (a b c d : D) : binR .add (.d (.tuple [a, b, c, d])) (.d (.tuple [])) = .ok (.d (.tuple [a, b, c, d])) := id rfl
theorem enc_cut (s : Bool) (k : Int) (a b : Tr) : (Tr.cut s k a b).enc = .tuple [.str (kd s), .int k, a.enc, b.enc] := rfl
theorem c_after_move (h : TM T) (m : Mw) : ∀ (p : List Bool) (t : Tr) (n : Nat), p.length + 2 ≤ n → p.length ≤ 1000 → call T n 124 [.d t.enc, .d (.str (wayS p)), .d (.str (mwS m))] = .ok (.d (optT (atM p m t)))
  | [], t, n, hn, hp => by
    obtain ⟨k, rfl⟩ : ∃ k, n = k + 2 := ⟨n - 2, by omega⟩
    have e := c_after_here (n := k) h t m
    rw [call_go h.move rfl (st := [some (.d t.enc), some (.d (.str (wayS []))), some (.d (.str (mwS m))), none, none]) rfl]
    simp [f124_after_move, way_nil, e, atM]
  | b :: p, .pane, n, hn, hp => by
    obtain ⟨k, rfl⟩ : ∃ k, n = k + 1 := ⟨n - 1, by omega⟩
    rw [call_go h.move rfl (st := [some (.d Tr.pane.enc), some (.d (.str (wayS (b :: p)))), some (.d (.str (mwS m))), none, none]) rfl]
    simp [f124_after_move, way_eq, atM, optT]
  | b :: p, .cut s k a c, n, hn, hp => by
    simp only [List.length_cons] at hn hp
    obtain ⟨j, rfl⟩ : ∃ j, n = j + 1 := ⟨n - 1, by omega⟩
    have e1 := way_0 b p (by omega)
    have e2 := way_tl b p (by omega)
    rw [call_go h.move rfl (st := [some (.d (Tr.cut s k a c).enc), some (.d (.str (wayS (b :: p)))), some (.d (.str (mwS m))), none, none]) rfl]
    cases b with
    | false =>
      have e3 := c_after_move h m p a j (by omega) (by omega)
      cases ho : atM p m a with
      | none =>
        rw [ho] at e3
        simp [f124_after_move, way_eq, e1, e2, in_12, int_12, e3, is_opt, atM, ho]; rfl
      | some u =>
        rw [ho] at e3
        simp [f124_after_move, way_eq, e1, e2, in_12, int_12, e3, is_opt, atM, ho, add_21, add_31, optT, is_enc]
        rfl
    | true =>
      have e3 := c_after_move h m p c j (by omega) (by omega)
      cases ho : atM p m c with
      | none =>
        rw [ho] at e3
        simp [f124_after_move, way_eq, e1, e2, in_12, int_12, e3, is_opt, atM, ho]; rfl
      | some u =>
        rw [ho] at e3
        simp [f124_after_move, way_eq, e1, e2, in_12, int_12, e3, is_opt, atM, ho, add_31, add_40, optT, is_enc]
        rfl
theorem way_app (p : List Bool) (b : Bool) (hl : p.length ≤ 1000) : binR .add (.d (.str (wayS p))) (.d (.str (wayS [b]))) = .ok (.d (.str (wayS (p ++ [b])))) := by
  show fit ((wayS p).length + (wayS [b]).length) (Rs.ok (R.d (.str (wayS p ++ wayS [b])))) = _
  rw [fit_ok (by rw [way_len, way_len, lim_eq]; simp; omega)]
  congr 3
  show (⟨(p.map wayC).toArray ++ ([b].map wayC).toArray⟩ : Str) = ⟨((p ++ [b]).map wayC).toArray⟩
  congr 1
  simp
theorem mvs_len : ∀ (t : Tr) (p : List Bool), (mvsF t p).length + 3 ≤ 3 * t.count
  | .pane, p => by simp [mvsF, Tr.count]
  | .cut s k a b, p => by
    have h1 := mvs_len a (p ++ [false])
    have h2 := mvs_len b (p ++ [true])
    have h3 : (mwL.filter fun m => (hereM m (.cut s k a b)).isSome).length ≤ 3 := List.length_filter_le ..
    simp only [mvsF, List.length_append, List.length_map, Tr.count]
    omega
theorem add_LL {xs ys : List D} (h : xs.length + ys.length ≤ lim) : binR .add (.d (.list xs)) (.l ys) = .ok (.l (xs ++ ys)) := by
  show fit (xs.length + ys.length) (Rs.ok (R.l (xs ++ ys))) = _
  rw [fit_ok h]
theorem add_ll2 {xs ys : List D} (h : xs.length + ys.length ≤ lim) : binR .add (.l xs) (.l ys) = .ok (.l (xs ++ ys)) := by
  show fit (xs.length + ys.length) (Rs.ok (R.l (xs ++ ys))) = _
  rw [fit_ok h]
theorem c_moves_from (h : TM T) : ∀ (t : Tr) (p : List Bool) (n : Nat), t.count + 1 ≤ n → p.length + t.count ≤ 1000 → call T n 125 [.d t.enc, .d (.str (wayS p))] = .ok (.l ((mvsF t p).map mvD))
  | .pane, p, n, hn, hp => by
    obtain ⟨k, rfl⟩ : ∃ k, n = k + 1 := ⟨n - 1, by omega⟩
    rw [call_go h.from_ rfl (st := [some (.d Tr.pane.enc), some (.d (.str (wayS p))), none, none]) rfl]
    simp [f125_moves_from, mvsF]
  | .cut s k a b, p, n, hn, hp => by
    have ca := count_pos a
    have cb := count_pos b
    simp only [Tr.count] at hn hp
    obtain ⟨j, rfl⟩ : ∃ j, n = j + 2 := ⟨n - 2, by omega⟩
    have e1 := c_moves_from h a (p ++ [false]) (j + 1) (by omega) (by simp; omega)
    have e2 := c_moves_from h b (p ++ [true]) (j + 1) (by omega) (by simp; omega)
    have e3 := fun m => c_after_here (n := j) h (.cut s k a b) m
    have w1 := way_app p false (by omega)
    have w2 := way_app p true (by omega)
    have l1 := mvs_len a (p ++ [false])
    have l2 := mvs_len b (p ++ [true])
    have l3 : (mwL.filter fun m => (hereM m (.cut s k a b)).isSome).length ≤ 3 := List.length_filter_le ..
    rw [call_go h.from_ rfl (st := [some (.d (Tr.cut s k a b).enc), some (.d (.str (wayS p))), none, none]) rfl]
    simp [f125_moves_from]
    rw [lcf_nm (fun m => PyData.str (mwS m)) (fun m => (hereM m (.cut s k a b)).isSome) (fun m => mvD (p, m)) mwL (by simp [mwL, mwS]) (by simp [mwL, lim_eq]) (by
      intro m _
      simp [e3, is_opt, mvD])]
    have w1' : binR .add (.d (.str (wayS p))) (.d (.str t_1)) = .ok (.d (.str (wayS (p ++ [false])))) := w1
    have w2' : binR .add (.d (.str (wayS p))) (.d (.str t_2)) = .ok (.d (.str (wayS (p ++ [true])))) := w2
    simp [w1', w2', e1, e2]
    rw [add_LL (by simp [lim_eq]; omega)]
    simp
    rw [add_ll2 (by simp [lim_eq]; omega)]
    simp [mvsF]
def mvLe (a b : List Bool × Mw) : Bool := PySem.W.dataLe false id (mvD a) (mvD b)
def mvsT (t : Tr) : List (List Bool × Mw) := (mvsF t []).mergeSort mvLe
theorem mem_mvsT {t : Tr} {x : List Bool × Mw} : x ∈ mvsT t ↔ (atM x.1 x.2 t).isSome = true := by
  unfold mvsT
  rw [List.mem_mergeSort, mem_mvsF]
  simp
theorem sort_mvs (as : List (List Bool × Mw)) (hl : as.length ≤ lim) : bltR .sorted [.l (as.map mvD)] = .ok (.l ((as.mergeSort mvLe).map mvD)) := by
  show (sortR (as.map mvD) >>= fun ys => Rs.ok (R.l ys)) = _
  have h1 : sortOk (as.map mvD) = true := by
    unfold sortOk
    simp only [Bool.and_eq_true, Bool.or_eq_true, List.all_eq_true, List.mem_map, decide_eq_true_eq, List.length_map]
    refine ⟨⟨⟨?_, ?_⟩, hl⟩, .inl ?_⟩
    · rintro _ ⟨p, _, rfl⟩ _ ⟨q, _, rfl⟩
      rfl
    · rintro _ ⟨p, _, rfl⟩
      show 1 + max 0 (max 0 0) ≤ 60
      decide
    · rintro _ ⟨p, hp, rfl⟩
      rfl
  have h2 : sortR (as.map mvD) = .ok ((as.mergeSort mvLe).map mvD) := by
    unfold sortR
    rw [h1, if_pos rfl, PySem.W.sort_maps (r := mvLe) (s := PySem.W.dataLe false id) mvD (l := as) (fun a _ b _ => rfl)]
    rfl
  rw [h2]; rfl
theorem c_moves (h : TM T) (t : Tr) (n : Nat) (hn : t.count + 2 ≤ n) (hc : t.count ≤ 900) : call T n 126 [.d t.enc] = .ok (.d (.tuple ((mvsT t).map mvD))) := by
  obtain ⟨k, rfl⟩ : ∃ k, n = k + 1 := ⟨n - 1, by omega⟩
  have e : call T k 125 [.d t.enc, .d (.str t_empty)] = _ := c_moves_from h t [] k (by omega) (by simp; omega)
  have := mvs_len t []
  rw [call_go h.moves rfl (st := [some (.d t.enc)]) rfl]
  simp [f126_moves, e, sort_mvs _ (show (mvsF t []).length ≤ lim by rw [lim_eq]; omega), mvsT]
theorem at_len : ∀ (p : List Bool) (m : Mw) (t : Tr), (atM p m t).isSome = true → p.length < t.count
  | [], m, t, _ => count_pos t
  | _ :: _, m, .pane, h => by simp [atM] at h
  | false :: p, m, .cut s k a b, h => by
    simp only [atM, Option.isSome_map] at h
    have := at_len p m a h
    have := count_pos b
    simp only [List.length_cons, Tr.count]; omega
  | true :: p, m, .cut s k a b, h => by
    simp only [atM, Option.isSome_map] at h
    have := at_len p m b h
    have := count_pos a
    simp only [List.length_cons, Tr.count]; omega
theorem in_mv {x : List Bool × Mw} {as : List (List Bool × Mw)} (h : x ∈ as) : inR (.d (mvD x)) (.d (.tuple (as.map mvD))) = .ok true := by
  show (if (R.d (mvD x)).isD && decide ((mvD x).depth ≤ 60) then Rs.ok ((as.map mvD).any fun z => PyData.eqv z (mvD x)) else .bad) = _
  have h1 : (as.map mvD).any (fun z => PyData.eqv z (mvD x)) = true := by
    rw [List.any_eq_true]
    refine ⟨mvD x, List.mem_map.mpr ⟨x, h, rfl⟩, ?_⟩
    show (PyData.eqv (.str (wayS x.1)) (.str (wayS x.1)) && (PyData.eqv (.str (mwS x.2)) (.str (mwS x.2)) && true)) = true
    simp [PyData.eqv]
  rw [h1]; rfl
theorem c_moved (h : TM T) (t : Tr) {x : List Bool × Mw} (hx : x ∈ mvsT t) (n : Nat) (hn : t.count + 3 ≤ n) (hc : t.count ≤ 900) : call T n 127 [.d t.enc, .d (mvD x)] = .ok (.d (optT (atM x.1 x.2 t))) := by
  obtain ⟨k, rfl⟩ : ∃ k, n = k + 1 := ⟨n - 1, by omega⟩
  have e1 := c_moves h t k (by omega) hc
  have hl := at_len _ _ _ (mem_mvsT.mp hx)
  have e2 := c_after_move h x.2 x.1 t k (by omega) (by omega)
  have i0 : idxR (.d (mvD x)) (.d (.int 0)) = .ok (.d (.str (wayS x.1))) := id rfl
  have i1 : idxR (.d (mvD x)) (.d (.int 1)) = .ok (.d (.str (mwS x.2))) := id rfl
  rw [call_go h.moved rfl (st := [some (.d t.enc), some (.d (mvD x))]) rfl]
  simp [f127_moved, e1, in_mv hx, i0, i1, e2]
end PP

set_option Elab.async false
set_option linter.all false
set_option autoImplicit false
set_option maxRecDepth 100000
set_option maxHeartbeats 4000000
namespace PP
open PySem
variable {T : Nat → Option Fn} {n : Nat}
structure K20 (T : Nat → Option Fn) : Prop where
  b : TB T
  z : TZ T
  m : TM T
  turn : T 117 = some f117_turned_tree
  kinds : T 88 = some f88_law_kinds
  chains : T 89 = some f89_law_chains
theorem add_ns {ns : List Nd} (h : ns.length ≤ 1000) (a b : Int) : binR .add (.d (nsD ns)) (.d (.tuple [wD a b])) = .ok (.d (nsD (ns ++ [(a, b)]))) := by
  show fit ((ns.map ndD).length + 1) (Rs.ok (R.d (.tuple (ns.map ndD ++ [wD a b])))) = _
  rw [fit_ok (by rw [List.length_map, lim_eq]; omega)]
  simp [nsD, ndD]
theorem idx_ns {ns : List Nd} {j : Nat} {d : Nd} (h : ns[j]? = some d) : idxR (.d (nsD ns)) (.d (.int j)) = .ok (.d (ndD d)) := by
  have e : L2.atI (ns.map ndD) (j : Int) = some (ndD d) := L2.atI_nat (by rw [List.getElem?_map, h]; rfl)
  show (match L2.atI (ns.map ndD) (j : Int) with | some x => Rs.ok (R.d x) | none => .bad) = _
  rw [e]
theorem filter_no {α : Type} : ∀ l : List α, l.filter (fun _ => false) = []
  | [] => rfl
  | _ :: l => by rw [List.filter_cons_of_neg (by simp), filter_no l]
@[simp] theorem nd_0 (d : Nd) : idxR (.d (ndD d)) (.d (.int 0)) = .ok (.d (.int d.1)) := wD_0 ..
@[simp] theorem nd_1 (d : Nd) : idxR (.d (ndD d)) (.d (.int 1)) = .ok (.d (.int d.2)) := wD_1 ..
theorem rev_nd (d : Nd) : revR (.d (ndD d)) = .ok (.d (ndD (swN d))) := id rfl
theorem rev_ns (ns : List Nd) : revR (.d (nsD ns)) = .ok (.d (nsD ns.reverse)) := by
  show Rs.ok (R.d (.tuple (ns.map ndD).reverse)) = _
  rw [nsD, List.map_reverse]
theorem eq_wd (a b : Int) : eqR (.d (wD a b)) (.d (wD a b)) = .ok true := eq_refl' (by simp [wD, plain, plainAll, lim_eq]) (by simp [wD, PyData.depth, PyData.depthAll])
theorem tup_sw (ns : List Nd) : PyData.tuple (ns.map fun d => ndD (swN d)) = nsD (ns.map swN) := by
  simp [nsD, List.map_map, Function.comp_def]
theorem k20_turn (h : K20 T) {w g : Int} (t : Tr) (hc : t.count ≤ 7) (ns : List Nd) (hn : ns.length = t.count) (s0 : Option R) (k cell : Int) (v6 v7 v8 v9 v10 v11 v12 v13 v14 v15 : Option R) :
    Nx (fun v : Option R × Option R × Option R × Option R × Option R × Option R × Option R × Option R × Option R × Option R => [s0, some (.d (.int k)), some (.d (.int cell)), some (.d (wD w g)), some (.d t.enc), some (.d (nsD ns)), v.1, v.2.1, v.2.2.1, v.2.2.2.1, v.2.2.2.2.1, v.2.2.2.2.2.1, v.2.2.2.2.2.2.1, v.2.2.2.2.2.2.2.1, v.2.2.2.2.2.2.2.2.1, v.2.2.2.2.2.2.2.2.2, none]) (fun _ => True)
      (xs (call T 59) (tl (tl (tl (tl (tl (forB (hd f128_law.body)))))))
        [s0, some (.d (.int k)), some (.d (.int cell)), some (.d (wD w g)), some (.d t.enc), some (.d (nsD ns)), v6, v7, v8, v9, v10, v11, v12, v13, v14, v15, none]) := by
  have e90 := c_least_size h.z t ns 59 (by omega) hn
  have c0 := c_chains h.chains true t ns 59 (by omega) (by omega)
  have c1 := c_chains h.chains false t ns 59 (by omega) (by omega)
  simp only [Bool.true_eq_false, if_false, if_true] at c0 c1
  obtain ⟨m1, em1, a1, a2⟩ := c_mix' (n := 58) h.b cell (p := 9649) (m := 4) (by decide) (by decide) (by decide)
  obtain ⟨m2, em2, b1, b2⟩ := c_mix' (n := 58) h.b cell (p := 9643) (m := 4) (by decide) (by decide) (by decide)
  have e91 := c_laid_out h.z t ns (lz true t ns + m1) (lz false t ns + m2) 59 (by omega) hn (by omega) (by omega)
  have lc : (laid t ns).count = t.count := like_count (laid_like t ns)
  have e7 := c_lpanes' h.b (laid t ns) 59 (lz true t ns + m1) (lz false t ns + m2) (by omega) (by omega)
  have room := laid_room t ns ⟨0, 0, lz true t ns + m1, lz false t ns + m2⟩ hn (by show _ ≤ lz true t ns + m1; omega) (by show _ ≤ lz false t ns + m2; omega)
  have pl : ((laid t ns).pns ⟨0, 0, lz true t ns + m1, lz false t ns + m2⟩).length = t.count := by rw [pns_len, lc]
  have k1 := c_kinds h.kinds (laid t ns) 59 (by omega)
  have k2 := c_kinds h.kinds t 59 (by omega)
  rw [knD_like (laid_like t ns)] at k1
  have ekk := eq_refl' (knD_plain t).1 (Nat.le_trans (knD_plain t).2 (by omega))
  have e91' := c_laid_out h.z (laid t ns) ns (lz true t ns + m1) (lz false t ns + m2) 59 (by omega) (by omega) (by rw [lz_like true ns (laid_like t ns)]; omega) (by rw [lz_like false ns (laid_like t ns)]; omega)
  rw [laid_laid] at e91'
  have ett := eq_tr (laid t ns) (by omega)
  have eo : call T 59 117 [.d t.enc, .d (wD w g), .d (.str t_over)] = _ := c_turned_tree h.z.parts h.turn ⟨true, false, false⟩ t ⟨0, 0, w, g⟩ 59 (by omega)
  have eh : call T 59 117 [.d t.enc, .d (wD w g), .d (.str t_half)] = _ := c_turned_tree h.z.parts h.turn ⟨false, true, true⟩ t ⟨0, 0, w, g⟩ 59 (by omega)
  have lo := c_least_size h.z (t.turn ⟨true, false, false⟩ ⟨0, 0, w, g⟩) (ns.map swN) 59 (by rw [turn_count]; omega) (by rw [turn_count, List.length_map]; omega)
  rw [lz_over true t _ ns hn, lz_over false t _ ns hn] at lo
  have lh := c_least_size h.z (t.turn ⟨false, true, true⟩ ⟨0, 0, w, g⟩) ns.reverse 59 (by rw [turn_count]; omega) (by rw [turn_count, List.length_reverse]; omega)
  rw [lz_half true t _ ns hn, lz_half false t _ ns hn] at lh
  simp only [Bool.not_true, Bool.not_false] at lo
  have e126 := c_moves h.m t 59 (by omega) (by omega)
  have s4 : slcR (.d (.tuple ((mvsT t).map mvD))) none (some 4) = .ok (.d (.tuple (((mvsT t).take 4).map mvD))) := by
    have := slc_take ((mvsT t).map mvD) 4
    rw [← List.map_take] at this
    exact this
  have eLL : eqR (.l []) (.l []) = .ok true := id rfl
  generalize hW : lz true t ns = wide at *
  generalize hH : lz false t ns = high at *
  simp only [f128_law, hd, tl, forB]
  simp [e90, c0, c1, eq_wd, em1, em2, e91, e7]
  rw [lcf_tp (fun a : Nat × Pn => PyData.int a.1) (fun a => a.2.D) (fun _ => false) (fun _ => PyData.none) (enumP 0 ((laid t ns).pns ⟨0, 0, wide + m1, high + m2⟩)) (by
      simp
      show enumR (.d (.list _)) = _
      show Rs.ok (enumL 0 _) = _
      rw [enumL_P]) (by rw [enumP_len, pl, lim_eq]; omega) (by
      intro a ha
      obtain ⟨_, ha⟩ := mem_enumP.mp ha
      rw [Nat.sub_zero] at ha
      have hj : a.1 < ns.length := by
        have := (List.getElem?_eq_some_iff.mp ha).1
        omega
      have hd : ns[a.1]? = some ns[a.1] := List.getElem?_eq_getElem hj
      obtain ⟨r1, r2⟩ := room a.1 a.2 _ ha hd
      have ei := idx_ns hd
      have z1 : ¬ a.2.w < (ns[a.1]).1 := by omega
      have z2 : ¬ a.2.h < (ns[a.1]).2 := by omega
      simp [ei, z1, z2])]
  rw [filter_no]
  simp [eLL, k1, k2, ekk, e91', ett, eo]
  rw [lc_nm ndD (fun d => ndD (swN d)) ns (by simp [nsD]) (by rw [lim_eq]; omega) (by intro d _; simp [rev_nd])]
  simp [tup_sw, lo, eq_wd, eh, rev_ns, lh]
  refine for_go (Nx _ _) (fun z => seqK _ _ z) (V := Option R) mvD ((mvsT t).take 4)
    (fun pre v => [s0, some (.d (.int k)), some (.d (.int cell)), some (.d (wD w g)), some (.d t.enc), some (.d (nsD ns)), v6, some (.d (wD (wide + m1) (high + m2))), some (.d (laid t ns).enc), some (.d (.list (((laid t ns).pns ⟨0, 0, wide + m1, high + m2⟩).map Pn.D))), some (.d (t.turn ⟨true, false, false⟩ ⟨0, 0, w, g⟩).enc), some (.d (t.turn ⟨false, true, true⟩ ⟨0, 0, w, g⟩).enc), v, v13, some (.d (.int wide)), some (.d (.int high)), none]) (fun _ _ => True) v12
    ?h1 rfl trivial ?_ ?_
  case h1 => simp [e126, s4]
  · rintro pre ⟨p, m⟩ post v hpre -
    have hx : (p, m) ∈ mvsT t := List.mem_of_mem_take (by rw [← hpre]; simp : (p, m) ∈ (mvsT t).take 4)
    have i1 : idxR (.d (mvD (p, m))) (.d (.int 1)) = .ok (.d (.str (mwS m))) := id rfl
    have e127 := c_moved h.m t hx 59 (by omega) (by omega)
    have hs := mem_mvsT.mp hx
    obtain ⟨u, hu⟩ := Option.isSome_iff_exists.mp hs
    simp only at hu e127
    by_cases hm : m = .cross
    · subst hm
      simp [i1, mwS]
      exact Nx.mk _ rfl trivial
    · obtain ⟨q1, q2⟩ := at_lz true hm p t u ns hu
      obtain ⟨_, q3⟩ := at_lz false hm p t u ns hu
      have eu := c_least_size h.z u ns 59 (by omega) (by omega)
      rw [hu] at e127
      rw [q2, q3, hW, hH] at eu
      have e127' : call T 59 127 [.d t.enc, .d (mvD (p, m))] = .ok (.d u.enc) := e127
      have hne : ¬ mwS m = t_cross := by cases m <;> first | exact absurd rfl hm | decide
      simp [i1, hne, e127', eu, eq_wd]
      exact Nx.mk _ rfl trivial
  · rintro v -
    simp
    exact Nx.mk (_, _, _, _, _, _, _, _, _, _) rfl trivial
theorem k20_true (h : K20 T) (hl : T 128 = some f128_law) (ns : List Int) : call T 60 128 [.s (ns.map PyData.int)] = .ok (.d (.bool true)) := by
  rw [call_go hl rfl (st := [some (.s (ns.map PyData.int)), none, none, none, none, none, none, none, none, none, none, none, none, none, none, none, none]) rfl]
  simp [f128_law]
  refine for_go (· = _) (fun z => outK (seqK _ _ z)) (V := Option R × Option R × Option R × Option R × Option R × Option R × Option R × Option R × Option R × Option R × Option R × Option R × Option R × Option R × Option R) PyData.int (irange 0 10)
    (fun pre v => [some (.s (ns.map PyData.int)), v.1, v.2.1, v.2.2.1, v.2.2.2.1, v.2.2.2.2.1, v.2.2.2.2.2.1, v.2.2.2.2.2.2.1, v.2.2.2.2.2.2.2.1, v.2.2.2.2.2.2.2.2.1, v.2.2.2.2.2.2.2.2.2.1, v.2.2.2.2.2.2.2.2.2.2.1, v.2.2.2.2.2.2.2.2.2.2.2.1, v.2.2.2.2.2.2.2.2.2.2.2.2.1, v.2.2.2.2.2.2.2.2.2.2.2.2.2.1, v.2.2.2.2.2.2.2.2.2.2.2.2.2.2, none]) (fun _ _ => True) (none, none, none, none, none, none, none, none, none, none, none, none, none, none, none)
    (by simp; exact rngF_ok (j := 10) (by decide) (by decide)) rfl trivial ?_ ?_
  · rintro pre i post ⟨v1, v2, v3, v4, v5, v6, v7, v8, v9, v10, v11, v12, v13, v14, v15⟩ hpre -
    have hi : i ∈ irange 0 10 := by rw [← hpre]; simp
    rw [mem_irange] at hi
    obtain ⟨c, ec⟩ := c_cell' (n := 58) h.b ns (k := i % 9) (by omega)
    have h31 := mul_ii' (i := 31) (j := i) (by decide)
    obtain ⟨w, g, ew, ⟨w1, w2⟩, ⟨g1, g2⟩⟩ := c_window' (n := 57) h.b (c + 31 * i)
    obtain ⟨t, et, _, hc⟩ := c_tree' h.b 7 59 (c + 31 * i) w g w1 g1 (by omega) (by omega)
    have hc7 : t.count ≤ 7 := by omega
    have e7 := c_lpanes' h.b t 59 w g (by omega) (by omega)
    have pl : ((t.pns ⟨0, 0, w, g⟩).length : Int) = t.count := by rw [pns_len]
    simp [ec, h31, ew, et, -List.length_map]
    refine for_go (Nx _ _) (fun z => seqK _ _ z) (V := List Nd × Option R × Option R) PyData.int (irange 0 t.count)
      (fun pre v => [some (.s (ns.map PyData.int)), some (.d (.int i)), some (.d (.int (c + 31 * i))), some (.d (wD w g)), some (.d t.enc), some (.d (nsD v.1)), v.2.1, v7, v8, v9, v10, v11, v12, v.2.2, v14, v15, none]) (fun pre v => v.1.length = pre.length) ([], v6, v13)
      ?h1 rfl rfl ?_ ?_
    case h1 =>
      simp [e7, pl]
      exact rngF_ok (by omega) (by omega)
    · rintro pre' j post' ⟨ms, u6, u13⟩ hpre' hms
      have hj : j ∈ irange 0 t.count := by rw [← hpre']; simp
      rw [mem_irange] at hj
      have hl7 : pre'.length ≤ 7 := by
        have := congrArg List.length hpre'
        rw [len_irange] at this
        simp at this
        omega
      have a7 := mul_ii' (i := 7) (j := j) (by decide)
      have a11 := mul_ii' (i := 11) (j := j) (by decide)
      obtain ⟨x, ex, x1, x2⟩ := c_mix' (n := 58) h.b (c + 31 * i + 7 * j) (p := 9679) (m := 9) (by decide) (by decide) (by decide)
      obtain ⟨y, ey, y1, y2⟩ := c_mix' (n := 58) h.b (c + 31 * i + 11 * j) (p := 9677) (m := 9) (by decide) (by decide) (by decide)
      have ea := add_ns (ns := ms) (by have : ms.length = pre'.length := hms; omega) (1 + x) (1 + y)
      simp [a7, a11, ex, ey, ea]
      refine Nx.mk (_, _, _) rfl ?_
      simp only [List.length_append, List.length_cons, List.length_nil] at hms ⊢
      omega
    · rintro ⟨ms, u6, u13⟩ hms
      simp only at hms
      rw [len_irange] at hms
      obtain ⟨v, ev, -⟩ := k20_turn h (w := w) (g := g) t hc7 ms (by omega) (some (.s (ns.map PyData.int))) i (c + 31 * i) u6 v7 v8 v9 v10 v11 v12 u13 v14 v15
      simp only [f128_law, hd, tl, forB] at ev
      rw [seqK_nx, ev]
      exact Nx.mk (_, _, _, _, _, _, _, _, _, _, _, _, _, _, _) rfl trivial
  · rintro ⟨v1, v2, v3, v4, v5, v6, v7, v8, v9, v10, v11, v12, v13, v14, v15⟩ -
    simp
end PP

set_option Elab.async false
set_option linter.all false
set_option autoImplicit false
set_option maxRecDepth 100000
set_option maxHeartbeats 4000000
namespace PP
open PySem
/-! ### refusals -/
section
variable {α β γ δ : Type} {C : Nat → List R → Rs R} {ρ : Sto}
@[simp] theorem b1_err (c : Nat) (f : α → Rs β) : b1 (.err c) f = .err c := id rfl
@[simp] theorem b2_err1 (c : Nat) (n : Rs β) (f : α → β → Rs γ) : b2 (.err c) n f = .err c := id rfl
@[simp] theorem b2_err2 (c : Nat) (a : α) (f : α → β → Rs γ) : b2 (.ok a) (.err c) f = .err c := id rfl
@[simp] theorem seqK_err (ss : Sms) (c : Nat) : seqK C ss (.err c) = .err c := id rfl
@[simp] theorem outK_err (c : Nat) : outK (.err c) = .err c := id rfl
@[simp] theorem ifK_err (a b : Sms) (c : Nat) : ifK C a b ρ (.err c) = .err c := id rfl
@[simp] theorem x1_tryw (i : Nat) (b : Sms) : x1 C (.tryw i b) ρ = tryS (xs C b ρ) := by rw [x1]
@[simp] theorem tryS_ok (o : Out) : tryS (.ok o) = .ok o := id rfl
end
theorem tryS_5 : tryS (.err 5) = .ok (.rt (.d (.str t_no_20_room))) := by
  show Rs.ok (Out.rt (R.d (.str (Str.ofString "no room")))) = _
  rw [show Str.ofString "no room" = t_no_20_room by decide +kernel]
theorem tryS_6 : tryS (.err 6) = .ok (.rt (.d (.str t_no_20_needs))) := by
  show Rs.ok (Out.rt (R.d (.str (Str.ofString "no needs")))) = _
  rw [show Str.ofString "no needs" = t_no_20_needs by decide +kernel]
variable {T : Nat → Option Fn} {n : Nat}
theorem e_fit (h : TZ T) (t : Tr) (ns : List Nd) (n : Nat) (hn : t.count + 1 ≤ n) (hl : ¬ ns.length = t.count) : call T n 109 [.d t.enc, .d (nsD ns)] = .err 6 := by
  obtain ⟨m, rfl⟩ : ∃ m, n = m + 1 := ⟨n - 1, by omega⟩
  have e0 := c_count h.count t m (by omega)
  have hl' : ¬ (ns.length : Int) = t.count := by omega
  rw [call_go h.fit rfl (st := [some (.d t.enc), some (.d (nsD ns))]) rfl]
  simp [f109_must_fit, e0, ns_len, hl']
theorem e_least_size (h : TZ T) (t : Tr) (ns : List Nd) (n : Nat) (hn : t.count + 2 ≤ n) (hl : ¬ ns.length = t.count) : call T n 90 [.d t.enc, .d (nsD ns)] = .err 6 := by
  obtain ⟨m, rfl⟩ : ∃ m, n = m + 1 := ⟨n - 1, by omega⟩
  have e0 := e_fit h t ns m (by omega) hl
  rw [call_go h.least rfl (st := [some (.d t.enc), some (.d (nsD ns))]) rfl]
  simp [f90_least_size, e0]
theorem e_laid_out (h : TZ T) (t : Tr) (ns : List Nd) (w g : Int) (n : Nat) (hn : t.count + 3 ≤ n) (hl : ¬ ns.length = t.count) : call T n 91 [.d t.enc, .d (nsD ns), .d (.int w), .d (.int g)] = .err 6 := by
  obtain ⟨m, rfl⟩ : ∃ m, n = m + 1 := ⟨n - 1, by omega⟩
  have e0 := e_fit h t ns m (by omega) hl
  rw [call_go h.laid rfl (st := [some (.d t.enc), some (.d (nsD ns)), some (.d (.int w)), some (.d (.int g)), none]) rfl]
  simp [f91_laid_out, e0]
theorem e_room (h : TZ T) (t : Tr) (ns : List Nd) (w g : Int) (n : Nat) (hn : t.count + 3 ≤ n) (hl : ns.length = t.count) (hw : w < lz true t ns ∨ g < lz false t ns) : call T n 91 [.d t.enc, .d (nsD ns), .d (.int w), .d (.int g)] = .err 5 := by
  obtain ⟨m, rfl⟩ : ∃ m, n = m + 1 := ⟨n - 1, by omega⟩
  have e0 := c_fit h t ns m (by omega) hl
  have e1 := c_least_in h t ns m (by omega) hl
  rw [call_go h.laid rfl (st := [some (.d t.enc), some (.d (nsD ns)), some (.d (.int w)), some (.d (.int g)), none]) rfl]
  by_cases z1 : w < lz true t ns
  · simp [f91_laid_out, e0, e1, z1]
  · have z2 : g < lz false t ns := by omega
    simp [f91_laid_out, e0, e1, z1, z2]
structure K19 (T : Nat → Option Fn) : Prop where
  b : TB T
  z : TZ T
  same : T 24 = some f24_law_same
  told : T 136 = some f136_law_told
  needed : T 81 = some f81_law_needed
  laid : T 82 = some f82_law_laid
theorem told_least (h : K19 T) (t : Tr) (ns : List Nd) (w g : Int) (n : Nat) (hn : t.count + 4 ≤ n) : call T n 136 [.d (.str t_least), .d t.enc, .d (nsD ns), .d (.int w), .d (.int g)] = .ok (.d (if ns.length = t.count then wD (lz true t ns) (lz false t ns) else .str t_no_20_needs)) := by
  obtain ⟨m, rfl⟩ : ∃ m, n = m + 1 := ⟨n - 1, by omega⟩
  rw [call_go h.told rfl (st := [some (.d (.str t_least)), some (.d t.enc), some (.d (nsD ns)), some (.d (.int w)), some (.d (.int g)), none]) rfl]
  by_cases hl : ns.length = t.count
  · have e := c_least_size h.z t ns m (by omega) hl
    simp [f136_law_told, e, hl]
  · have e := e_least_size h.z t ns m (by omega) hl
    simp [f136_law_told, e, hl, tryS_6]
theorem told_laid (h : K19 T) (t : Tr) (ns : List Nd) (w g : Int) (n : Nat) (hn : t.count + 4 ≤ n) : call T n 136 [.d (.str t_laid), .d t.enc, .d (nsD ns), .d (.int w), .d (.int g)] = .ok (.d (if ns.length = t.count then (if w < lz true t ns ∨ g < lz false t ns then .str t_no_20_room else (laid t ns).enc) else .str t_no_20_needs)) := by
  obtain ⟨m, rfl⟩ : ∃ m, n = m + 1 := ⟨n - 1, by omega⟩
  have hne : ¬ t_laid = t_least := by decide
  rw [call_go h.told rfl (st := [some (.d (.str t_laid)), some (.d t.enc), some (.d (nsD ns)), some (.d (.int w)), some (.d (.int g)), none]) rfl]
  by_cases hl : ns.length = t.count
  · by_cases hr : w < lz true t ns ∨ g < lz false t ns
    · have e := e_room h.z t ns w g m (by omega) hl hr
      simp [f136_law_told, e, hl, hr, tryS_5, hne]
    · have e := c_laid_out h.z t ns w g m (by omega) hl (by omega) (by omega)
      simp [f136_law_told, e, hl, hr, hne]
  · have e := e_laid_out h.z t ns w g m (by omega) hl
    simp [f136_law_told, e, hl, tryS_6, hne]
theorem c_needed (h : T 81 = some f81_law_needed) : ∀ (t : Tr) (ns : List Nd) (n : Nat), t.count ≤ n → t.count ≤ ns.length →
    call T n 81 [.d t.enc, .d (nsD ns)] = .ok (.d (.tuple [wD (lz true t ns) (lz false t ns), nsD (ns.drop t.count)]))
  | .pane, ns, n, hn, hl => by
    obtain ⟨k, rfl⟩ : ∃ k, n = k + 1 := ⟨n - 1, by have := count_pos .pane; omega⟩
    rw [call_go h rfl (st := [some (.d Tr.pane.enc), some (.d (nsD ns)), none, none, none]) rfl]
    match ns, hl with
    | x :: xs, _ =>
      have i0 : idxR (.d (nsD (x :: xs))) (.d (.int 0)) = .ok (.d (ndD x)) := idx0 ..
      have sl : slcR (.d (nsD (x :: xs))) (some 1) none = .ok (.d (nsD xs)) := ns_drop (x :: xs) 1
      simp [f81_law_needed, i0, sl, lz, Tr.count, ndD, Nd.co]
  | .cut s k a b, ns, n, hn, hl => by
    have hn' : a.count + b.count ≤ n := hn
    have ca := count_pos a
    have cb := count_pos b
    simp only [Tr.count] at hl
    obtain ⟨m, rfl⟩ : ∃ m, n = m + 1 := ⟨n - 1, by omega⟩
    have e1 := c_needed h a ns m (by omega) (by omega)
    have e2 := c_needed h b (ns.drop a.count) m (by omega) (by rw [List.length_drop]; omega)
    rw [List.drop_drop] at e2
    rw [call_go h rfl (st := [some (.d (Tr.cut s k a b).enc), some (.d (nsD ns)), none, none, none]) rfl]
    cases s <;> simp [f81_law_needed, e1, e2, lz, lz_take, mx, Tr.count]
theorem laid_take : ∀ (t : Tr) (ns : List Nd) (k : Nat), t.count ≤ k → laid t (ns.take k) = laid t ns
  | .pane, _, _, _ => rfl
  | .cut s _ a b, ns, k, hk => by
    simp only [Tr.count] at hk
    simp only [laid]
    have e1 : (ns.take k).take a.count = ns.take a.count := by rw [List.take_take, Nat.min_eq_left (by omega)]
    have e2 : (ns.take k).drop a.count = (ns.drop a.count).take (k - a.count) := by rw [List.drop_take]
    rw [e1, e2, laid_take b _ _ (by omega)]
theorem c_llaid (h1 : T 81 = some f81_law_needed) (h : T 82 = some f82_law_laid) : ∀ (t : Tr) (ns : List Nd) (n : Nat), t.count + 1 ≤ n → t.count ≤ ns.length →
    call T n 82 [.d t.enc, .d (nsD ns)] = .ok (.d (.tuple [(laid t ns).enc, nsD (ns.drop t.count)]))
  | .pane, ns, n, hn, hl => by
    obtain ⟨k, rfl⟩ : ∃ k, n = k + 1 := ⟨n - 1, by have := count_pos .pane; omega⟩
    rw [call_go h rfl (st := [some (.d Tr.pane.enc), some (.d (nsD ns)), none, none, none, none]) rfl]
    have sl : slcR (.d (nsD ns)) (some 1) none = .ok (.d (nsD (ns.drop 1))) := ns_drop ns 1
    simp [f82_law_laid, sl, laid, Tr.count]
  | .cut s k a b, ns, n, hn, hl => by
    have hn' : a.count + b.count + 1 ≤ n := hn
    have ca := count_pos a
    have cb := count_pos b
    simp only [Tr.count] at hl
    obtain ⟨m, rfl⟩ : ∃ m, n = m + 1 := ⟨n - 1, by omega⟩
    have e0 := c_needed h1 a ns m (by omega) (by omega)
    have e1 := c_llaid h1 h a ns m (by omega) (by omega)
    have e2 := c_llaid h1 h b (ns.drop a.count) m (by omega) (by rw [List.length_drop]; omega)
    rw [List.drop_drop] at e2
    rw [call_go h rfl (st := [some (.d (Tr.cut s k a b).enc), some (.d (nsD ns)), none, none, none, none]) rfl]
    cases s
    · simp [f82_law_laid, e0, e1, e2, laid, lz_take, laid_take, Tr.count, kd]
      rfl
    · simp [f82_law_laid, e0, e1, e2, laid, lz_take, laid_take, Tr.count, kd]
      rfl
end PP

set_option Elab.async false
set_option linter.all false
set_option autoImplicit false
set_option maxRecDepth 100000
set_option maxHeartbeats 4000000
namespace PP
open PySem
variable {T : Nat → Option Fn} {n : Nat}
def rowD (r : Int × Int × D) : D := .tuple [.int r.1, .int r.2.1, r.2.2]
theorem add_lL {xs ys : List D} (h : xs.length + ys.length ≤ lim) : binR .add (.d (.list xs)) (.l ys) = .ok (.l (xs ++ ys)) := add_LL h
theorem k19_turn (h : K19 T) (t : Tr) (hc : t.count ≤ 7) (ns : List Nd) (hn : ns.length = t.count) (s0 : Option R) (k cell : Int) (v5 v6 v7 v8 v9 v10 v11 v12 v13 v14 v15 : Option R) :
    Nx (fun v : Option R × Option R × Option R × Option R × Option R × Option R × Option R × Option R × Option R × Option R × Option R => [s0, some (.d (.int k)), some (.d (.int cell)), some (.d t.enc), some (.d (nsD ns)), v.1, v.2.1, v.2.2.1, v.2.2.2.1, v.2.2.2.2.1, v.2.2.2.2.2.1, v.2.2.2.2.2.2.1, v.2.2.2.2.2.2.2.1, v.2.2.2.2.2.2.2.2.1, v.2.2.2.2.2.2.2.2.2.1, v.2.2.2.2.2.2.2.2.2.2, none]) (fun _ => True)
      (xs (call T 59) (tl (tl (tl (tl (forB (hd f138_law.body))))))
        [s0, some (.d (.int k)), some (.d (.int cell)), some (.d t.enc), some (.d (nsD ns)), v5, v6, v7, v8, v9, v10, v11, v12, v13, v14, v15, none]) := by
  have e81 := c_needed h.needed t ns 59 (by omega) (by omega)
  have e82 := c_llaid h.needed h.laid t ns 59 (by omega) (by omega)
  have tl0 := told_least h t ns 0 0 59 (by omega)
  rw [if_pos hn] at tl0
  have plw : plain (wD (lz true t ns) (lz false t ns)) = true := by simp [wD, plain, plainAll, lim_eq]
  have es0 := c_same h.same 59 (wD (lz true t ns) (lz false t ns)) plw (by simp [wD, PyData.depth, PyData.depthAll])
  obtain ⟨m, em, m1, m2⟩ := c_mix' (n := 58) h.b cell (p := 9661) (m := 5) (by decide) (by decide) (by decide)
  have es1 := c_same h.same 59 (laid t ns).enc (plain_tr _) (by
    have := depth_tr (laid t ns)
    have := like_count (laid_like t ns)
    omega)
  have es2 := c_same h.same 59 (.str t_no_20_room) (by decide +kernel) (by decide)
  simp only [f138_law, hd, tl, forB]
  simp [e81, tl0, es0, e82, em, add_lL (xs := [_, _]) (ys := [_, _]) (show 2 + 2 ≤ lim by rw [lim_eq]; decide)]
  refine for_go (Nx _ _) (fun z => seqK _ _ z) (V := Option R × Option R × Option R) rowD
    [(lz true t ns, lz false t ns, (laid t ns).enc), (lz true t ns + m, lz false t ns + 2, (laid t ns).enc), (lz true t ns - 1, lz false t ns, .str t_no_20_room), (lz true t ns, lz false t ns - 1, .str t_no_20_room)]
    (fun pre v => [s0, some (.d (.int k)), some (.d (.int cell)), some (.d t.enc), some (.d (nsD ns)), v5, some (.d (laid t ns).enc), some (.d (.int m)), some (.d (.list ([(lz true t ns, lz false t ns, (laid t ns).enc), (lz true t ns + m, lz false t ns + 2, (laid t ns).enc), (lz true t ns - 1, lz false t ns, .str t_no_20_room), (lz true t ns, lz false t ns - 1, .str t_no_20_room)].map rowD))), v9, v10, some (.d (.int (lz true t ns))), some (.d (.int (lz false t ns))), v.1, v.2.1, v.2.2, none]) (fun _ _ => True) (v13, v14, v15)
    ?h1 rfl trivial ?_ ?_
  case h1 => simp [rowD]
  · rintro pre a post ⟨u13, u14, u15⟩ hpre -
    have ha : a ∈ ([(lz true t ns, lz false t ns, (laid t ns).enc), (lz true t ns + m, lz false t ns + 2, (laid t ns).enc), (lz true t ns - 1, lz false t ns, .str t_no_20_room), (lz true t ns, lz false t ns - 1, .str t_no_20_room)] : List (Int × Int × D)) := by rw [← hpre]; simp
    have td := told_laid h t ns a.1 a.2.1 59 (by omega)
    rw [if_pos hn] at td
    have key : call T 59 136 [.d (.str t_laid), .d t.enc, .d (nsD ns), .d (.int a.1), .d (.int a.2.1)] = .ok (.d a.2.2) ∧ call T 59 24 [.d a.2.2, .d a.2.2] = .ok (.d (.bool true)) := by
      simp only [List.mem_cons, List.not_mem_nil, or_false] at ha
      rcases ha with rfl | rfl | rfl | rfl
      · rw [if_neg (by simp only; omega)] at td; exact ⟨td, es1⟩
      · rw [if_neg (by simp only; omega)] at td; exact ⟨td, es1⟩
      · rw [if_pos (by simp only; omega)] at td; exact ⟨td, es2⟩
      · rw [if_pos (by simp only; omega)] at td; exact ⟨td, es2⟩
    obtain ⟨k1, k2⟩ := key
    simp [rowD, k1, k2]
    exact Nx.mk (_, _, _) rfl trivial
  · rintro ⟨u13, u14, u15⟩ -
    simp
    have sl : slcR (.d (nsD ns)) (some 1) none = .ok (.d (nsD (ns.drop 1))) := ns_drop ns 1
    have ea := add_ns (ns := ns) (by omega) 1 1
    refine for_go (Nx _ _) (fun z => seqK _ _ z) (V := Option R) nsD [ns.drop 1, ns ++ [(1, 1)]]
      (fun pre v => [s0, some (.d (.int k)), some (.d (.int cell)), some (.d t.enc), some (.d (nsD ns)), v5, some (.d (laid t ns).enc), some (.d (.int m)), some (.d (.list ([(lz true t ns, lz false t ns, (laid t ns).enc), (lz true t ns + m, lz false t ns + 2, (laid t ns).enc), (lz true t ns - 1, lz false t ns, .str t_no_20_room), (lz true t ns, lz false t ns - 1, .str t_no_20_room)].map rowD))), v, v10, some (.d (.int (lz true t ns))), some (.d (.int (lz false t ns))), u13, u14, u15, none]) (fun _ _ => True) v9
      ?h2 rfl trivial ?_ ?_
    case h2 => simp [sl, ea]
    · rintro pre bad post u9 hpre -
      have hb : bad ∈ [ns.drop 1, ns ++ [(1, 1)]] := by rw [← hpre]; simp
      have cp := count_pos t
      have hbl : ¬ bad.length = t.count := by
        simp only [List.mem_cons, List.not_mem_nil, or_false] at hb
        rcases hb with rfl | rfl
        · rw [List.length_drop]; omega
        · rw [List.length_append]; simp; omega
      have t1 := told_least h t bad (lz true t ns - 1) (lz false t ns) 59 (by omega)
      have t2 := told_laid h t bad (lz true t ns - 1) (lz false t ns) 59 (by omega)
      rw [if_neg hbl] at t1 t2
      have m2 : binR .mul (.l [.str t_no_20_needs]) (.d (.int 2)) = .ok (.l [.str t_no_20_needs, .str t_no_20_needs]) := id rfl
      have e2 : eqR (.l [.str t_no_20_needs, .str t_no_20_needs]) (.l [.str t_no_20_needs, .str t_no_20_needs]) = .ok true := by simp [eqR, R.isD, shallow, R.see, PyData.depth, PyData.depthAll, PyData.eqv, PyData.eqvAll]
      simp
      rw [lc_nm PyData.str (fun _ => PyData.str t_no_20_needs) [t_least, t_laid] (by simp) (by decide) (by
        intro d hd
        simp only [List.mem_cons, List.not_mem_nil, or_false] at hd
        rcases hd with rfl | rfl
        · simp [t1]
        · simp [t2])]
      simp [m2, e2]
      exact Nx.mk _ rfl trivial
    · rintro u9 -
      simp
      exact Nx.mk (_, _, _, _, _, _, _, _, _, _, _) rfl trivial
theorem k19_true (h : K19 T) (hl : T 138 = some f138_law) (ns : List Int) : call T 60 138 [.s (ns.map PyData.int)] = .ok (.d (.bool true)) := by
  rw [call_go hl rfl (st := [some (.s (ns.map PyData.int)), none, none, none, none, none, none, none, none, none, none, none, none, none, none, none, none]) rfl]
  simp [f138_law]
  refine for_go (· = _) (fun z => outK (seqK _ _ z)) (V := Option R × Option R × Option R × Option R × Option R × Option R × Option R × Option R × Option R × Option R × Option R × Option R × Option R × Option R × Option R) PyData.int (irange 0 12)
    (fun pre v => [some (.s (ns.map PyData.int)), v.1, v.2.1, v.2.2.1, v.2.2.2.1, v.2.2.2.2.1, v.2.2.2.2.2.1, v.2.2.2.2.2.2.1, v.2.2.2.2.2.2.2.1, v.2.2.2.2.2.2.2.2.1, v.2.2.2.2.2.2.2.2.2.1, v.2.2.2.2.2.2.2.2.2.2.1, v.2.2.2.2.2.2.2.2.2.2.2.1, v.2.2.2.2.2.2.2.2.2.2.2.2.1, v.2.2.2.2.2.2.2.2.2.2.2.2.2.1, v.2.2.2.2.2.2.2.2.2.2.2.2.2.2, none]) (fun _ _ => True) (none, none, none, none, none, none, none, none, none, none, none, none, none, none, none)
    (by simp; exact rngF_ok (j := 12) (by decide) (by decide)) rfl trivial ?_ ?_
  · rintro pre i post ⟨v1, v2, v3, v4, v5, v6, v7, v8, v9, v10, v11, v12, v13, v14, v15⟩ hpre -
    have hi : i ∈ irange 0 12 := by rw [← hpre]; simp
    rw [mem_irange] at hi
    obtain ⟨c, ec⟩ := c_cell' (n := 58) h.b ns (k := i % 9) (by omega)
    have h31 := mul_ii' (i := 31) (j := i) (by decide)
    obtain ⟨w, g, ew, ⟨w1, w2⟩, ⟨g1, g2⟩⟩ := c_window' (n := 57) h.b (c + 31 * i)
    obtain ⟨t, et, _, hc⟩ := c_tree' h.b 7 59 (c + 31 * i) w g w1 g1 (by omega) (by omega)
    have hc7 : t.count ≤ 7 := by omega
    have e7 := c_lpanes' h.b t 59 99 99 (by omega) (by omega)
    have pl : ((t.pns ⟨0, 0, 99, 99⟩).length : Int) = t.count := by rw [pns_len]
    simp [ec, h31, ew, et, -List.length_map]
    refine for_go (Nx _ _) (fun z => seqK _ _ z) (V := List Nd × Option R × Option R) PyData.int (irange 0 t.count)
      (fun pre v => [some (.s (ns.map PyData.int)), some (.d (.int i)), some (.d (.int (c + 31 * i))), some (.d t.enc), some (.d (nsD v.1)), v.2.1, v6, v7, v8, v9, v.2.2, v11, v12, v13, v14, v15, none]) (fun pre v => v.1.length = pre.length) ([], v5, v10)
      ?h1 rfl rfl ?_ ?_
    case h1 =>
      simp [e7, pl]
      exact rngF_ok (by omega) (by omega)
    · rintro pre' j post' ⟨ms, u6, u13⟩ hpre' hms
      have hj : j ∈ irange 0 t.count := by rw [← hpre']; simp
      rw [mem_irange] at hj
      have hl7 : pre'.length ≤ 7 := by
        have := congrArg List.length hpre'
        rw [len_irange] at this
        simp at this
        omega
      have a7 := mul_ii' (i := 7) (j := j) (by decide)
      have a11 := mul_ii' (i := 11) (j := j) (by decide)
      obtain ⟨x, ex, x1, x2⟩ := c_mix' (n := 58) h.b (c + 31 * i + 7 * j) (p := 9679) (m := 9) (by decide) (by decide) (by decide)
      obtain ⟨y, ey, y1, y2⟩ := c_mix' (n := 58) h.b (c + 31 * i + 11 * j) (p := 9677) (m := 9) (by decide) (by decide) (by decide)
      have ea := add_ns (ns := ms) (by have : ms.length = pre'.length := hms; omega) (1 + x) (1 + y)
      simp [a7, a11, ex, ey, ea]
      refine Nx.mk (_, _, _) rfl ?_
      simp only [List.length_append, List.length_cons, List.length_nil] at hms ⊢
      omega
    · rintro ⟨ms, u6, u13⟩ hms
      simp only at hms
      rw [len_irange] at hms
      obtain ⟨v, ev, -⟩ := k19_turn h t hc7 ms (by omega) (some (.s (ns.map PyData.int))) i (c + 31 * i) u6 v6 v7 v8 v9 u13 v11 v12 v13 v14 v15
      simp only [f138_law, hd, tl, forB] at ev
      rw [seqK_nx, ev]
      exact Nx.mk (_, _, _, _, _, _, _, _, _, _, _, _, _, _, _) rfl trivial
  · rintro ⟨v1, v2, v3, v4, v5, v6, v7, v8, v9, v10, v11, v12, v13, v14, v15⟩ -
    simp
end PP

namespace Rk19
open PySem L2 PP
def top (i : Nat) : Stmt := PySem.Challenge.pw_panecuts_k19_sizes.main.body.getD i (.Pass ⟨0, 0, 0, 0⟩)
def e_parts_of : Ent := ⟨18, "parts_of", top 13, ["kind", "at", "window", "wide", "high"], ["kind", "at", "window"], f18_parts_of⟩
def e_panes_in : Ent := ⟨20, "panes_in", top 14, ["tree"], ["tree"], f20_panes_in⟩
def e_must_fit : Ent := ⟨109, "must_fit", top 16, ["tree", "needs"], ["tree", "needs"], f109_must_fit⟩
def e_least_in : Ent := ⟨79, "least_in", top 17, ["tree", "needs", "many", "one", "other"], ["tree", "needs"], f79_least_in⟩
def e_least_size : Ent := ⟨90, "least_size", top 18, ["tree", "needs"], ["tree", "needs"], f90_least_size⟩
def e_laid_in : Ent := ⟨80, "laid_in", top 19, ["tree", "needs", "window", "many", "at", "first", "second"], ["tree", "needs", "window"], f80_laid_in⟩
def e_laid_out : Ent := ⟨91, "laid_out", top 20, ["tree", "needs", "wide", "high", "least"], ["tree", "needs", "wide", "high"], f91_laid_out⟩
def e_law_cell : Ent := ⟨14, "_law_cell", top 22, ["script", "k"], ["script", "k"], f14_law_cell⟩
def e_law_mix : Ent := ⟨4, "_law_mix", top 23, ["cell", "prime", "many", "blend"], ["cell", "prime", "many"], f4_law_mix⟩
def e_law_same : Ent := ⟨24, "_law_same", top 24, ["found", "due", "one", "other"], ["found", "due"], f24_law_same⟩
def e_law_window : Ent := ⟨8, "_law_window", top 25, ["cell"], ["cell"], f8_law_window⟩
def e_law_parts : Ent := ⟨5, "_law_parts", top 26, ["kind", "at", "window"], ["kind", "at", "window"], f5_law_parts⟩
def e_law_tree : Ent := ⟨6, "_law_tree", top 27, ["cell", "window", "most", "kinds", "kind", "at", "ahead", "one", "other"], ["cell", "window", "most"], f6_law_tree⟩
def e_law_panes : Ent := ⟨7, "_law_panes", top 28, ["tree", "left", "top", "window", "here", "kind", "at", "one", "other"], ["tree", "left", "top", "window"], f7_law_panes⟩
def e_law_told : Ent := ⟨136, "_law_told", top 30, ["deed", "tree", "needs", "wide", "high", "e"], ["deed", "tree", "needs", "wide", "high"], f136_law_told⟩
def e_law_needed : Ent := ⟨81, "_law_needed", top 31, ["tree", "needs", "one", "rest", "other"], ["tree", "needs"], f81_law_needed⟩
def e_law_laid : Ent := ⟨82, "_law_laid", top 32, ["tree", "needs", "at", "one", "rest", "other"], ["tree", "needs"], f82_law_laid⟩
def e_law : Ent := ⟨138, "law", top 33, ["script", "k", "cell", "tree", "needs", "j", "due", "more", "rows", "bad", "need", "wide", "high", "broad", "tall", "said", "deed"], ["script"], f138_law⟩
def es : List Ent := [e_parts_of, e_panes_in, e_must_fit, e_least_in, e_least_size, e_laid_in, e_laid_out, e_law_cell, e_law_mix, e_law_same, e_law_window, e_law_parts, e_law_tree, e_law_panes, e_law_told, e_law_needed, e_law_laid, e_law]
def cs : List (Str × D) := [("PANE", .tuple [.str t_pane])]
def ds : List (Str × List (Str × D)) := []
def xl : List (Str × Nat) := [("NoCuts", 0), ("NoMove", 1), ("NoPane", 2), ("NoPart", 3), ("NoJoin", 4), ("NoRoom", 5), ("NoNeeds", 6), ("NoText", 7), ("NoStep", 8)]
theorem oks : es.all (entOk ⟨cs, ds, fnsOf es, xl, true⟩) = true := by decide +kernel
def wq (i : Nat) : Pos := ([⟨102, 4, 102, 9⟩, ⟨102, 13, 102, 23⟩, ⟨102, 24, 102, 28⟩, ⟨102, 30, 102, 36⟩, ⟨102, 13, 102, 37⟩, ⟨102, 39, 102, 49⟩, ⟨102, 50, 102, 54⟩, ⟨102, 56, 102, 62⟩, ⟨102, 39, 102, 63⟩, ⟨102, 12, 102, 64⟩, ⟨102, 4, 102, 64⟩, ⟨103, 4, 103, 9⟩, ⟨103, 12, 103, 17⟩, ⟨103, 21, 103, 31⟩, ⟨103, 32, 103, 36⟩, ⟨103, 38, 103, 44⟩, ⟨103, 21, 103, 45⟩, ⟨103, 47, 103, 57⟩, ⟨103, 58, 103, 62⟩, ⟨103, 64, 103, 70⟩, ⟨103, 47, 103, 71⟩, ⟨103, 20, 103, 72⟩, ⟨103, 12, 103, 72⟩, ⟨103, 4, 103, 72⟩, ⟨104, 4, 104, 9⟩, ⟨104, 12, 104, 17⟩, ⟨104, 21, 104, 31⟩, ⟨104, 32, 104, 36⟩, ⟨104, 38, 104, 44⟩, ⟨104, 21, 104, 45⟩, ⟨104, 47, 104, 57⟩, ⟨104, 58, 104, 62⟩, ⟨104, 64, 104, 70⟩, ⟨104, 47, 104, 71⟩, ⟨104, 20, 104, 72⟩, ⟨104, 12, 104, 72⟩, ⟨104, 4, 104, 72⟩, ⟨105, 4, 105, 9⟩, ⟨105, 12, 105, 17⟩, ⟨105, 21, 105, 31⟩, ⟨105, 32, 105, 36⟩, ⟨105, 38, 105, 45⟩, ⟨105, 21, 105, 46⟩, ⟨105, 48, 105, 58⟩, ⟨105, 59, 105, 63⟩, ⟨105, 65, 105, 71⟩, ⟨105, 48, 105, 72⟩, ⟨105, 20, 105, 73⟩, ⟨105, 12, 105, 73⟩, ⟨105, 4, 105, 73⟩, ⟨106, 4, 106, 9⟩, ⟨106, 13, 106, 22⟩, ⟨106, 24, 106, 33⟩, ⟨106, 35, 106, 44⟩, ⟨106, 46, 106, 55⟩, ⟨106, 57, 106, 66⟩, ⟨106, 68, 106, 77⟩, ⟨106, 12, 106, 78⟩, ⟨106, 4, 106, 78⟩, ⟨107, 4, 107, 9⟩, ⟨107, 12, 107, 17⟩, ⟨107, 21, 107, 31⟩, ⟨107, 33, 107, 42⟩, ⟨107, 44, 107, 53⟩, ⟨107, 20, 107, 54⟩, ⟨107, 12, 107, 54⟩, ⟨107, 4, 107, 54⟩, ⟨108, 4, 108, 9⟩, ⟨108, 4, 108, 16⟩, ⟨108, 17, 108, 27⟩, ⟨108, 28, 108, 32⟩, ⟨108, 34, 108, 40⟩, ⟨108, 17, 108, 41⟩, ⟨108, 4, 108, 42⟩, ⟨108, 4, 108, 42⟩, ⟨109, 7, 109, 12⟩, ⟨109, 7, 109, 18⟩, ⟨109, 19, 109, 23⟩, ⟨109, 7, 109, 24⟩, ⟨109, 28, 109, 29⟩, ⟨109, 7, 109, 29⟩, ⟨109, 37, 109, 47⟩, ⟨109, 48, 109, 52⟩, ⟨109, 54, 109, 64⟩, ⟨109, 37, 109, 65⟩, ⟨109, 33, 109, 65⟩, ⟨109, 7, 109, 65⟩, ⟨110, 15, 110, 22⟩, ⟨110, 8, 110, 22⟩, ⟨109, 4, 110, 22⟩, ⟨111, 11, 111, 16⟩, ⟨111, 17, 111, 22⟩, ⟨111, 17, 111, 28⟩, ⟨111, 29, 111, 33⟩, ⟨111, 17, 111, 34⟩, ⟨111, 11, 111, 35⟩, ⟨111, 4, 111, 35⟩] : List Pos).getD i ⟨0, 0, 0, 0⟩
theorem ixs : (es.map (·.ix)).Nodup := by decide +kernel
set_option maxHeartbeats 4000000 in
theorem all_mk {l : PySem.W.OpenLaw} {w : World} {K : PySem.W.Frag} {h : Heap} {mg : Str → Option Value} {fa : Addr} (X : K.In h) (G : h.Ns mainGlobals mg) (hfa : mg "law" = some (.ref fa))
    (d0 : DefAt K "parts_of" (top 13)) (d1 : DefAt K "panes_in" (top 14)) (d2 : DefAt K "must_fit" (top 16)) (d3 : DefAt K "least_in" (top 17)) (d4 : DefAt K "least_size" (top 18)) (d5 : DefAt K "laid_in" (top 19)) (d6 : DefAt K "laid_out" (top 20)) (d7 : DefAt K "_law_cell" (top 22)) (d8 : DefAt K "_law_mix" (top 23)) (d9 : DefAt K "_law_same" (top 24)) (d10 : DefAt K "_law_window" (top 25)) (d11 : DefAt K "_law_parts" (top 26)) (d12 : DefAt K "_law_tree" (top 27)) (d13 : DefAt K "_law_panes" (top 28)) (d14 : DefAt K "_law_told" (top 30)) (d15 : DefAt K "_law_needed" (top 31)) (d16 : DefAt K "_law_laid" (top 32)) (d17 : DefAt K "law" (top 33))
    (c0 : CstAt K "PANE" (.tuple [.str t_pane]))  (z : ∀ x, x ∈ bltNames → PySem.W.nsIn K mainGlobals x = some none)
    {A0 A1 A2 A3 A4 A5 A6 A7 A8 : Addr} (n0 : PySem.W.nsIn K mainGlobals "NoCuts" = some (some (.ref A0))) (xe0 : PySem.W.excIn K A0 [.type "ValueError", .type "Exception", .type "BaseException", .type "object"] "ValueError.__new__" = true) (xk0 : PySem.W.keepIn K (.ref A0) = true) (xb0 : PySem.W.subIn K (.ref A0) (.type "BaseException") = some true) (xt0 : PySem.W.typeIn K (.ref A0) = some (.type "type")) (n1 : PySem.W.nsIn K mainGlobals "NoMove" = some (some (.ref A1))) (xe1 : PySem.W.excIn K A1 [.type "ValueError", .type "Exception", .type "BaseException", .type "object"] "ValueError.__new__" = true) (xk1 : PySem.W.keepIn K (.ref A1) = true) (xb1 : PySem.W.subIn K (.ref A1) (.type "BaseException") = some true) (xt1 : PySem.W.typeIn K (.ref A1) = some (.type "type")) (n2 : PySem.W.nsIn K mainGlobals "NoPane" = some (some (.ref A2))) (xe2 : PySem.W.excIn K A2 [.type "ValueError", .type "Exception", .type "BaseException", .type "object"] "ValueError.__new__" = true) (xk2 : PySem.W.keepIn K (.ref A2) = true) (xb2 : PySem.W.subIn K (.ref A2) (.type "BaseException") = some true) (xt2 : PySem.W.typeIn K (.ref A2) = some (.type "type")) (n3 : PySem.W.nsIn K mainGlobals "NoPart" = some (some (.ref A3))) (xe3 : PySem.W.excIn K A3 [.type "ValueError", .type "Exception", .type "BaseException", .type "object"] "ValueError.__new__" = true) (xk3 : PySem.W.keepIn K (.ref A3) = true) (xb3 : PySem.W.subIn K (.ref A3) (.type "BaseException") = some true) (xt3 : PySem.W.typeIn K (.ref A3) = some (.type "type")) (n4 : PySem.W.nsIn K mainGlobals "NoJoin" = some (some (.ref A4))) (xe4 : PySem.W.excIn K A4 [.type "ValueError", .type "Exception", .type "BaseException", .type "object"] "ValueError.__new__" = true) (xk4 : PySem.W.keepIn K (.ref A4) = true) (xb4 : PySem.W.subIn K (.ref A4) (.type "BaseException") = some true) (xt4 : PySem.W.typeIn K (.ref A4) = some (.type "type")) (n5 : PySem.W.nsIn K mainGlobals "NoRoom" = some (some (.ref A5))) (xe5 : PySem.W.excIn K A5 [.type "ValueError", .type "Exception", .type "BaseException", .type "object"] "ValueError.__new__" = true) (xk5 : PySem.W.keepIn K (.ref A5) = true) (xb5 : PySem.W.subIn K (.ref A5) (.type "BaseException") = some true) (xt5 : PySem.W.typeIn K (.ref A5) = some (.type "type")) (n6 : PySem.W.nsIn K mainGlobals "NoNeeds" = some (some (.ref A6))) (xe6 : PySem.W.excIn K A6 [.type "ValueError", .type "Exception", .type "BaseException", .type "object"] "ValueError.__new__" = true) (xk6 : PySem.W.keepIn K (.ref A6) = true) (xb6 : PySem.W.subIn K (.ref A6) (.type "BaseException") = some true) (xt6 : PySem.W.typeIn K (.ref A6) = some (.type "type")) (n7 : PySem.W.nsIn K mainGlobals "NoText" = some (some (.ref A7))) (xe7 : PySem.W.excIn K A7 [.type "ValueError", .type "Exception", .type "BaseException", .type "object"] "ValueError.__new__" = true) (xk7 : PySem.W.keepIn K (.ref A7) = true) (xb7 : PySem.W.subIn K (.ref A7) (.type "BaseException") = some true) (xt7 : PySem.W.typeIn K (.ref A7) = some (.type "type")) (n8 : PySem.W.nsIn K mainGlobals "NoStep" = some (some (.ref A8))) (xe8 : PySem.W.excIn K A8 [.type "ValueError", .type "Exception", .type "BaseException", .type "object"] "ValueError.__new__" = true) (xk8 : PySem.W.keepIn K (.ref A8) = true) (xb8 : PySem.W.subIn K (.ref A8) (.type "BaseException") = some true) (xt8 : PySem.W.typeIn K (.ref A8) = some (.type "type"))
    {AP : Addr} (nP : PySem.W.nsIn K mainGlobals "PaneError" = some (some (.ref AP))) (cb : clsB K [A0, A1, A2, A3, A4, A5, A6, A7, A8] AP = true) (bI : PySem.W.nsIn K mainGlobals "isinstance" = some none) (bV : PySem.W.nsIn K mainGlobals "ValueError" = some none) (dw : DefAt K "_law_word" (top 29))
    (H : ∀ ns : List Int, ns.length ≤ 63 → call (tabOf es) 60 138 [.s (ns.map PyData.int)] = .ok (.d (.bool true))) :
    ∃ fd : FuncData, (∀ (s : Shared) (v : Value), BindsTo s fd ⟨[v], []⟩ [("script", v)]) ∧ ∀ base : Heap, K.In base → base.Ns mainGlobals mg → FnOk l.prog w K mg base (L2N.CX l.prog w) 61 fa fd ["script"] (spLaw K) := by
  refine law_mk (e := e_law) (es := es) (cs := cs) (ds := ds) (cl := fun c => .ref (lsA [A0, A1, A2, A3, A4, A5, A6, A7, A8] c)) (xs := xl) (wb := true) X G hfa (by simp [es]) rfl rfl ixs oks (fun s _ _ _ _ _ _ u => .of_eq rfl) ?_ z ?_ ?_ ?_ ?_ H
  · intro e he
    simp only [es, List.mem_cons, List.not_mem_nil, or_false] at he
    rcases he with rfl | rfl | rfl | rfl | rfl | rfl | rfl | rfl | rfl | rfl | rfl | rfl | rfl | rfl | rfl | rfl | rfl | rfl
    · exact entAt_mk X G _ d0 fun _ _ _ _ _ _ us hl => match us, hl with | [_, _, _], _ => rfl
    · exact entAt_mk X G _ d1 fun _ _ _ _ _ _ us hl => match us, hl with | [_], _ => rfl
    · exact entAt_mk X G _ d2 fun _ _ _ _ _ _ us hl => match us, hl with | [_, _], _ => rfl
    · exact entAt_mk X G _ d3 fun _ _ _ _ _ _ us hl => match us, hl with | [_, _], _ => rfl
    · exact entAt_mk X G _ d4 fun _ _ _ _ _ _ us hl => match us, hl with | [_, _], _ => rfl
    · exact entAt_mk X G _ d5 fun _ _ _ _ _ _ us hl => match us, hl with | [_, _, _], _ => rfl
    · exact entAt_mk X G _ d6 fun _ _ _ _ _ _ us hl => match us, hl with | [_, _, _, _], _ => rfl
    · exact entAt_mk X G _ d7 fun _ _ _ _ _ _ us hl => match us, hl with | [_, _], _ => rfl
    · exact entAt_mk X G _ d8 fun _ _ _ _ _ _ us hl => match us, hl with | [_, _, _], _ => rfl
    · exact entAt_mk X G _ d9 fun _ _ _ _ _ _ us hl => match us, hl with | [_, _], _ => rfl
    · exact entAt_mk X G _ d10 fun _ _ _ _ _ _ us hl => match us, hl with | [_], _ => rfl
    · exact entAt_mk X G _ d11 fun _ _ _ _ _ _ us hl => match us, hl with | [_, _, _], _ => rfl
    · exact entAt_mk X G _ d12 fun _ _ _ _ _ _ us hl => match us, hl with | [_, _, _], _ => rfl
    · exact entAt_mk X G _ d13 fun _ _ _ _ _ _ us hl => match us, hl with | [_, _, _, _], _ => rfl
    · exact entAt_mk X G _ d14 fun _ _ _ _ _ _ us hl => match us, hl with | [_, _, _, _, _], _ => rfl
    · exact entAt_mk X G _ d15 fun _ _ _ _ _ _ us hl => match us, hl with | [_, _], _ => rfl
    · exact entAt_mk X G _ d16 fun _ _ _ _ _ _ us hl => match us, hl with | [_, _], _ => rfl
    · exact entAt_mk X G _ d17 fun _ _ _ _ _ _ us hl => match us, hl with | [_], _ => rfl
  · intro c hc
    simp only [cs, List.mem_cons, List.not_mem_nil, or_false] at hc
    rcases hc with rfl
    · exact c0
  · intro c hc
    simp [ds] at hc
  · intro x c hx
    simp only [xl, List.mem_cons, List.not_mem_nil, or_false, Prod.mk.injEq] at hx
    rcases hx with ⟨rfl, rfl⟩ | ⟨rfl, rfl⟩ | ⟨rfl, rfl⟩ | ⟨rfl, rfl⟩ | ⟨rfl, rfl⟩ | ⟨rfl, rfl⟩ | ⟨rfl, rfl⟩ | ⟨rfl, rfl⟩ | ⟨rfl, rfl⟩
    · exact xc_mk X G n0 rfl xe0 xk0 xb0 xt0
    · exact xc_mk X G n1 rfl xe1 xk1 xb1 xt1
    · exact xc_mk X G n2 rfl xe2 xk2 xb2 xt2
    · exact xc_mk X G n3 rfl xe3 xk3 xb3 xt3
    · exact xc_mk X G n4 rfl xe4 xk4 xb4 xt4
    · exact xc_mk X G n5 rfl xe5 xk5 xb5 xt5
    · exact xc_mk X G n6 rfl xe6 xk6 xb6 xt6
    · exact xc_mk X G n7 rfl xe7 xk7 xb7 xt7
    · exact xc_mk X G n8 rfl xe8 xk8 xb8 xt8
  · intro _
    refine word_mk (q := wq) X G rfl (fun k x hk => ?_) nP cb bI bV dw (fun _ _ _ _ _ _ us hl => match us, hl with | [_], _ => rfl) rfl rfl rfl rfl rfl
    have hlt : k < 9 := (List.getElem?_eq_some_iff.mp hk).1
    match k, hlt, hk with
    | 0, _, hk => cases hk; exact n0
    | 1, _, hk => cases hk; exact n1
    | 2, _, hk => cases hk; exact n2
    | 3, _, hk => cases hk; exact n3
    | 4, _, hk => cases hk; exact n4
    | 5, _, hk => cases hk; exact n5
    | 6, _, hk => cases hk; exact n6
    | 7, _, hk => cases hk; exact n7
    | 8, _, hk => cases hk; exact n8
end Rk19
open PySem PySem.W PyProof.Rows
theorem law_true (ns : List Int) (_ : ns.length ≤ 63) : PP.call (PP.tabOf Rk19.es) 60 138 [.s (ns.map PySem.PyData.int)] = .ok (.d (.bool true)) :=
  PP.k19_true ⟨⟨rfl, rfl, rfl, rfl, rfl, rfl⟩, ⟨rfl, rfl, rfl, rfl, rfl, rfl, rfl⟩, rfl, rfl, rfl, rfl⟩ rfl ns

set_option maxRecDepth 100000 in
set_option maxHeartbeats 0 in
theorem PySem.Challenge.cw_panecuts_k19_sizes_holds : PySem.Challenge.rw_panecuts_k19_sizes.Holds := by
  w_on; o_law; k_head; (case hw => w_witness2)
  k_fill
  refine PP.walk_mk (l := PySem.Challenge.rw_panecuts_k19_sizes) (n := 60) rfl rfl ⟨rfl, by decide, by decide⟩ (fun w h Y => PySem.W.kIn_of Y) ?F
  case F =>
    intro w mg fa h KX G hmg
    refine' Rk19.all_mk KX G hmg ?d0 ?d1 ?d2 ?d3 ?d4 ?d5 ?d6 ?d7 ?d8 ?d9 ?d10 ?d11 ?d12 ?d13 ?d14 ?d15 ?d16 ?d17 ?c0  ?z ?n0 ?xe0 ?xk0 ?xb0 ?xt0 ?n1 ?xe1 ?xk1 ?xb1 ?xt1 ?n2 ?xe2 ?xk2 ?xb2 ?xt2 ?n3 ?xe3 ?xk3 ?xb3 ?xt3 ?n4 ?xe4 ?xk4 ?xb4 ?xt4 ?n5 ?xe5 ?xk5 ?xb5 ?xt5 ?n6 ?xe6 ?xk6 ?xb6 ?xt6 ?n7 ?xe7 ?xk7 ?xb7 ?xt7 ?n8 ?xe8 ?xk8 ?xb8 ?xt8 ?nP ?cb ?bI ?bV ?dw law_true
    (case d0 => refine' PP.defAt_mk ?a ?l ?c ?k; (case a => k_is); (case l => k_is); (case c => k_is); (case k => k_is))
    (case d1 => refine' PP.defAt_mk ?a ?l ?c ?k; (case a => k_is); (case l => k_is); (case c => k_is); (case k => k_is))
    (case d2 => refine' PP.defAt_mk ?a ?l ?c ?k; (case a => k_is); (case l => k_is); (case c => k_is); (case k => k_is))
    (case d3 => refine' PP.defAt_mk ?a ?l ?c ?k; (case a => k_is); (case l => k_is); (case c => k_is); (case k => k_is))
    (case d4 => refine' PP.defAt_mk ?a ?l ?c ?k; (case a => k_is); (case l => k_is); (case c => k_is); (case k => k_is))
    (case d5 => refine' PP.defAt_mk ?a ?l ?c ?k; (case a => k_is); (case l => k_is); (case c => k_is); (case k => k_is))
    (case d6 => refine' PP.defAt_mk ?a ?l ?c ?k; (case a => k_is); (case l => k_is); (case c => k_is); (case k => k_is))
    (case d7 => refine' PP.defAt_mk ?a ?l ?c ?k; (case a => k_is); (case l => k_is); (case c => k_is); (case k => k_is))
    (case d8 => refine' PP.defAt_mk ?a ?l ?c ?k; (case a => k_is); (case l => k_is); (case c => k_is); (case k => k_is))
    (case d9 => refine' PP.defAt_mk ?a ?l ?c ?k; (case a => k_is); (case l => k_is); (case c => k_is); (case k => k_is))
    (case d10 => refine' PP.defAt_mk ?a ?l ?c ?k; (case a => k_is); (case l => k_is); (case c => k_is); (case k => k_is))
    (case d11 => refine' PP.defAt_mk ?a ?l ?c ?k; (case a => k_is); (case l => k_is); (case c => k_is); (case k => k_is))
    (case d12 => refine' PP.defAt_mk ?a ?l ?c ?k; (case a => k_is); (case l => k_is); (case c => k_is); (case k => k_is))
    (case d13 => refine' PP.defAt_mk ?a ?l ?c ?k; (case a => k_is); (case l => k_is); (case c => k_is); (case k => k_is))
    (case d14 => refine' PP.defAt_mk ?a ?l ?c ?k; (case a => k_is); (case l => k_is); (case c => k_is); (case k => k_is))
    (case d15 => refine' PP.defAt_mk ?a ?l ?c ?k; (case a => k_is); (case l => k_is); (case c => k_is); (case k => k_is))
    (case d16 => refine' PP.defAt_mk ?a ?l ?c ?k; (case a => k_is); (case l => k_is); (case c => k_is); (case k => k_is))
    (case d17 => refine' PP.defAt_mk ?a ?l ?c ?k; (case a => k_is); (case l => k_is); (case c => k_is); (case k => k_is))
    (case c0 => refine' PP.cst_tup1 ?a ?l (by decide +kernel); (case a => k_is); (case l => k_is))
    (case z => intro x hx; simp only [PP.bltNames, List.mem_cons, List.not_mem_nil, or_false] at hx; rcases hx with rfl | rfl | rfl | rfl | rfl | rfl | rfl | rfl | rfl | rfl | rfl | rfl | rfl | rfl | rfl | rfl | rfl; all_goals k_is)
    (case n0 => k_is); (case xe0 => k_exc); (case xk0 => k_is); (case xb0 => k_is); (case xt0 => k_is)
    (case n1 => k_is); (case xe1 => k_exc); (case xk1 => k_is); (case xb1 => k_is); (case xt1 => k_is)
    (case n2 => k_is); (case xe2 => k_exc); (case xk2 => k_is); (case xb2 => k_is); (case xt2 => k_is)
    (case n3 => k_is); (case xe3 => k_exc); (case xk3 => k_is); (case xb3 => k_is); (case xt3 => k_is)
    (case n4 => k_is); (case xe4 => k_exc); (case xk4 => k_is); (case xb4 => k_is); (case xt4 => k_is)
    (case n5 => k_is); (case xe5 => k_exc); (case xk5 => k_is); (case xb5 => k_is); (case xt5 => k_is)
    (case n6 => k_is); (case xe6 => k_exc); (case xk6 => k_is); (case xb6 => k_is); (case xt6 => k_is)
    (case n7 => k_is); (case xe7 => k_exc); (case xk7 => k_is); (case xb7 => k_is); (case xt7 => k_is)
    (case n8 => k_is); (case xe8 => k_exc); (case xk8 => k_is); (case xb8 => k_is); (case xt8 => k_is)
    (case nP => k_is); (case cb => kernel_rfl); (case bI => k_is); (case bV => k_is)
    (case dw => refine' PP.defAt_mk ?a ?l ?c ?k; (case a => k_is); (case l => k_is); (case c => k_is); (case k => k_is))
#print axioms PySem.Challenge.cw_panecuts_k19_sizes_holds
