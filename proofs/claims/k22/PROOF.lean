import PyProof.Rows.All
import Wide.All
import OpenK.AllK
import Wide.FinOn
import HandS.ForMost
import KE.SortData
import HandS.HotCalls
import HandS.ExcIs
import HandS.SetFor
import HandS.TupAny
import KE.KDictKeyed
import HandS.IsInst
import HandS.Style
import HandS.Flow
import HandS.Deep
import KE.DataMinMax
import HandS.Walk
import HandS.Zip
import HandS.TupSets
import HandS.Iter
import KE.GoesMore
import KE.GoesEnum
import HandS.Dict
import KE.OsSetLaws
import HandS.More
import HandS.Replace
import HandS.Text
import PyProof.Rows.StrCase
import PyProof.WalksMore
import HandS.ExcCtx
import PySem.Challenge.RW_panecuts_k22_whole_listed
set_option Elab.async false
set_option linter.all false
set_option autoImplicit false
set_option maxRecDepth 100000
set_option maxHeartbeats 1000000
namespace PP
open PySem L2
theorem call_isP {X : Cx} {a D : Addr} {oe : Obj} (C : ExcC X.K D) (hp : (a, oe) ∈ X.pn) (hz : Zc (.ref D) none oe) (hf : ∃ vs, oe.data = .fields vs) : CallR X (.builtin "isinstance") (rIsE X.K D a) := by
  intro pins s σ H xs us Q I r h
  obtain ⟨cc, cv, bb, rfl, hcv, he, hq⟩ := h
  cases r with
  | cons rx r2 =>
    cases r2 with
    | cons rt r3 =>
      cases r3
      cases rx
      have e0 := hcv _ rt
      subst e0
      have hget := (I.pin (a, oe) (List.mem_append_left _ hp)).1
      obtain ⟨fs, hv⟩ := hf
      have J : PySem.W.InstAt s.heap a oe D none := by
        cases oe with
        | mk oc od oda osl =>
          obtain ⟨g1, g2⟩ := hz
          simp only at g1 g2 hv
          subst g1; subst g2; subst hv
          exact ⟨hget, rfl, rfl, trivial⟩
      have Kt := PySem.W.handS_kitx_exc (x := a) (ox := oe) C.hg C.hk C.hs C.hd C.ha C.hn C.ht C.hm
      refine PySem.W.kia_one Kt I.kIn J he (fun z => nomatch z) fun tk => ?_
      exact ⟨.bl bb, H, I.kept (t' := tk) fun _ _ z => z, rfl, hq⟩
def xnm : List Str := ["NoCuts", "NoMove", "NoPane", "NoPart", "NoJoin", "NoRoom", "NoNeeds", "NoText", "NoStep"]
def xwd : List Str := ["no cuts", "no move", "no pane", "no part", "no join", "no room", "no needs", "no text", "no step"]
def wordSc : Scope := { kind := .function, names := [("kept", .local), ("kinds", .local), ("words", .local), ("isinstance", .globalImplicit), ("NoCuts", .globalImplicit), ("NoMove", .globalImplicit), ("NoPane", .globalImplicit), ("NoPart", .globalImplicit), ("NoJoin", .globalImplicit), ("NoRoom", .globalImplicit), ("NoNeeds", .globalImplicit), ("NoText", .globalImplicit), ("NoStep", .globalImplicit), ("ValueError", .globalImplicit)], isGenerator := false, isCoroutine := false, more := [] }
def wordB (q : Nat → Pos) : List Stmt := [
  .Assign [.Name "kinds" (q 0)] (.List [.Call (.Name "isinstance" (q 1)) [.Name "kept" (q 2), .Name "NoCuts" (q 3)] [] (q 4), .Call (.Name "isinstance" (q 5)) [.Name "kept" (q 6), .Name "NoMove" (q 7)] [] (q 8)] (q 9)) (q 10),
  .Assign [.Name "kinds" (q 11)] (.BinOp (.Name "kinds" (q 12)) .Add (.List [.Call (.Name "isinstance" (q 13)) [.Name "kept" (q 14), .Name "NoPane" (q 15)] [] (q 16), .Call (.Name "isinstance" (q 17)) [.Name "kept" (q 18), .Name "NoPart" (q 19)] [] (q 20)] (q 21)) (q 22)) (q 23),
  .Assign [.Name "kinds" (q 24)] (.BinOp (.Name "kinds" (q 25)) .Add (.List [.Call (.Name "isinstance" (q 26)) [.Name "kept" (q 27), .Name "NoJoin" (q 28)] [] (q 29), .Call (.Name "isinstance" (q 30)) [.Name "kept" (q 31), .Name "NoRoom" (q 32)] [] (q 33)] (q 34)) (q 35)) (q 36),
  .Assign [.Name "kinds" (q 37)] (.BinOp (.Name "kinds" (q 38)) .Add (.List [.Call (.Name "isinstance" (q 39)) [.Name "kept" (q 40), .Name "NoNeeds" (q 41)] [] (q 42), .Call (.Name "isinstance" (q 43)) [.Name "kept" (q 44), .Name "NoText" (q 45)] [] (q 46)] (q 47)) (q 48)) (q 49),
  .Assign [.Name "words" (q 50)] (.Tuple [.Constant (.str "no cuts") 0 (q 51), .Constant (.str "no move") 0 (q 52), .Constant (.str "no pane") 0 (q 53), .Constant (.str "no part") 0 (q 54), .Constant (.str "no join") 0 (q 55), .Constant (.str "no room") 0 (q 56)] 0 (q 57)) (q 58),
  .Assign [.Name "words" (q 59)] (.BinOp (.Name "words" (q 60)) .Add (.Tuple [.Constant (.str "no needs") 0 (q 61), .Constant (.str "no text") 0 (q 62), .Constant (.str "no step") 0 (q 63)] 0 (q 64)) (q 65)) (q 66),
  .Expr (.Call (.Attribute (.Name "kinds" (q 67)) "append" (q 68)) [.Call (.Name "isinstance" (q 69)) [.Name "kept" (q 70), .Name "NoStep" (q 71)] [] (q 72)] [] (q 73)) (q 74),
  .If (.BoolOp .Or [.Compare (.Call (.Attribute (.Name "kinds" (q 75)) "count" (q 76)) [.Constant (.bool true) 0 (q 77)] [] (q 78)) [.NotEq] [.Constant (.int 1) 0 (q 79)] (q 80), .UnaryOp .Not (.Call (.Name "isinstance" (q 81)) [.Name "kept" (q 82), .Name "ValueError" (q 83)] [] (q 84)) (q 85)] (q 86)) [.Return (some (.Constant (.str "wrong") 0 (q 87))) (q 88)] [] (q 89),
  .Return (some (.Subscript (.Name "words" (q 90)) (.Call (.Attribute (.Name "kinds" (q 91)) "index" (q 92)) [.Constant (.bool true) 0 (q 93)] [] (q 94)) (q 95))) (q 96)]
def wordN : List Str := ["kept", "kinds", "words"]
/-- what the classes are -/
structure Xc (K : PySem.W.Frag) (mg : Str → Option Value) (cs : Nat → Addr) (c : Nat) : Prop where
  lt : c < 9
  at_ : ∀ k x, xnm[k]? = some x → mg x = some (.ref (cs k))
  ex : ExcC K (cs c)
  is : ∀ k, k < 9 → PySem.W.kitOne K (.ref (cs c)) (.ref (cs k)) = some (decide (k = c))
  ve : PySem.W.kitOne K (.ref (cs c)) (.type "ValueError") = some true
  b1 : mg "isinstance" = none
  b2 : mg "ValueError" = none
structure Wx (X : Cx) (cs : Nat → Addr) (c : Nat) (a : Addr) : Prop where
  xc : Xc X.K X.mg cs c
  N : X.N = wordN
  sc : X.env.scope = wordSc
  ci : CallR X (.builtin "isinstance") (rIsE X.K (cs c) a)
  fn : ∀ x, X.fn x = true
def tI (a : Addr) (c k : Nat) : TE := fun σ H Q => σ[0]? = some (some (.ref a)) ∧ Q (.bl (decide (k = c))) H
section
variable {X : Cx} {cs : Nat → Addr} {c : Nat} {a : Addr}
theorem pe_of' {e : Expr} {t t' : TE} (h : PE X e t) (w : ∀ σ H Q, t' σ H Q → t σ H Q) : PE X e t' := ⟨fun pins s σ H Q I q => h.run pins s σ H Q I (w σ H Q q)⟩
theorem w_var (w : Wx X cs c a) {i : Nat} {x : Str} {p : Pos} (h : wordN[i]? = some x) (hv : wordSc.names.lookup x = some .local) (h1 : (x == ("__debug__" : Str)) = false) (h2 : (x == ("__classdict__" : Str)) = false) : PE X (.Name x p) (tVar i) :=
  pe_var (by rw [w.N]; exact h) (.inl (by rw [w.sc]; exact hv)) h1 h2
theorem w_gl (w : Wx X cs c a) {x : Str} (h : wordSc.names.lookup x = some .globalImplicit) : Gl X x := by
  show X.env.scope.names.lookup x = _
  rw [w.sc]; exact h
theorem w_isi (w : Wx X cs c a) {x : Str} {k : Nat} {p1 p2 p3 p4 : Pos} (hk : xnm[k]? = some x) (hg : wordSc.names.lookup x = some .globalImplicit) (hd : (x == ("__debug__" : Str)) = false) : PE X (.Call (.Name "isinstance" p1) [.Name "kept" p2, .Name x p3] [] p4) (tI a c k) := by
  have hlt : k < 9 := (List.getElem?_eq_some_iff.mp hk).1
  refine pe_of' (pe_callB w.ci (w_gl w rfl) w.xc.b1 PyProof.Rows.boot_isinstance (pa_cons (w_var w (i := 0) rfl rfl (by decide) (by decide)) (pa_cons (pe_glob (v := .ref (cs k)) (w_gl w hg) (w.xc.at_ k x hk) rfl hd) pa_nil))) fun σ H Q h => ?_
  exact ⟨_, h.1, _, _, _, rfl, fun u r => r, w.xc.is k hlt, h.2⟩
theorem w_isv (w : Wx X cs c a) {p1 p2 p3 p4 : Pos} : PE X (.Call (.Name "isinstance" p1) [.Name "kept" p2, .Name "ValueError" p3] [] p4) (fun σ H Q => σ[0]? = some (some (.ref a)) ∧ Q (.bl true) H) := by
  refine pe_of' (pe_callB w.ci (w_gl w rfl) w.xc.b1 PyProof.Rows.boot_isinstance (pa_cons (w_var w (i := 0) rfl rfl (by decide) (by decide)) (pa_cons (pe_bltn (v := .ty "ValueError") (u := .type "ValueError") (w_gl w rfl) w.xc.b2 (by rfl) rfl) pa_nil))) fun σ H Q h => ?_
  exact ⟨_, h.1, _, _, _, rfl, fun u r => r, w.xc.ve, h.2⟩
structure Wst (H0 : Hp) (a l : Addr) (bs : List V) (σ : St) (H : Hp) : Prop where
  sm : ∀ b o, H0 b = some o → H b = some o
  k0 : σ[0]? = some (some (.ref a))
  k1 : σ[1]? = some (some (.ref l))
  ln : σ.length = 3
  fr : H0 l = none
  at_ : H l = some (.lst bs)
theorem ps_of' {st : Stmt} {t t' : TS} (h : PS X st t) (w : ∀ D σ H, t' D σ H → t D σ H) : PS X st t' := ⟨fun pins s σ H D I q => h.run pins s σ H D I (w D σ H q)⟩
theorem pss_of' {st : List Stmt} {t t' : TS} (h : PSs X st t) (w : ∀ D σ H, t' D σ H → t D σ H) : PSs X st t' := ⟨fun pins s σ H D I q => h.run pins s σ H D I (w D σ H q)⟩
/-- kinds = kinds + [isinstance(kept, X), isinstance(kept, Y)] -/
theorem w_more (w : Wx X cs c a) {x y : Str} {i j : Nat} {p1 p2 p3 p4 p5 p6 p7 p8 p9 p10 p11 p12 p13 : Pos} (hx : xnm[i]? = some x) (hy : xnm[j]? = some y) (gx : wordSc.names.lookup x = some .globalImplicit) (gy : wordSc.names.lookup y = some .globalImplicit) (dx : (x == ("__debug__" : Str)) = false) (dy : (y == ("__debug__" : Str)) = false) :
    PS X (.Assign [.Name "kinds" p1] (.BinOp (.Name "kinds" p2) .Add (.List [.Call (.Name "isinstance" p3) [.Name "kept" p4, .Name x p5] [] p6, .Call (.Name "isinstance" p7) [.Name "kept" p8, .Name y p9] [] p10] p11) p12) p13)
      (fun D σ H => ∃ H0 l bs, Wst H0 a l bs σ H ∧ bs.length ≤ 9 ∧ ∀ σ' H' l', Wst H0 a l' (bs ++ [.bl (decide (i = c)), .bl (decide (j = c))]) σ' H' → σ'[2]? = σ[2]? → D.nx σ' H') := by
  refine ps_of' (ps_set (i := 1) (by rw [w.N]; decide) (by rw [w.N]; rfl) (.inl (by rw [w.sc]; rfl)) (pe_op op_cat (w_var w (i := 1) rfl rfl (by decide) (by decide)) (pe_lst (pa_cons (w_isi w hx gx dx) (pa_cons (w_isi w hy gy dy) pa_nil)))) (hf := .inl (w.fn _))) fun D σ H h => ?_
  obtain ⟨H0, l, bs, W, hl, h⟩ := h
  refine ⟨_, W.k1, W.k0, W.k0, by show 2 ≤ sizeLine; decide, fun p hp => ?_⟩
  have nl : l ≠ p := fun e => by rw [← e, W.at_] at hp; cases hp
  refine ⟨l, p, bs, _, rfl, rfl, by rw [upd_ne nl]; exact W.at_, upd_same, ?_, fun p' hp' => ?_⟩
  · simp only [List.length_cons, List.length_nil]
    exact Nat.le_trans (Nat.add_le_add_right hl 2) (by decide)
  · refine h _ _ p' ⟨fun b o e => ?_, ?_, ?_, ?_, ?_, upd_same⟩ ?_
    · have e1 := W.sm b o e
      have n1 : b ≠ p := fun z => by rw [z, hp] at e1; cases e1
      have e2 : upd H p (.lst [.bl (decide (i = c)), .bl (decide (j = c))]) b = some o := by rw [upd_ne n1]; exact e1
      have n2 : b ≠ p' := fun z => by rw [z] at e2; rw [e2] at hp'; cases hp'
      rw [upd_ne n2]; exact e2
    · rw [List.getElem?_set_ne (by decide)]; exact W.k0
    · rw [List.getElem?_set_self (by rw [W.ln]; decide)]
    · rw [List.length_set]; exact W.ln
    · cases q : H0 p' with
      | none => rfl
      | some o =>
        have e1 := W.sm p' o q
        have n1 : p' ≠ p := fun z => by rw [z, hp] at e1; cases e1
        rw [upd_ne n1, e1] at hp'; cases hp'
    · rw [List.getElem?_set_ne (by decide)]
/-- kinds = [isinstance(kept, X), isinstance(kept, Y)] -/
theorem w_first (w : Wx X cs c a) {x y : Str} {i j : Nat} {p1 p3 p4 p5 p6 p7 p8 p9 p10 p11 p13 : Pos} (hx : xnm[i]? = some x) (hy : xnm[j]? = some y) (gx : wordSc.names.lookup x = some .globalImplicit) (gy : wordSc.names.lookup y = some .globalImplicit) (dx : (x == ("__debug__" : Str)) = false) (dy : (y == ("__debug__" : Str)) = false) :
    PS X (.Assign [.Name "kinds" p1] (.List [.Call (.Name "isinstance" p3) [.Name "kept" p4, .Name x p5] [] p6, .Call (.Name "isinstance" p7) [.Name "kept" p8, .Name y p9] [] p10] p11) p13)
      (fun D σ H => σ[0]? = some (some (.ref a)) ∧ σ.length = 3 ∧ ∀ σ' H' l', Wst H a l' [.bl (decide (i = c)), .bl (decide (j = c))] σ' H' → D.nx σ' H') := by
  refine ps_of' (ps_set (i := 1) (by rw [w.N]; decide) (by rw [w.N]; rfl) (.inl (by rw [w.sc]; rfl)) (pe_lst (pa_cons (w_isi w hx gx dx) (pa_cons (w_isi w hy gy dy) pa_nil))) (hf := .inl (w.fn _))) fun D σ H h => ?_
  obtain ⟨h0, hl, h⟩ := h
  refine ⟨h0, h0, by show 2 ≤ sizeLine; decide, fun p hp => ?_⟩
  refine h _ _ p ⟨fun b o e => ?_, ?_, ?_, ?_, hp, upd_same⟩
  · have n1 : b ≠ p := fun z => by rw [z, hp] at e; cases e
    rw [upd_ne n1]; exact e
  · rw [List.getElem?_set_ne (by decide)]; exact h0
  · rw [List.getElem?_set_self (by rw [hl]; decide)]
  · rw [List.length_set]; exact hl
/-- .. with the row of words -/
structure Wst2 (H0 : Hp) (a l t : Addr) (bs ws : List V) (σ : St) (H : Hp) : Prop where
  w : Wst H0 a l bs σ H
  k2 : σ[2]? = some (some (.ref t))
  tp : H t = some (.tup ws)
theorem Wst.new {H0 H : Hp} {l p : Addr} {bs : List V} {σ : St} {o : HO} (W : Wst H0 a l bs σ H) (hp : H p = none) : Wst H0 a l bs (σ.set 2 (some (.ref p))) (upd H p o) ∧ (σ.set 2 (some (V.ref p)))[2]? = some (some (.ref p)) := by
  have nl : l ≠ p := fun e => by rw [← e, W.at_] at hp; cases hp
  refine ⟨⟨fun b o e => ?_, ?_, ?_, ?_, W.fr, ?_⟩, ?_⟩
  · have e1 := W.sm b o e
    have n1 : b ≠ p := fun z => by rw [z, hp] at e1; cases e1
    rw [upd_ne n1]; exact e1
  · rw [List.getElem?_set_ne (by decide)]; exact W.k0
  · rw [List.getElem?_set_ne (by decide)]; exact W.k1
  · rw [List.length_set]; exact W.ln
  · rw [upd_ne nl]; exact W.at_
  · rw [List.getElem?_set_self (by rw [W.ln]; decide)]
theorem w_words (w : Wx X cs c a) {x1 x2 x3 x4 x5 x6 : Str} {p0 p1 p2 p3 p4 p5 p6 p7 p8 : Pos} :
    PS X (.Assign [.Name "words" p0] (.Tuple [.Constant (.str x1) 0 p1, .Constant (.str x2) 0 p2, .Constant (.str x3) 0 p3, .Constant (.str x4) 0 p4, .Constant (.str x5) 0 p5, .Constant (.str x6) 0 p6] 0 p7) p8)
      (fun D σ H => ∃ H0 l bs, Wst H0 a l bs σ H ∧ ∀ σ' H' t, Wst2 H0 a l t bs [.str x1, .str x2, .str x3, .str x4, .str x5, .str x6] σ' H' → D.nx σ' H') := by
  refine ps_of' (ps_set (i := 2) (by rw [w.N]; decide) (by rw [w.N]; rfl) (.inl (by rw [w.sc]; rfl)) (pe_tup (pa_cons pe_str (pa_cons pe_str (pa_cons pe_str (pa_cons pe_str (pa_cons pe_str (pa_cons pe_str pa_nil))))))) (hf := .inl (w.fn _))) fun D σ H h => ?_
  obtain ⟨H0, l, bs, W, h⟩ := h
  refine ⟨by show 6 ≤ sizeLine; decide, fun p hp => ?_⟩
  obtain ⟨W1, k2⟩ := W.new (o := .tup [.str x1, .str x2, .str x3, .str x4, .str x5, .str x6]) hp
  exact h _ _ p ⟨W1, k2, upd_same⟩
theorem w_words2 (w : Wx X cs c a) {x1 x2 x3 : Str} {p0 p1 p2 p3 p4 p5 p6 p7 : Pos} :
    PS X (.Assign [.Name "words" p0] (.BinOp (.Name "words" p1) .Add (.Tuple [.Constant (.str x1) 0 p2, .Constant (.str x2) 0 p3, .Constant (.str x3) 0 p4] 0 p5) p6) p7)
      (fun D σ H => ∃ H0 l t bs ws, Wst2 H0 a l t bs ws σ H ∧ ws ≠ [] ∧ ws.length ≤ 9 ∧ ∀ σ' H' t', Wst2 H0 a l t' bs (ws ++ [.str x1, .str x2, .str x3]) σ' H' → D.nx σ' H') := by
  refine ps_of' (ps_set (i := 2) (by rw [w.N]; decide) (by rw [w.N]; rfl) (.inl (by rw [w.sc]; rfl)) (pe_op op_catA (w_var w (i := 2) rfl rfl (by decide) (by decide)) (pe_tup (pa_cons pe_str (pa_cons pe_str (pa_cons pe_str pa_nil))))) (hf := .inl (w.fn _))) fun D σ H h => ?_
  obtain ⟨H0, l, t, bs, ws, W, hne, hl, h⟩ := h
  refine ⟨_, W.k2, by show 3 ≤ sizeLine; decide, fun p hp => ?_⟩
  have nt : t ≠ p := fun e => by rw [← e, W.tp] at hp; cases hp
  obtain ⟨W1, _⟩ := W.w.new (o := .tup [.str x1, .str x2, .str x3]) hp
  refine ⟨t, p, ws, _, rfl, rfl, .inl (.inl (by rw [upd_ne nt]; exact W.tp)), .inl (.inl upd_same), ?_, fun z => absurd z hne, (fun _ z => by cases z), fun _ _ p' hp' => ?_⟩
  · simp only [List.length_cons, List.length_nil]
    exact Nat.le_trans (Nat.add_le_add_right hl 3) (by decide)
  · obtain ⟨W2, k2⟩ := W1.new (o := .tup (ws ++ [.str x1, .str x2, .str x3])) hp'
    have es : (σ.set 2 (some (V.ref p))).set 2 (some (.ref p')) = σ.set 2 (some (.ref p')) := by rw [List.set_set]
    rw [es] at W2 k2
    exact h _ _ p' ⟨W2, k2, upd_same⟩
/-- kinds.append(isinstance(kept, X)) -/
theorem w_app (w : Wx X cs c a) {x : Str} {i : Nat} {p1 p2 p3 p4 p5 p6 p7 p8 : Pos} (hx : xnm[i]? = some x) (gx : wordSc.names.lookup x = some .globalImplicit) (dx : (x == ("__debug__" : Str)) = false) (hp : (p2.endLine == p7.line) = true) :
    PS X (.Expr (.Call (.Attribute (.Name "kinds" p1) "append" p2) [.Call (.Name "isinstance" p3) [.Name "kept" p4, .Name x p5] [] p6] [] p7) p8)
      (fun D σ H => ∃ H0 l t bs ws, Wst2 H0 a l t bs ws σ H ∧ bs.length ≤ 9 ∧ ∀ H', Wst2 H0 a l t (bs ++ [.bl (decide (i = c))]) ws σ H' → D.nx σ H') := by
  refine ps_of' (ps_expr (pe_bm PySem.F.plainAttrs_list PySem.F.slot_list_append PySem.F.type_list_append mt_append (w_var w (i := 1) rfl rfl (by decide) (by decide)) (pa_cons (w_isi w hx gx dx) pa_nil) rfl rfl hp)) fun D σ H h => ?_
  obtain ⟨H0, l, t, bs, ws, W, hl, h⟩ := h
  refine ⟨_, W.w.k1, .inl ⟨rfl, _, .inl (.inl W.w.at_)⟩, W.w.k0, l, bs, _, rfl, rfl, W.w.at_, Nat.lt_of_le_of_lt hl (by decide), ?_⟩
  have nt : t ≠ l := fun e => by
    have h1 := W.tp
    rw [e, W.w.at_] at h1
    cases h1
  refine h _ ⟨⟨fun b o e => ?_, W.w.k0, W.w.k1, W.w.ln, W.w.fr, upd_same⟩, W.k2, by rw [upd_ne nt]; exact W.tp⟩
  have n1 : b ≠ l := fun z => by rw [z, W.w.fr] at e; cases e
  rw [upd_ne n1]; exact W.w.sm b o e
def rCountF (K : PySem.W.Frag) : V → List V → Hp → VK → Prop := fun x xs H Q => ∃ (p : Addr) (ys : List V) (y : V), x = V.ref p ∧ xs = [y] ∧ SqL K H p ys ∧ flatV y = true ∧ ys.all flatV = true ∧ Q (.int ((ys.countP fun z => eqV z y : Nat) : Int)) H
theorem countU {y : V} : ∀ {ys : List V} {us : List Value}, Vals ys us → ys.all flatV = true → us.countP (eqU y) = ys.countP fun z => eqV z y
  | _, _, .nil, _ => rfl
  | z :: zs, u :: us, .cons r t, f => by
    rw [List.all_cons, Bool.and_eq_true] at f
    rw [List.countP_cons, List.countP_cons, countU t f.2, eqU_of r f.1]
theorem mt_countF : MtR X "list.count" (rCountF X.K) := by
  intro pins s σ H x xs v us Q I rx rxs h
  obtain ⟨p, ys, y, rfl, rfl, hs, fy, fys, q⟩ := h
  cases rx
  cases rxs with
  | cons ry rt =>
    rename_i uy ut
    cases rt
    obtain ⟨its, rv, ⟨⟨cls, dd, data, sl⟩, n, ho, hc, hdn, hd⟩, hlen⟩ := I.list hs
    simp only at hc hd
    subst hc hd
    refine call_meets PySem.F.slot_list_count ⟨_, ho, rfl⟩ PySem.F.entry_list_count (PySem.F.args_list_count_2 _ _)
      (SeqAt.list_countAt p its.toArray n dd sl uy (eqU y)) ⟨ho, fun u' hu' => mem_eqAt ry fy rv fys u' (by simpa using hu'), ?_⟩
    have ec : its.toArray.toList.countP (eqU y) = ys.countP fun z => eqV z y := countU rv fys
    refine ⟨.int ((ys.countP fun z => eqV z y : Nat) : Int), H, I.tok _, ⟨s.toks, ?_⟩, q⟩
    rw [ec]
def kindsV (c : Nat) : List V := (List.range 9).map fun k => .bl (decide (k = c))
/-- if kinds.count(True) != 1 or not isinstance(kept, ValueError): return .. -/
theorem w_if (w : Wx X cs c a) {y : Str} {p1 p2 p3 p4 p5 p6 p7 p8 p9 p10 p11 p12 p13 p14 p15 : Pos} (hp : (p2.endLine == p4.line) = true) :
    PS X (.If (.BoolOp .Or [.Compare (.Call (.Attribute (.Name "kinds" p1) "count" p2) [.Constant (.bool true) 0 p3] [] p4) [.NotEq] [.Constant (.int 1) 0 p5] p6, .UnaryOp .Not (.Call (.Name "isinstance" p7) [.Name "kept" p8, .Name "ValueError" p9] [] p10) p11] p12) [.Return (some (.Constant (.str y) 0 p13)) p14] [] p15)
      (fun D σ H => ∃ H0 l t ws, Wst2 H0 a l t (kindsV c) ws σ H ∧ D.nx σ H) := by
  refine ps_of' (ps_if (PW.pt (pw_or (pt_cmpR op_ne (pe_bm PySem.F.plainAttrs_list PySem.F.slot_list_count PySem.F.type_list_count mt_countF (w_var w (i := 1) rfl rfl (by decide) (by decide)) (pa_cons pe_bl pa_nil) rfl rfl hp) pe_int rfl) (pw_or1 (pt_not (pt_truth (w_isv w) fun _ => rfl))))) (pss_one (ps_ret pe_str)) pss_nil) fun D σ H h => ?_
  obtain ⟨H0, l, t, ws, W, h⟩ := h
  refine ⟨_, W.w.k1, .inl ⟨rfl, _, .inl (.inl W.w.at_)⟩, l, _, _, rfl, rfl, .inl (.inl W.w.at_), rfl, ?_, ?_⟩
  · simp [kindsV, flatV]
  · have hlt := w.xc.lt
    have ec : ((kindsV c).countP fun z => eqV z (.bl true)) = 1 := by
      obtain rfl | rfl | rfl | rfl | rfl | rfl | rfl | rfl | rfl : c = 0 ∨ c = 1 ∨ c = 2 ∨ c = 3 ∨ c = 4 ∨ c = 5 ∨ c = 6 ∨ c = 7 ∨ c = 8 := by omega
      all_goals decide
    rw [ec]
    refine ⟨rfl, _, rfl, ?_⟩
    exact ⟨W.w.k0, true, rfl, h⟩
/-- return words[kinds.index(True)] -/
theorem w_ret (w : Wx X cs c a) {p1 p2 p3 p4 p5 p6 p7 : Pos} (hp : (p3.endLine == p5.line) = true) :
    PS X (.Return (some (.Subscript (.Name "words" p1) (.Call (.Attribute (.Name "kinds" p2) "index" p3) [.Constant (.bool true) 0 p4] [] p5) p6)) p7)
      (fun D σ H => ∃ H0 l t ws v, Wst2 H0 a l t (kindsV c) ws σ H ∧ ws[c]? = some v ∧ D.rt v H) := by
  refine ps_of' (ps_ret (pe_ix ix_seq (w_var w (i := 2) rfl rfl (by decide) (by decide)) (pe_bm PySem.F.plainAttrs_list PySem.F.slot_list_index PySem.F.type_list_index mt_index (w_var w (i := 1) rfl rfl (by decide) (by decide)) (pa_cons pe_bl pa_nil) rfl rfl hp) (fun _ _ => rfl))) fun D σ H h => ?_
  obtain ⟨H0, l, t, ws, v, W, hv, h⟩ := h
  have hlt := w.xc.lt
  refine ⟨_, W.k2, _, W.w.k1, .inl ⟨rfl, _, .inl (.inl W.w.at_)⟩, l, _, _, c, .bl true, rfl, rfl, .inl (.inl W.w.at_), rfl, ?_, ?_, rfl, ?_, ?_⟩
  · simp [kindsV, flatV]
  · simp [kindsV, hlt]
  · intro m z hm hz
    have hm9 : m < 9 := by omega
    have hmc : ¬ m = c := by omega
    simp [kindsV, hm9, hmc] at hz
    subst hz
    rfl
  · exact .inr (.inl ⟨t, ws, c, v, rfl, rfl, .inl (.inl W.tp), L2.atI_nat hv, h⟩)
theorem w_body (w : Wx X cs c a) (q : Nat → Pos) (h1 : ((q 68).endLine == (q 73).line) = true) (h2 : ((q 76).endLine == (q 78).line) = true) (h3 : ((q 92).endLine == (q 94).line) = true) :
    PSs X (wordB q) (fun D σ H => σ[0]? = some (some (.ref a)) ∧ σ.length = 3 ∧ ∀ H', (∀ b o, H b = some o → H' b = some o) → ∀ v, xwd[c]? = some v → D.rt (.str v) H') := by
  refine pss_of' (pss_cons (w_first w (i := 0) (j := 1) rfl rfl rfl rfl (by decide) (by decide)) (pss_cons (w_more w (i := 2) (j := 3) rfl rfl rfl rfl (by decide) (by decide)) (pss_cons (w_more w (i := 4) (j := 5) rfl rfl rfl rfl (by decide) (by decide)) (pss_cons (w_more w (i := 6) (j := 7) rfl rfl rfl rfl (by decide) (by decide)) (pss_cons (w_words w) (pss_cons (w_words2 w) (pss_cons (w_app w (i := 8) rfl rfl (by decide) h1) (pss_cons (w_if w h2) (pss_one (w_ret w h3))))))))) ) fun D σ H h => ?_
  obtain ⟨h0, hl, h⟩ := h
  refine ⟨h0, hl, fun σ1 H1 l1 W1 => ?_⟩
  refine ⟨H, l1, _, W1, by simp, fun σ2 H2 l2 W2 _ => ?_⟩
  refine ⟨H, l2, _, W2, by simp, fun σ3 H3 l3 W3 _ => ?_⟩
  refine ⟨H, l3, _, W3, by simp, fun σ4 H4 l4 W4 _ => ?_⟩
  refine ⟨H, l4, _, W4, fun σ5 H5 t5 W5 => ?_⟩
  refine ⟨H, l4, t5, _, _, W5, by simp, by decide, fun σ6 H6 t6 W6 => ?_⟩
  refine ⟨H, l4, t6, _, _, W6, by simp, fun H7 W7 => ?_⟩
  refine ⟨H, l4, t6, _, W7, ?_⟩
  have hlt := w.xc.lt
  have hv : ∃ v, xwd[c]? = some v := ⟨xwd[c]'hlt, List.getElem?_eq_getElem hlt⟩
  obtain ⟨v, hv⟩ := hv
  refine ⟨H, l4, t6, _, .str v, W7, ?_, h _ W7.w.sm v hv⟩
  have e : ([.str "no cuts", .str "no move", .str "no pane", .str "no part", .str "no join", .str "no room"] ++ [.str "no needs", .str "no text", .str "no step"] : List V) = xwd.map V.str := rfl
  rw [e, List.getElem?_map, hv]; rfl
end
theorem wordS : FnScope wordN ["kept"] wordSc := ⟨rfl, rfl, rfl, by decide, rfl, fun x hx => by
  have : x = "kept" := by simpa using hx
  subst this; exact .inl rfl, fun y hy => by
  simp only [wordSc, List.mem_cons, List.not_mem_nil, or_false] at hy
  rcases hy with rfl | rfl | rfl | rfl | rfl | rfl | rfl | rfl | rfl | rfl | rfl | rfl | rfl | rfl <;> exact fun z => by cases z⟩
/-- _law_word(e), in the suite of an except clause -/
theorem pe_word {Y : Cx} {a f : Addr} {oe : Obj} {c i : Nat} {cs : Nat → Addr} {st : Stmt} {fd : FuncData} {q : Nat → Pos} {p1 p2 p3 : Pos} {x : Str} (hp : (a, oe) ∈ Y.pn) (hot : L2H.Hot1 Y.A (a, oe)) (hz : Zc (.ref (cs c)) none oe)
    (F : Fun Y.K "_law_word" "_law_word" st f fd) (hm : Y.mg "_law_word" = some (.ref f)) (hb : Binds Y.K fd ["kept"] []) (hst : defBody st = wordB q) (hsc : defScope st = wordSc) (hr : L2H.RoomH 1 Y.A) (xc : Xc Y.K Y.mg cs c) (hg : Gl Y "_law_word") (hx : PE Y (.Name x p2) (tVar i))
    (h1 : ((q 68).endLine == (q 73).line) = true) (h2 : ((q 76).endLine == (q 78).line) = true) (h3 : ((q 92).endLine == (q 94).line) = true) :
    PE Y (.Call (.Name "_law_word" p1) [.Name x p2] [] p3) (fun σ H Q => σ[i]? = some (some (.ref a)) ∧ ∀ H', (∀ b o, H b = some o → H' b = some o) → ∀ v, xwd[c]? = some v → Q (.str v) H') := by
  refine ⟨fun pins s σ H Q I h => ?_⟩
  obtain ⟨hi, h⟩ := h
  refine wpAny_Call_Name_kw (ld_glob I hg hm ?_ (by decide))
  have hA : PA Y [.Name x p2] (tCons (tVar i) tNil) := pa_cons hx pa_nil
  refine PySem.W.callWith_K (h₀ := Y.base) I.ok.mod.kin F.kp (thn (hA.run p3 pins s σ H (fun vs H1 => vs = [V.ref a] ∧ H1 = H) I ⟨_, hi, rfl, rfl⟩) fun us s1 hh => ?_) rfl rfl
  obtain ⟨vs, H1, I1, r, ev, eH⟩ := hh
  subst ev
  subst eH
  refine ⟨I1.kIn, ?_⟩
  have P1 := I1.pin (a, oe) (List.mem_append_left _ hp)
  have pk : L2H.PinOk Y.stack H1 s1 (a, oe) := ⟨P1.1, P1.2.1, fun hm => (List.mem_cons.mp (I1.stkSub a hm)).elim P1.2.2.1 P1.2.2.2.1, P1.2.2.2.2⟩
  have e0 := I1.env0
  have bd := hb s1 us I1.kIn (by rw [List.append_nil, ← r.length]; rfl)
  rw [List.append_nil] at bd
  obtain ⟨oc, od, kV, doc, pm, an, cdv, ct, osl, rfl, lk, hcd⟩ := F.ex
  have lm : s1.heap.NoLimit := e0.mod.nolimit.keeps fun b o e => (e0.bs b o e).1
  have S : FnScope wordN ["kept"] (defScope st) := by rw [hsc]; exact wordS
  have hk : ∀ y ∈ (["kept"] : List Str).zip us, (defScope st).names.lookup y.1 = some .local ∨ ((defScope st).names.lookup y.1 = some .cell ∧ ((cellsFrom (s1.heap.objs.size + 1) (defScope st).names []).lookup y.1).isSome = true) := fun y hy => by
    obtain ⟨n, v⟩ := y
    rcases S.par n (List.of_mem_zip hy).1 with k | k
    · exact .inl k
    · exact .inr ⟨k, PySem.W.cellsFrom_some _ _ _ (.inl k)⟩
  refine wpAny_call (codeAny_mono (R := CR CX0 Y.stack Y.prog Y.w H1 s1 Q E0) ?_ fun o s' hq => ?_)
  · refine codeAny_call_function hr.depth (I1.kIn _ _ lk) rfl S.co S.gen rfl (PySem.W.codeRec_of I1.kIn hcd) (bd _ _ _ _ ?_)
    refine wpAny_newFunctionEnv_cells S.kind hk fun env he s2 z => ?_
    subst he
    refine ⟨lm.keeps z.toInCall.keep, codeAny_func ?_⟩
    have J := L2H.inv_startH (CX := CX0) (E := E0) S pk e0 rfl r z
    have W : Wx (L2H.cxH CX0 Y.prog Y.w Y.K Y.mg Y.base wordN "_law_word" (defScope st) f cdv Y.A Y.stack s1 H1 E0 (a, oe)) cs c a := ⟨xc, rfl, hsc, call_isP xc.ex (List.mem_singleton.mpr rfl) hz (by obtain ⟨_, fs, e, _⟩ := hot; exact ⟨fs, e⟩), fun _ => rfl⟩
    rw [hst]
    refine wpAny_mono ((w_body W q h1 h2 h3).run [] s2 (L2.start wordN [.ref a]) H1 { nx := fun _ H' => Q .non H', rt := Q } J ⟨rfl, rfl, h⟩) (fun fl s' hs => ?_) fun e s' hs => hs
    cases fl with
    | ret u =>
      obtain ⟨v, σ', H', J', rv, q'⟩ := hs
      exact ⟨v, H', J'.os, J'.bare, J'.base, J'.hok, rv, q'⟩
    | next =>
      obtain ⟨σ', H', J', q'⟩ := hs
      exact ⟨.non, H', J'.os, J'.bare, J'.base, J'.hok, rfl, q'⟩
    | brk => obtain ⟨_, _, _, q'⟩ := hs; exact q'.elim
    | cont => obtain ⟨_, _, _, q'⟩ := hs; exact q'.elim
  · cases o with
    | error e => exact hq.elim
    | ok fl =>
      cases fl with
      | ret u => exact I1.after hq
      | next => exact hq.elim
      | brk => exact hq.elim
      | cont => exact hq.elim
end PP
set_option Elab.async false
set_option linter.all false
set_option autoImplicit false
set_option maxRecDepth 100000
namespace PP
open PySem
abbrev D := PyData
/-- what an expression yields, what a slot holds: a datum that never changes; a list of one's own; a list lent; the script -/
inductive R where
  | d (x : D)
  | l (xs : List D)
  | b (xs : List D)
  | s (xs : List D)
  | m (kvs : List (List Int × D))
  | n (kvs : List (List Int × D))
  | q
  | t (kvs : List (Str × D))
  /-- an object of the program's own class -/
  | o (a : Nat)
inductive Rs (α : Type) where
  | bad
  | err (c : Nat)
  | ok (a : α)
def Rs.bind {α β : Type} (m : Rs α) (k : α → Rs β) : Rs β :=
  match m with
  | .bad => .bad
  | .err c => .err c
  | .ok a => k a
instance : Monad Rs where
  pure := Rs.ok
  bind := Rs.bind
@[simp] theorem bind_ok {α β : Type} (a : α) (k : α → Rs β) : ((Rs.ok a : Rs α) >>= k) = k a := rfl
@[simp] theorem bind_bad {α β : Type} (k : α → Rs β) : ((Rs.bad : Rs α) >>= k) = .bad := rfl
@[simp] theorem bind_err {α β : Type} (c : Nat) (k : α → Rs β) : ((Rs.err c : Rs α) >>= k) = .err c := rfl
@[simp] theorem pure_ok {α : Type} (a : α) : (pure a : Rs α) = .ok a := rfl
@[simp] theorem rbind_ok {α β : Type} (a : α) (k : α → Rs β) : (Rs.ok a).bind k = k a := rfl
@[simp] theorem rbind_bad {α β : Type} (k : α → Rs β) : (Rs.bad : Rs α).bind k = .bad := rfl
@[simp] theorem rbind_err {α β : Type} (c : Nat) (k : α → Rs β) : (Rs.err c : Rs α).bind k = .err c := rfl
abbrev Sto := List (Option R)
/-- sizes -/
def lim : Nat := 100000
def fit {α : Type} (n : Nat) (k : Rs α) : Rs α := if n ≤ lim then k else .bad
theorem fit_ok {α : Type} {n : Nat} {k : Rs α} (h : n ≤ lim) : fit n k = k := if_pos h
/-- the items of a list, whichever -/
def R.lst? : R → Option (List D)
  | .d (.list xs) => some xs
  | .l xs => some xs
  | .b xs => some xs
  | _ => none
/-- .. of a list or a tuple -/
def R.seq? : R → Option (List D)
  | .d (.list xs) => some xs
  | .d (.tuple xs) => some xs
  | .l xs => some xs
  | .b xs => some xs
  | .s xs => some xs
  | _ => none
/-- what a walk goes over: not a list that is lent -/
def R.itm : R → Rs (List D)
  | .d (.list xs) => .ok xs
  | .d (.tuple xs) => .ok xs
  | .l xs => .ok xs
  | .s xs => .ok xs
  | _ => .bad
/-- as a datum that never changes; what is lent can not be frozen -/
def R.frz : R → Rs D
  | .d x => .ok x
  | .l xs => .ok (.list xs)
  | _ => .bad
/-- read as a datum, for a moment -/
def R.see : R → D
  | .d x => x
  | .l xs => .list xs
  | .b xs => .list xs
  | .s xs => .list xs
  | _ => .none
def R.isOwn : R → Bool
  | .l _ => true
  | .n _ => true
  | _ => false
def R.isD : R → Bool
  | .m _ => false
  | .o _ => false
  | .t _ => false
  | .n _ => false
  | .q => false
  | _ => true
inductive Op2 where
  | add | sub | mul | mod | fdiv
  deriving DecidableEq
inductive Cm where
  | eq | ne | lt | le | gt | ge | in_ | nin | is_ | isn
  deriving DecidableEq
def bnd (i : Int) : Bool := decide (-(2 ^ 64) < i) && decide (i < 2 ^ 64)
def addR : R → R → Rs R
  | .d (.int i), .d (.int j) => .ok (.d (.int (i + j)))
  | .d (.str x), .d (.str y) => fit (x.length + y.length) (.ok (.d (.str (x ++ y))))
  | .d (.tuple xs), .d (.tuple ys) => fit (xs.length + ys.length) (.ok (.d (.tuple (xs ++ ys))))
  | a, b => match a.lst?, b.lst? with
    | some xs, some ys => fit (xs.length + ys.length) (.ok (.l (xs ++ ys)))
    | _, _ => .bad
def subR : R → R → Rs R
  | .d (.int i), .d (.int j) => .ok (.d (.int (i - j)))
  | _, _ => .bad
def mulR : R → R → Rs R
  | .d (.int i), .d (.int j) => if bnd j || bnd i then .ok (.d (.int (i * j))) else .bad
  | .d (.str x), .d (.int k) => if k = 2 then fit (x.length + x.length) (.ok (.d (.str (x ++ x)))) else .bad
  | a, .d (.int k) => match a.lst? with
    | some xs => if decide (0 ≤ k) && decide (k ≤ 1000) then fit (xs.length * k.toNat) (.ok (.l (List.replicate k.toNat xs).flatten)) else .bad
    | none => .bad
  | _, _ => .bad
def modR : R → R → Rs R
  | .d (.int i), .d (.int j) => if 0 < j then .ok (.d (.int (i % j))) else .bad
  | _, _ => .bad
def fdivR : R → R → Rs R
  | .d (.int i), .d (.int j) => if 0 < j ∧ j < 1000000 then .ok (.d (.int (i / j))) else .bad
  | _, _ => .bad
def binR : Op2 → R → R → Rs R
  | .add => addR
  | .sub => subR
  | .mul => mulR
  | .mod => modR
  | .fdiv => fdivR
def shallow (a b : D) : Bool := decide (min a.depth b.depth ≤ 60)
def eqR (a b : R) : Rs Bool := if a.isD && b.isD && shallow a.see b.see then .ok (PyData.eqv a.see b.see) else .bad
def boolR (m : Rs Bool) : Rs R := match m with
  | .ok c => .ok (.d (.bool c))
  | .err c => .err c
  | .bad => .bad
/-- all ints -/
def ints? : List D → Option (List Int)
  | [] => some []
  | .int i :: r => match ints? r with
    | some l => some (i :: l)
    | none => none
  | _ :: _ => none
def ltR : R → R → Rs Bool
  | .d (.int i), .d (.int j) => .ok (decide (i < j))
  | .d (.tuple xs), .d (.tuple ys) => match ints? xs, ints? ys with
    | some ns, some ms => .ok (HT.lexLt ns ms)
    | _, _ => .bad
  | _, _ => .bad
def leR : R → R → Rs Bool
  | .d (.int i), .d (.int j) => .ok (decide (i ≤ j))
  | _, _ => .bad
def gtR : R → R → Rs Bool
  | .d (.int i), .d (.int j) => .ok (decide (j < i))
  | _, _ => .bad
def geR : R → R → Rs Bool
  | .d (.int i), .d (.int j) => .ok (decide (j ≤ i))
  | _, _ => .bad
def inR (a b : R) : Rs Bool :=
  match b with
  | .d (.str y) => match a with
    | .d (.str x) => .ok (!(Builtin.Str.occurrences y x 0 y.length 1).isEmpty)
    | _ => .bad
  | b => match b.seq? with
    | some ys => if a.isD && decide (a.see.depth ≤ 60) then .ok (ys.any fun z => PyData.eqv z a.see) else .bad
    | none => .bad
def isR : R → R → Rs Bool
  | .q, _ => .bad
  | .n _, _ => .bad
  | .o _, _ => .bad
  | .d .none, .d .none => .ok true
  | _, .d .none => .ok false
  | .d (.bool e), .d (.bool c) => .ok (decide (e = c))
  | _, _ => .bad
def notB : Rs Bool → Rs Bool
  | .ok c => .ok (!c)
  | .err c => .err c
  | .bad => .bad
def cmpR : Cm → R → R → Rs Bool
  | .eq, a, b => eqR a b
  | .ne, a, b => notB (eqR a b)
  | .lt, a, b => ltR a b
  | .le, a, b => leR a b
  | .gt, a, b => gtR a b
  | .ge, a, b => geR a b
  | .in_, a, b => inR a b
  | .nin, a, b => notB (inR a b)
  | .is_, a, b => isR a b
  | .isn, a, b => notB (isR a b)
def truR : R → Rs Bool
  | .d .none => .ok false
  | .d (.bool c) => .ok c
  | .d (.int i) => .ok (i != 0)
  | .d (.str x) => fit x.length (.ok ((x.length : Int) != 0))
  | .d (.list xs) => .ok (!xs.isEmpty)
  | .d (.tuple xs) => .ok (!xs.isEmpty)
  | .l xs => .ok (!xs.isEmpty)
  | .b xs => .ok (!xs.isEmpty)
  | _ => .bad
def idxR : R → R → Rs R
  | .d (.str x), .d (.int i) => match L2.atI x.cps.toList i with
    | some c => fit x.length (.ok (.d (.str ⟨#[c]⟩)))
    | none => .bad
  | a, .d (.int i) => match a.seq? with
    | some xs => match L2.atI xs i with
      | some x => .ok (.d x)
      | none => .bad
    | none => .bad
  | _, _ => .bad
def cutD {α : Type} (xs : List α) (lo hi : Option Int) : List α := (xs.drop (HT.sIx xs.length 0 lo)).take (HT.sIx xs.length xs.length hi - HT.sIx xs.length 0 lo)
def slcR (a : R) (lo hi : Option Int) : Rs R :=
  match a with
  | .d (.tuple xs) => .ok (.d (.tuple (cutD xs lo hi)))
  | .d (.str x) => fit x.length (.ok (.d (.str (L2.cutS x lo hi))))
  | a => match a.lst? with
    | some xs => .ok (.l (cutD xs lo hi))
    | none => .bad
inductive Bf where
  | len | int | tuple | list | max | min | all | any | sum | str | sorted | lenset | sortset | min1
  deriving DecidableEq
inductive Ty where
  | int | bool | str | tuple | list | none
  deriving DecidableEq
/-- a target: a name, a row of names -/
inductive Tg where
  | nm (i : Nat)
  | tp (is : List Nat)
mutual
inductive Ex where
  | var (i : Nat)
  | cst (x : D)
  | tup (es : Exs)
  | lst (es : Exs)
  | bin (o : Op2) (a b : Ex)
  | neg (a : Ex)
  | cmp (o : Cm) (a b : Ex)
  | chn (o p : Cm) (a b c : Ex)
  | and (a b : Ex)
  | or (a b : Ex)
  | not (a : Ex)
  | ite (c a b : Ex)
  | idx (a b : Ex)
  | slc (a : Ex) (lo hi : Exs)
  | rev (a : Ex)
  | call (f : Nat) (es : Exs)
  | blt (f : Bf) (es : Exs)
  | isi (t : Ty) (a : Ex)
  | isi2 (t u : Ty) (a : Ex)
  | lc (t : Tg) (it : It) (e : Ex)
  | lcf (t : Tg) (it : It) (c e : Ex)
  | lenset (a : Ex)
  | mget (i : Nat) (es : Exs)
  | upp (a : Ex)
  | lensi (a : Ex)
  | dget (kvs : List (Str × D)) (a : Ex)
  | din (neg : Bool) (kvs : List (Str × D)) (a : Ex)
  | dsel (ks : List Str) (es : Exs) (a : Ex)
  | stp (a k : Ex)
  | fnd (z : Str) (a : Ex)
  | tdsp (ks : List Str) (es : Exs)
  | tget (i : Nat) (a : Ex)
  | mhas (i : Nat) (a : Ex)
  | ssi (a : Ex)
  | cnt (o a : Ex)
  | ndl (a : Ex)
  | nds (a : Ex)
  | jn (z : Str) (a : Ex)
  | sidx (z : Str) (a : Ex)
  | scnt (a : Ex) (z : Str)
inductive Exs where
  | nil
  | cons (e : Ex) (es : Exs)
inductive It where
  | seq (e : Ex)
  | rng1 (a : Ex)
  | rng2 (a b : Ex)
  | enum (e : Ex)
  | zip (a b : Ex)
  | dks (kvs : List (Str × D))
end
mutual
inductive Sm where
  | asg (t : Tg) (e : Ex)
  | own (i : Nat) (e : Ex)
  | par (i j : Nat) (x y : Ex)
  | app (i : Nat) (e : Ex)
  | ext (i : Nat) (e : Ex)
  | put (i : Nat) (k e : Ex)
  | frz (i : Nat)
  | ifs (c : Ex) (a b : Sms)
  | for_ (t : Tg) (it : It) (b : Sms)
  | whl (c : Ex) (b : Sms)
  | ret (e : Ex)
  | rtl (i : Nat)
  | rse (c : Nat)
  | pas
  | nev
  | exp (e : Ex)
  | mnew (i : Nat)
  | mput (i : Nat) (es : Exs) (e : Ex)
  | rtm (i : Nat)
  | mas (i : Nat) (e : Ex)
  | tryw (i : Nat) (b : Sms)
  | popf (j i : Nat)
  | nat (f : (Nat → List R → Rs R) → List (Option R) → Rs R)
inductive Sms where
  | nil
  | cons (s : Sm) (ss : Sms)
end
def R.lend : R → R
  | .l xs => .b xs
  | .n _ => .q
  | r => r
def R.arg : R → Rs R
  | .d x => .ok (.d x)
  | .l xs => .ok (.d (.list xs))
  | .s xs => .ok (.s xs)
  | .m kvs => .ok (.m kvs)
  | _ => .bad
def mapR {α β : Type} (f : α → Rs β) : List α → Rs (List β)
  | [] => .ok []
  | x :: xs => f x >>= fun y => mapR f xs >>= fun ys => .ok (y :: ys)
def frzAll : List R → Rs (List D) := mapR R.frz
def argAll : List R → Rs (List R) := mapR R.arg
def negR : R → Rs R
  | .d (.int i) => .ok (.d (.int (-i)))
  | _ => .bad
def revR : R → Rs R
  | .d (.tuple xs) => .ok (.d (.tuple xs.reverse))
  | a => match a.lst? with
    | some xs => .ok (.l xs.reverse)
    | none => .bad
def bools? : List D → Option (List Bool)
  | [] => some []
  | .bool i :: r => match bools? r with
    | some l => some (i :: l)
    | none => none
  | _ :: _ => none
def tyR : R → Ty → Bool
  | .d .none, .none => true
  | .d (.bool _), .bool => true
  | .d (.bool _), .int => true
  | .d (.int _), .int => true
  | .d (.str _), .str => true
  | .d (.tuple _), .tuple => true
  | .d (.list _), .list => true
  | .l _, .list => true
  | .b _, .list => true
  | .s _, .list => true
  | _, _ => false
def isiR (ts : List Ty) : R → Rs Bool
  | .s _ => .bad
  | .o _ => .bad
  | .m _ => .bad
  | .t _ => .bad
  | .n _ => .bad
  | .q => .bad
  | x => .ok (ts.any (tyR x))
/-- the data in their order: alike, no empty tuple among tuples -/
def sortOk (xs : List D) : Bool := (xs.all fun x => xs.all fun y => PySem.W.alike x y) && (xs.all fun x => decide (x.depth ≤ 60)) && decide (xs.length ≤ lim) &&
  ((xs.all fun x => match x with | .tuple (_ :: _) => true | _ => false) || (xs.all fun x => match x with | .tuple _ => false | .none => false | _ => true))
def sortD (xs : List D) : List D := xs.mergeSort (PySem.W.dataLe false id)
def sortR (xs : List D) : Rs (List D) := if sortOk xs then .ok (sortD xs) else .bad
def lenR : List R → Rs R
  | [.d (.str x)] => fit x.length (.ok (.d (.int x.length)))
  | [a] => match a.seq? with
    | some xs => .ok (.d (.int xs.length))
    | none => .bad
  | _ => .bad
def intR : List R → Rs R
  | [.d (.int i)] => .ok (.d (.int i))
  | [.d (.bool c)] => .ok (.d (.int (if c then 1 else 0)))
  | [.d (.str x)] => match PySem.intText? x with
    | some n => if x.length ≤ 600 then .ok (.d (.int n)) else .bad
    | none => .bad
  | _ => .bad
def tupleR : List R → Rs R
  | [.d (.tuple xs)] => .ok (.d (.tuple xs))
  | [a] => match a.lst? with
    | some xs => .ok (.d (.tuple xs))
    | none => .bad
  | _ => .bad
def listR : List R → Rs R
  | [a] => match a.seq? with
    | some xs => .ok (.l xs)
    | none => .bad
  | _ => .bad
def maxR : List R → Rs R
  | [.d (.int i), .d (.int j)] => .ok (.d (.int (if j > i then j else i)))
  | [.d (.tuple xs), .d (.tuple ys)] => match ints? xs, ints? ys with
    | some a, some b => .ok (.d (.tuple (if HT.lexLt a b then ys else xs)))
    | _, _ => .bad
  | _ => .bad
def minR : List R → Rs R
  | [.d (.int i), .d (.int j)] => .ok (.d (.int (if j < i then j else i)))
  | [.d (.tuple xs), .d (.tuple ys)] => match ints? xs, ints? ys with
    | some a, some b => .ok (.d (.tuple (if HT.lexLt b a then ys else xs)))
    | _, _ => .bad
  | _ => .bad
/-- the least of a list of data -/
def leastOk (xs : List D) : Bool := (xs.all fun x => xs.all fun y => PySem.W.alike x y) && (xs.all fun x => decide (x.depth ≤ 60)) && (xs.all fun x => match x with | .none => false | _ => true)
def min1R : List R → Rs R
  | [a] => match a.lst? with
    | some (x :: xs) => if leastOk (x :: xs) then .ok (.d (xs.foldl (fun a y => if PySem.W.dataLt y a then y else a) x)) else .bad
    | _ => .bad
  | _ => .bad
def allR : List R → Rs R
  | [a] => match a.lst? with
    | some xs => match bools? xs with
      | some bs => .ok (.d (.bool (bs.all id)))
      | none => .bad
    | none => .bad
  | _ => .bad
def anyR : List R → Rs R
  | [a] => match a.lst? with
    | some xs => match bools? xs with
      | some bs => .ok (.d (.bool (bs.any id)))
      | none => .bad
    | none => .bad
  | _ => .bad
def sumR : List R → Rs R
  | [a] => match a.lst? with
    | some xs => match ints? xs with
      | some ns => .ok (.d (.int ns.sum))
      | none => .bad
    | none => .bad
  | _ => .bad
def strR : List R → Rs R
  | [.d (.int i)] => if 0 ≤ i ∧ i < 1000000 then .ok (.d (.str (toString i))) else .bad
  | _ => .bad
def sortedR : List R → Rs R
  | [a] => match a.lst? with
    | some xs => sortR xs >>= fun ys => .ok (.l ys)
    | none => .bad
  | _ => .bad
/-- tuples of ints -/
def tints? : List D → Option (List (List Int))
  | [] => some []
  | .tuple xs :: r => match ints? xs, tints? r with
    | some ns, some l => some (ns :: l)
    | _, _ => none
  | _ :: _ => none
/-- how many different ones -/
def dcount : List (List Int) → Nat
  | [] => 0
  | k :: ks => if k ∈ ks then dcount ks else dcount ks + 1
def lensetR : List R → Rs R
  | [a] => match a.lst? with
    | some xs => match tints? xs with
      | some ks => if ks.length < 64 then .ok (.d (.int (dcount ks : Nat))) else .bad
      | none => .bad
    | none => .bad
  | _ => .bad
def bltR : Bf → List R → Rs R
  | .len => lenR
  | .int => intR
  | .tuple => tupleR
  | .list => listR
  | .max => maxR
  | .min => minR
  | .all => allR
  | .any => anyR
  | .sum => sumR
  | .str => strR
  | .sorted => sortedR
  | .lenset => lensetR
  | .sortset => fun _ => .bad
  | .min1 => min1R
def setAll : List Nat → List D → Sto → Sto
  | i :: is, x :: xs, ρ => setAll is xs (ρ.set i (some (.d x)))
  | _, _, ρ => ρ
def setT : Tg → D → Sto → Rs Sto
  | .nm i, x, ρ => .ok (ρ.set i (some (.d x)))
  | .tp is, .tuple xs, ρ => if xs.length = is.length then .ok (setAll is xs ρ) else .bad
  | .tp _, _, _ => .bad
def Tg.own : Tg → List Nat
  | .nm i => [i]
  | .tp is => is
def wipeS (ρ : Sto) : List Nat → Sto
  | [] => ρ
  | v :: vs => (wipeS ρ vs).set v none
def rngL (i j : Int) : List D := (List.range (j - i).toNat).map fun (k : Nat) => .int (i + k)
def smallI (i : Int) : Bool := decide (-1000000 ≤ i) && decide (i ≤ 1000000)
/-- maps -/
def valM (kvs : List (List Int × D)) (k : List Int) : Option D := (kvs.find? fun kv => decide (kv.1 = k)).map (·.2)
def putM (kvs : List (List Int × D)) (k : List Int) (d : D) : List (List Int × D) :=
  if (kvs.any fun kv => decide (kv.1 = k)) = true then kvs.map (fun kv => if kv.1 = k then (kv.1, d) else kv) else kvs ++ [(k, d)]
def slotM (ρ : Sto) (i : Nat) : Option (List (List Int × D)) := match ρ[i]? with
  | some (some (.m kvs)) => some kvs
  | some (some (.n kvs)) => some kvs
  | _ => none
def slotX (ρ : Sto) (i : Nat) (k : List (List Int × D) → Rs R) : Rs R := match slotM ρ i with
  | some kvs => k kvs
  | none => .bad
def slotXB (ρ : Sto) (i : Nat) (k : List (List Int × D) → Rs Bool) : Rs Bool := match slotM ρ i with
  | some kvs => k kvs
  | none => .bad
def insI (k : Int) : List Int → List Int
  | [] => [k]
  | x :: xs => if k < x then k :: x :: xs else if k = x then x :: xs else x :: insI k xs
def ssI (ns : List Int) : List Int := ns.foldr insI []
def ssiR (x : R) : Rs R := match x.lst? with
  | some xs => match ints? xs with
    | some ks => if ks.length < 64 then .ok (.l ((ssI ks).map .int)) else .bad
    | none => .bad
  | none => .bad
def cntL (x : R) : Rs (List Int) := match x.lst? with
  | some xs => match ints? xs with
    | some ks => .ok ks
    | none => .bad
  | none => .bad
def cntK (ks : List Int) (y : R) : Rs R := match y with
  | .d (.int k) => .ok (.d (.int (ks.count k : Nat)))
  | _ => .bad
mutual
def nk? : D → Option NestedKey
  | .none => some .none
  | .int i => some (.num i)
  | .str x => some (.text x)
  | .tuple xs => match nks? xs with
    | some ks => some (.tup ks)
    | none => none
  | _ => none
def nks? : List D → Option (List NestedKey)
  | [] => some []
  | x :: xs => match nk? x, nks? xs with
    | some k, some ks => some (k :: ks)
    | _, _ => none
end
def nkOk (k : NestedKey) : Bool := (match k with | .tup _ => true | _ => false) && decide (k.depth ≤ 8)
def dedK : List NestedKey → List NestedKey
  | [] => []
  | k :: ks => if k ∈ dedK ks then dedK ks else k :: dedK ks
def rising : List D → Bool
  | [] => true
  | x :: xs => xs.all (fun y => PySem.W.dataLt x y) && rising xs
def isTp : R → Bool
  | .d (.tuple _) => true
  | _ => false
def ndlR (x : R) : Rs R := match x.seq? with
  | some xs => match nks? xs with
    | some ks => if decide (ks.length < 64) && ks.all nkOk then .ok (.d (.int ((dedK ks).length : Nat)))
      else if isTp x && decide (ks.length < 300) && ks.all nkOk && decide ks.Nodup then .ok (.d (.int (ks.length : Nat))) else .bad
    | none => .bad
  | none => .bad
def ndsR (x : R) : Rs R := match x.seq? with
  | some xs => match nks? xs with
    | some ks => if decide (ks.length < 64) && ks.all nkOk && sortOk ((dedK ks).map NestedKey.data) && rising (sortD ((dedK ks).map NestedKey.data)) then .ok (.l (sortD ((dedK ks).map NestedKey.data))) else .bad
    | none => .bad
  | none => .bad
def mhasR (kvs : List (List Int × D)) (x : R) : Rs Bool := match x with
  | .d (.tuple ds) => match ints? ds with
    | some k => .ok (!(kvs.any fun kv => decide (kv.1 = k)))
    | none => .bad
  | _ => .bad
def mgetR (kvs : List (List Int × D)) (ds : List D) : Rs R := match ints? ds with
  | some k => match valM kvs k with
    | some d => .ok (.d d)
    | none => .bad
  | none => .bad
def up1 (c : Nat) : Nat := if 97 ≤ c ∧ c ≤ 122 then c - 32 else c
def uppR : R → Rs R
  | .d (.str x) => if x.cps.all (fun c => decide (c < 128)) then fit x.length (.ok (.d (.str ⟨x.cps.map up1⟩))) else .bad
  | _ => .bad
def fndR (z : Str) : R → Rs R
  | .d (.str y) => .ok (.d (.int (Txt.find z y)))
  | _ => .bad
def strs? : List D → Option (List Str)
  | [] => some []
  | .str x :: r => match strs? r with
    | some l => some (x :: l)
    | none => none
  | _ :: _ => none
def jnR (z : Str) (a : R) : Rs R := match a.lst? with
  | some xs => match strs? xs with
    | some ys => if (ys.map (·.length)).sum + ys.length * z.length ≤ lim then .ok (.d (.str (Txt.join z ys))) else .bad
    | none => .bad
  | none => .bad
def sidxR (z : Str) : R → Rs R
  | .d (.str y) => match Builtin.Str.occurrences z y 0 z.length 1 with
    | i :: _ => .ok (.d (.int (i : Nat)))
    | [] => .bad
  | _ => .bad
def scntR (z : Str) : R → Rs R
  | .d (.str y) => .ok (.d (.int (Txt.count y z)))
  | _ => .bad
/-- how many different ints -/
def icount : List Int → Nat
  | [] => 0
  | k :: ks => if k ∈ ks then icount ks else icount ks + 1
def lensiR (a : R) : Rs R := match a.lst? with
  | some xs => match ints? xs with
    | some ks => if ks.length < 64 then .ok (.d (.int (icount ks : Nat))) else .bad
    | none => .bad
  | none => .bad
def dgetR (kvs : List (Str × D)) : R → Rs R
  | .d (.str z) => match kvs.lookup z with
    | some d => .ok (.d d)
    | none => .bad
  | _ => .bad
def slotT (ρ : Sto) (i : Nat) : Option (List (Str × D)) := match ρ[i]? with
  | some (some (.t kvs)) => some kvs
  | _ => none
def slotTX (ρ : Sto) (i : Nat) (k : List (Str × D) → Rs R) : Rs R := match slotT ρ i with
  | some kvs => k kvs
  | none => .bad
def dinR (neg : Bool) (kvs : List (Str × D)) : R → Rs Bool
  | .d (.str z) => .ok ((kvs.lookup z).isSome != neg)
  | _ => .bad
def dselR (ks : List Str) (ds : List D) : R → Rs R
  | .d (.str z) => match (ks.zip ds).lookup z with
    | some d => .ok (.d d)
    | none => .bad
  | _ => .bad
/-- each k-th item -/
def stpL {α : Type} (k : Nat) (xs : List α) : List α := (List.range ((xs.length + k - 1) / k)).filterMap fun i => xs[i * k]?
def stpR : R → R → Rs R
  | .d (.tuple xs), .d (.int k) => if 0 < k ∧ k < 1000000 then .ok (.d (.tuple (stpL k.toNat xs))) else .bad
  | _, _ => .bad
def enumL : Nat → List D → List D
  | _, [] => []
  | n, x :: xs => .tuple [.int n, x] :: enumL (n + 1) xs
def enumR (x : R) : Rs (List D) := x.itm >>= fun xs => .ok (enumL 0 xs)
def zipL : List D → List D → List D
  | x :: xs, y :: ys => .tuple [x, y] :: zipL xs ys
  | _, _ => []
def zipR : R → R → Rs (List D)
  | .d (.tuple xs), .d (.tuple ys) => .ok (zipL xs ys)
  | .d (.list xs), .d (.list ys) => .ok (zipL xs ys)
  | _, _ => .bad
inductive Out where
  | nx (ρ : Sto)
  | rt (r : R)
/-- a comprehension's turns -/
def lcL (t : Tg) (c : Sto → Rs Bool) (e : Sto → Rs R) (ρ : Sto) : List D → Rs (List D)
  | [] => .ok []
  | x :: xs => setT t x ρ >>= fun ρ1 => c ρ1 >>= fun k =>
    if k then e ρ1 >>= fun r => r.frz >>= fun y => lcL t c e ρ xs >>= fun ys => .ok (y :: ys)
    else lcL t c e ρ xs
def noErr {α : Type} : Rs α → Rs α
  | .err _ => .bad
  | m => m
/-- a for's turns -/
def forL (t : Tg) (b : Sto → Rs Out) : List D → Sto → Rs Out
  | [], ρ => .ok (.nx ρ)
  | x :: xs, ρ => setT t x ρ >>= fun ρ1 => b ρ1 >>= fun o => match o with
    | .nx ρ2 => forL t b xs ρ2
    | .rt r => .ok (.rt r)
/-- a while's turns -/
def whlL (c : Sto → Rs Bool) (b : Sto → Rs Out) : Nat → Sto → Rs Out
  | 0, _ => .bad
  | n + 1, ρ => c ρ >>= fun k => if k then b ρ >>= fun o => match o with
    | .nx ρ2 => whlL c b n ρ2
    | .rt r => .ok (.rt r)
    else .ok (.nx ρ)
def optI : List R → Rs (Option Int)
  | [] => .ok none
  | [.d (.int i)] => .ok (some i)
  | _ => .bad
mutual
def ev (C : Nat → List R → Rs R) : Ex → Sto → Rs R
  | .var i, ρ => match ρ[i]? with
    | some (some r) => .ok r.lend
    | _ => .bad
  | .cst x, _ => .ok (.d x)
  | .tup es, ρ => evs C es ρ >>= fun rs => frzAll rs >>= fun ds => fit ds.length (.ok (.d (.tuple ds)))
  | .lst es, ρ => evs C es ρ >>= fun rs => frzAll rs >>= fun ds => fit ds.length (.ok (.l ds))
  | .bin o a b, ρ => ev C a ρ >>= fun x => ev C b ρ >>= fun y => binR o x y
  | .neg a, ρ => ev C a ρ >>= fun x => negR x
  | .cmp o a b, ρ => ev C a ρ >>= fun x => ev C b ρ >>= fun y => boolR (cmpR o x y)
  | .chn o p a b c, ρ => ev C a ρ >>= fun x => ev C b ρ >>= fun y => cmpR o x y >>= fun k => if k then ev C c ρ >>= fun z => boolR (cmpR p y z) else .ok (.d (.bool false))
  | .and a b, ρ => ev C a ρ >>= fun x => truR x >>= fun k => if k then ev C b ρ else .ok x
  | .or a b, ρ => ev C a ρ >>= fun x => truR x >>= fun k => if k then .ok x else ev C b ρ
  | .not a, ρ => ev C a ρ >>= fun x => boolR (notB (truR x))
  | .ite c a b, ρ => evT C c ρ >>= fun k => if k then ev C a ρ else ev C b ρ
  | .idx a b, ρ => ev C a ρ >>= fun x => ev C b ρ >>= fun y => idxR x y
  | .slc a lo hi, ρ => ev C a ρ >>= fun x => (evs C lo ρ >>= optI) >>= fun l => (evs C hi ρ >>= optI) >>= fun h => slcR x l h
  | .rev a, ρ => ev C a ρ >>= fun x => revR x
  | .call f es, ρ => evs C es ρ >>= fun rs => argAll rs >>= fun as => C f as
  | .blt f es, ρ => evs C es ρ >>= fun rs => bltR f rs
  | .isi t a, ρ => ev C a ρ >>= fun x => boolR (isiR [t] x)
  | .isi2 t u a, ρ => ev C a ρ >>= fun x => boolR (isiR [t, u] x)
  | .lc t it e, ρ => evI C it ρ >>= fun xs => fit xs.length (noErr (lcL t (fun _ => .ok true) (fun ρ1 => ev C e ρ1) (wipeS ρ t.own) xs) >>= fun ys => .ok (.l ys))
  | .lcf t it c e, ρ => evI C it ρ >>= fun xs => fit xs.length (noErr (lcL t (fun ρ1 => evT C c ρ1) (fun ρ1 => ev C e ρ1) (wipeS ρ t.own) xs) >>= fun ys => .ok (.l ys))
  | .lenset a, ρ => ev C a ρ >>= fun x => lensetR [x]
  | .mget i es, ρ => slotX ρ i fun kvs => evs C es ρ >>= fun rs => frzAll rs >>= fun ds => fit ds.length (mgetR kvs ds)
  | .upp a, ρ => ev C a ρ >>= fun x => uppR x
  | .lensi a, ρ => ev C a ρ >>= fun x => lensiR x
  | .dget kvs a, ρ => ev C a ρ >>= fun x => dgetR kvs x
  | .din n kvs a, ρ => ev C a ρ >>= fun x => boolR (dinR n kvs x)
  | .dsel ks es a, ρ => evs C es ρ >>= fun rs => frzAll rs >>= fun ds => ev C a ρ >>= fun x => dselR ks ds x
  | .stp a k, ρ => ev C a ρ >>= fun x => ev C k ρ >>= fun y => stpR x y
  | .fnd z a, ρ => ev C a ρ >>= fun x => fndR z x
  | .tdsp ks es, ρ => evs C es ρ >>= fun rs => frzAll rs >>= fun ds => .ok (.t (ks.zip ds))
  | .tget i a, ρ => slotTX ρ i fun kvs => ev C a ρ >>= fun x => dgetR kvs x
  | .mhas _ _, _ => .bad
  | .ssi a, ρ => ev C a ρ >>= fun x => ssiR x
  | .ndl a, ρ => ev C a ρ >>= fun x => ndlR x
  | .nds a, ρ => ev C a ρ >>= fun x => ndsR x
  | .cnt o a, ρ => ev C o ρ >>= fun x => cntL x >>= fun ks => ev C a ρ >>= fun y => cntK ks y
  | .jn z a, ρ => ev C a ρ >>= fun x => jnR z x
  | .sidx z a, ρ => ev C a ρ >>= fun x => sidxR z x
  | .scnt a z, ρ => ev C a ρ >>= fun x => scntR z x
def evs (C : Nat → List R → Rs R) : Exs → Sto → Rs (List R)
  | .nil, _ => .ok []
  | .cons e es, ρ => ev C e ρ >>= fun x => evs C es ρ >>= fun xs => .ok (x :: xs)
def evI (C : Nat → List R → Rs R) : It → Sto → Rs (List D)
  | .seq e, ρ => ev C e ρ >>= fun x => x.itm
  | .rng1 a, ρ => ev C a ρ >>= fun x => match x with
    | .d (.int j) => if smallI j then .ok (rngL 0 j) else .bad
    | _ => .bad
  | .rng2 a b, ρ => ev C a ρ >>= fun x => ev C b ρ >>= fun y => match x, y with
    | .d (.int i), .d (.int j) => if smallI i && smallI j then .ok (rngL i j) else .bad
    | _, _ => .bad
  | .enum e, ρ => ev C e ρ >>= fun x => enumR x
  | .zip a b, ρ => ev C a ρ >>= fun x => ev C b ρ >>= fun y => zipR x y
  | .dks kvs, _ => .ok (kvs.map fun p => .str p.1)
/-- as a test -/
def evT (C : Nat → List R → Rs R) : Ex → Sto → Rs Bool
  | .and a b, ρ => evT C a ρ >>= fun k => if k then evT C b ρ else .ok false
  | .or a b, ρ => evT C a ρ >>= fun k => if k then .ok true else evT C b ρ
  | .not a, ρ => notB (evT C a ρ)
  | .cmp o a b, ρ => ev C a ρ >>= fun x => ev C b ρ >>= fun y => cmpR o x y
  | .chn o p a b c, ρ => ev C a ρ >>= fun x => ev C b ρ >>= fun y => cmpR o x y >>= fun k => if k then ev C c ρ >>= fun z => cmpR p y z else .ok false
  | .var i, ρ => (match ρ[i]? with
    | some (some r) => .ok r.lend
    | _ => .bad) >>= fun x => truR x
  | .idx a b, ρ => (ev C a ρ >>= fun x => ev C b ρ >>= fun y => idxR x y) >>= fun x => truR x
  | .call f es, ρ => (evs C es ρ >>= fun rs => argAll rs >>= fun as => C f as) >>= fun x => truR x
  | .blt f es, ρ => (evs C es ρ >>= fun rs => bltR f rs) >>= fun x => truR x
  | .isi t a, ρ => ev C a ρ >>= fun x => isiR [t] x
  | .isi2 t u a, ρ => ev C a ρ >>= fun x => isiR [t, u] x
  | .din n kvs a, ρ => ev C a ρ >>= fun x => dinR n kvs x
  | .mhas i a, ρ => slotXB ρ i fun kvs => ev C a ρ >>= fun x => mhasR kvs x
  | _, _ => .bad
end
/-- the own list of a slot -/
def ownX (ρ : Sto) (i : Nat) (k : List D → Rs Out) : Rs Out := match ρ[i]? with
  | some (some (.l xs)) => k xs
  | _ => .bad
def appS (ρ : Sto) (i : Nat) (xs ys : List D) : Rs Out := fit (xs.length + ys.length) (.ok (.nx (ρ.set i (some (.l (xs ++ ys))))))
def frzS (ρ : Sto) (i : Nat) : Rs Out := match ρ[i]? with
  | some (some (.l xs)) => .ok (.nx (ρ.set i (some (.d (.list xs)))))
  | _ => .bad
def ownS (ρ : Sto) (i : Nat) (r : R) : Rs Out := match r with
  | .l xs => .ok (.nx (ρ.set i (some (.l xs))))
  | _ => .bad
def putS (ρ : Sto) (i : Nat) (xs : List D) (k : R) (y : D) : Rs Out := match k with
  | .d (.int j) => if 0 ≤ j ∧ j < xs.length then .ok (.nx (ρ.set i (some (.l (xs.set j.toNat y))))) else .bad
  | _ => .bad
def rtlS (ρ : Sto) (i : Nat) : Rs Out := match ρ[i]? with
  | some (some (.l xs)) => .ok (.rt (.l xs))
  | _ => .bad
/-- the own map of a slot -/
def mapX (ρ : Sto) (i : Nat) (k : List (List Int × D) → Rs Out) : Rs Out := match ρ[i]? with
  | some (some (.n kvs)) => k kvs
  | _ => .bad
def mputS (ρ : Sto) (i : Nat) (kvs : List (List Int × D)) (ds : List D) (y : D) : Rs Out := match ints? ds with
  | some k => fit (kvs.length + 1) (.ok (.nx (ρ.set i (some (.n (putM kvs k y))))))
  | none => .bad
def rtmS (ρ : Sto) (i : Nat) : Rs Out := match ρ[i]? with
  | some (some (.n kvs)) => .ok (.rt (.m kvs))
  | _ => .bad
def masS (ρ : Sto) (i : Nat) (r : R) : Rs Out := match r with
  | .m kvs => .ok (.nx (ρ.set i (some (.m kvs))))
  | .t kvs => .ok (.nx (ρ.set i (some (.t kvs))))
  | _ => .bad
/-- what the law's own words make of a refusal -/
def tryS : Rs Out → Rs Out
  | .err c => match xwd[c]? with
    | some w => .ok (.rt (.d (.str w)))
    | none => .bad
  | m => m
def popS (ρ : Sto) (j i : Nat) (xs : List D) : Rs Out := match xs with
  | x :: ys => .ok (.nx ((ρ.set i (some (.l ys))).set j (some (.d x))))
  | [] => .bad
def retR : R → Rs Out
  | .o _ => .bad
  | .b _ => .bad
  | .n _ => .bad
  | .q => .bad
  | r => .ok (.rt r)
mutual
def x1 (C : Nat → List R → Rs R) : Sm → Sto → Rs Out
  | .asg t e, ρ => ev C e ρ >>= fun r => r.frz >>= fun x => setT t x ρ >>= fun ρ1 => .ok (.nx ρ1)
  | .own i e, ρ => ev C e ρ >>= fun r => ownS ρ i r
  | .par i j x y, ρ => (ev C x ρ >>= fun a => ev C y ρ >>= fun b => .ok [a, b]) >>= fun rs => frzAll rs >>= fun ds => if ds.length = 2 then .ok (.nx (setAll [i, j] ds ρ)) else .bad
  | .app i e, ρ => ownX ρ i fun xs => ev C e ρ >>= fun r => r.frz >>= fun x => appS ρ i xs [x]
  | .ext i e, ρ => ownX ρ i fun xs => ev C e ρ >>= fun r => match r.lst? with
    | some ys => appS ρ i xs ys
    | none => .bad
  | .put i k e, ρ => ownX ρ i fun xs => ev C e ρ >>= fun r => r.frz >>= fun y => ev C k ρ >>= fun j => putS ρ i xs j y
  | .frz i, ρ => frzS ρ i
  | .ifs c a b, ρ => evT C c ρ >>= fun k => if k then xs C a ρ else xs C b ρ
  | .for_ t it b, ρ => evI C it ρ >>= fun l => forL t (fun ρ1 => xs C b ρ1) l ρ
  | .whl c b, ρ => whlL (fun ρ1 => evT C c ρ1) (fun ρ1 => xs C b ρ1) 5000 ρ
  | .ret e, ρ => ev C e ρ >>= fun r => retR r
  | .rtl i, ρ => rtlS ρ i
  | .rse c, _ => .err c
  | .pas, ρ => .ok (.nx ρ)
  | .nev, _ => .bad
  | .exp e, ρ => ev C e ρ >>= fun _ => .ok (.nx ρ)
  | .mnew i, ρ => .ok (.nx (ρ.set i (some (.n []))))
  | .mput i es e, ρ => mapX ρ i fun kvs => ev C e ρ >>= fun r => r.frz >>= fun y => evs C es ρ >>= fun rs => frzAll rs >>= fun ds => fit ds.length (mputS ρ i kvs ds y)
  | .rtm i, ρ => rtmS ρ i
  | .mas i e, ρ => ev C e ρ >>= fun r => masS ρ i r
  | .tryw _ b, ρ => tryS (xs C b ρ)
  | .popf j i, ρ => ownX ρ i fun xs => popS ρ j i xs
  | .nat f, ρ => f C ρ >>= fun r => .ok (.rt r)
def xs (C : Nat → List R → Rs R) : Sms → Sto → Rs Out
  | .nil, ρ => .ok (.nx ρ)
  | .cons s ss, ρ => x1 C s ρ >>= fun o => match o with
    | .nx ρ1 => xs C ss ρ1
    | .rt r => .ok (.rt r)
end
/-- a def: how many names, its body -/
structure Fn where
  np : Nat
  n : Nat
  body : Sms
def startS (n : Nat) (as : List R) : Sto := as.map some ++ List.replicate (n - as.length) none
def outR (m : Rs Out) : Rs R := m >>= fun o => match o with
  | .nx _ => .ok (.d .none)
  | .rt r => .ok r
/-- n calls deep -/
def call (T : Nat → Option Fn) : Nat → Nat → List R → Rs R
  | 0, _, _ => .bad
  | n + 1, f, as => match T f with
    | some d => if as.length = d.np then outR (xs (call T n) d.body (startS d.n as)) else .bad
    | none => .bad
theorem lexLt_dec : ∀ xs ys : List Int, HT.lexLt xs ys = decide (xs < ys)
  | [], [] => by simp [HT.lexLt]
  | [], y :: ys => by simp [HT.lexLt]
  | x :: xs, [] => by simp [HT.lexLt]
  | x :: xs, y :: ys => by
    have := lexLt_dec xs ys
    simp only [HT.lexLt, this, List.cons_lt_cons_iff]
    by_cases h : x = y
    · subst h; simp
    · simp [h]
end PP
set_option Elab.async false
set_option linter.all false
set_option autoImplicit false
set_option maxRecDepth 100000
namespace PP
open PySem L2
mutual
inductive Dn (K : PySem.W.Frag) (F : Hp) : V → D → Prop
  | non : Dn K F .non .none
  | bl (b : Bool) : Dn K F (.bl b) (.bool b)
  | int (i : Int) : Dn K F (.int i) (.int i)
  | str (x : Str) (h : PyData.strOk x = true) : Dn K F (.str x) (.str x)
  | lst {a : Addr} {xs : List V} {ds : List D} : F a = some (.lst xs) → DnAll K F xs ds → Dn K F (.ref a) (.list ds)
  | tup {a : Addr} {xs : List V} {ds : List D} : SqT K F a xs → DnAll K F xs ds → Dn K F (.ref a) (.tuple ds)
inductive DnAll (K : PySem.W.Frag) (F : Hp) : List V → List D → Prop
  | nil : DnAll K F [] []
  | cons {v : V} {vs : List V} {d : D} {ds : List D} : Dn K F v d → DnAll K F vs ds → DnAll K F (v :: vs) (d :: ds)
end
section
variable {K : PySem.W.Frag} {F F' H H' : Hp}
theorem same_rd {a : Addr} {u : HO} (e : Same F F') (h : Rd F a u) : Rd F' a u := by
  rcases h with h | ⟨o, h⟩
  · exact .inl (e a _ h)
  · exact .inr ⟨o, e a _ h⟩
theorem same_t {a : Addr} {xs : List V} (e : Same F F') (h : SqT K F a xs) : SqT K F' a xs := by
  rcases h with h | h
  · exact .inl (same_rd e h)
  · exact .inr h
mutual
theorem Dn.mono (e : Same F F') : ∀ {v : V} {d : D}, Dn K F v d → Dn K F' v d
  | _, _, .non => .non
  | _, _, .bl b => .bl b
  | _, _, .int i => .int i
  | _, _, .str x h => .str x h
  | _, _, .lst r t => .lst (e _ _ r) (DnAll.mono e t)
  | _, _, .tup r t => .tup (same_t e r) (DnAll.mono e t)
theorem DnAll.mono (e : Same F F') : ∀ {vs : List V} {ds : List D}, DnAll K F vs ds → DnAll K F' vs ds
  | _, _, .nil => .nil
  | _, _, .cons r t => .cons (Dn.mono e r) (DnAll.mono e t)
end
mutual
theorem Dn.dp : ∀ {v : V} {d : D}, Dn K F v d → Dp K F v d
  | _, _, .non => .non
  | _, _, .bl b => .bl b
  | _, _, .int i => .int i
  | _, _, .str x _ => .str x
  | _, _, .lst r t => .lst (.inl (.inl r)) (DnAll.dp t)
  | _, _, .tup r t => .tup r (DnAll.dp t)
theorem DnAll.dp : ∀ {vs : List V} {ds : List D}, DnAll K F vs ds → DpAll K F vs ds
  | _, _, .nil => .nil
  | _, _, .cons r t => .cons (Dn.dp r) (DnAll.dp t)
end
mutual
theorem Dn.lay : ∀ {v : V} {d : D}, Dn K F v d → d.canLay0 = true
  | _, _, .non => rfl
  | _, _, .bl b => rfl
  | _, _, .int i => rfl
  | _, _, .str x h => by simpa [PyData.canLay0] using h
  | _, _, .lst r t => by simpa [PyData.canLay0] using DnAll.lay t
  | _, _, .tup r t => by simpa [PyData.canLay0] using DnAll.lay t
theorem DnAll.lay : ∀ {vs : List V} {ds : List D}, DnAll K F vs ds → PyData.canLayAll0 ds = true
  | _, _, .nil => by simp [PyData.canLayAll0]
  | _, _, .cons r t => by simp [PyData.canLayAll0, Dn.lay r, DnAll.lay t]
end
theorem DnAll.length {vs : List V} {ds : List D} (h : DnAll K F vs ds) : vs.length = ds.length := by
  have : ∀ {vs : List V} {ds : List D}, DnAll K F vs ds → vs.length = ds.length := fun {vs ds} => by
    induction vs generalizing ds with
    | nil => intro h; cases h; rfl
    | cons v vs ih => intro h; cases h with | cons r t => simp [ih t]
  exact this h
theorem DnAll.get : ∀ {vs : List V} {ds : List D} {i : Nat} {v : V}, DnAll K F vs ds → vs[i]? = some v → ∃ d, ds[i]? = some d ∧ Dn K F v d
  | [], _, _, _, _, e => by simp at e
  | v :: vs, _, 0, _, .cons r _, e => by simp at e; subst e; exact ⟨_, rfl, r⟩
  | v :: vs, _, i + 1, w, .cons _ t, e => by
    obtain ⟨d, h1, h2⟩ := DnAll.get (i := i) (v := w) t (by simpa using e)
    exact ⟨d, by simpa using h1, h2⟩
theorem DnAll.getD : ∀ {vs : List V} {ds : List D} {i : Nat} {d : D}, DnAll K F vs ds → ds[i]? = some d → ∃ v, vs[i]? = some v ∧ Dn K F v d
  | _, [], _, _, _, e => by simp at e
  | _, d :: ds, 0, _, .cons r _, e => by simp at e; subst e; exact ⟨_, rfl, r⟩
  | _, d :: ds, i + 1, w, .cons _ t, e => by
    obtain ⟨v, h1, h2⟩ := DnAll.getD (i := i) (d := w) t (by simpa using e)
    exact ⟨v, by simpa using h1, h2⟩
theorem DnAll.append : ∀ {vs ws : List V} {ds es : List D}, DnAll K F vs ds → DnAll K F ws es → DnAll K F (vs ++ ws) (ds ++ es)
  | [], _, [], _, _, h => h
  | [], _, _ :: _, _, h, _ => by cases h
  | v :: vs, _, _, _, .cons r t, h => .cons r (DnAll.append t h)
theorem DnAll.take : ∀ {vs : List V} {ds : List D} (n : Nat), DnAll K F vs ds → DnAll K F (vs.take n) (ds.take n)
  | _, _, 0, _ => by simp; exact .nil
  | _, _, _ + 1, .nil => .nil
  | _, _, n + 1, .cons r t => .cons r (DnAll.take n t)
theorem DnAll.drop : ∀ {vs : List V} {ds : List D} (n : Nat), DnAll K F vs ds → DnAll K F (vs.drop n) (ds.drop n)
  | _, _, 0, h => h
  | _, _, _ + 1, .nil => .nil
  | _, _, n + 1, .cons _ t => DnAll.drop n t
theorem DnAll.rep {vs : List V} {ds : List D} (h : DnAll K F vs ds) : ∀ k : Nat, DnAll K F (List.replicate k vs).flatten (List.replicate k ds).flatten
  | 0 => .nil
  | k + 1 => by
    rw [List.replicate_succ, List.replicate_succ, List.flatten_cons, List.flatten_cons]
    exact DnAll.append h (DnAll.rep h k)
theorem DnAll.isEmpty {vs : List V} {ds : List D} (h : DnAll K F vs ds) : vs.isEmpty = ds.isEmpty := by
  cases h <;> rfl
theorem DnAll.reverse : ∀ {vs : List V} {ds : List D}, DnAll K F vs ds → DnAll K F vs.reverse ds.reverse
  | _, _, .nil => .nil
  | _, _, .cons r t => by
    rw [List.reverse_cons, List.reverse_cons]
    exact (DnAll.reverse t).append (.cons r .nil)
structure Grow (F H F' H' : Hp) : Prop where
  fr : Same F F'
  hp : Same H H'
  sub : Same F' H'
  old : ∀ a o, H a = some o → F' a = F a
theorem Grow.refl (h : Same F H) : Grow F H F H := ⟨Same.refl F, Same.refl H, h, fun _ _ _ => rfl⟩
theorem Grow.trans {F1 H1 F2 H2 : Hp} (g : Grow F H F1 H1) (k : Grow F1 H1 F2 H2) : Grow F H F2 H2 :=
  ⟨g.fr.trans k.fr, g.hp.trans k.hp, k.sub, fun a o e => (k.old a o (g.hp a o e)).trans (g.old a o e)⟩
theorem same_new {p : Addr} {o : HO} (h : H p = none) : Same H (upd H p o) := fun b u q => by rw [upd_ne (ne_of_none q h)]; exact q
/-- a new object, not frozen -/
theorem Grow.own {p : Addr} {o : HO} (s : Same F H) (h : H p = none) : Grow F H F (upd H p o) :=
  ⟨Same.refl F, same_new h, s.trans (same_new h), fun _ _ _ => rfl⟩
/-- a new object, frozen at once -/
theorem Grow.new {p : Addr} {o : HO} (s : Same F H) (h : H p = none) : Grow F H (upd F p o) (upd H p o) := by
  refine ⟨same_new (s.free h), same_new h, fun b u q => ?_, fun a u e => upd_ne (ne_of_none e h)⟩
  by_cases hb : b = p
  · subst hb; rw [upd_same] at q ⊢; exact q
  · rw [upd_ne hb] at q ⊢; exact s b u q
/-- an object that is not frozen is frozen as it stands -/
theorem Grow.freeze {p : Addr} {o : HO} {H0 F0 : Hp} (g : Grow F0 H0 F H) (h0 : H0 p = none) (hf : F p = none) (h : H p = some o) : Grow F0 H0 (upd F p o) H := by
  refine ⟨g.fr.trans (same_new hf), g.hp, fun b u q => ?_, fun a u e => ?_⟩
  · by_cases hb : b = p
    · subst hb; rw [upd_same] at q; rw [← q]; exact h
    · rw [upd_ne hb] at q; exact g.sub b u q
  · rw [upd_ne (ne_of_none e h0)]; exact g.old a u e
def kI (ks : List Int) : List L2.Key := ks.map Sum.inl
inductive KD (K : PySem.W.Frag) (F : Hp) : List (List L2.Key × V) → List (List Int × D) → Prop
  | nil : KD K F [] []
  | cons {k : List Int} {v : V} {d : D} {ps : List (List L2.Key × V)} {qs : List (List Int × D)} : Dn K F v d → KD K F ps qs → KD K F ((kI k, v) :: ps) ((k, d) :: qs)
theorem KD.mono (e : Same F F') : ∀ {ps : List (List L2.Key × V)} {qs : List (List Int × D)}, KD K F ps qs → KD K F' ps qs
  | _, _, .nil => .nil
  | _, _, .cons r t => .cons (Dn.mono e r) (KD.mono e t)
/-- dicts with text keys -/
def KTx (K : PySem.W.Frag) (F : Hp) (ps : List (L2.Key × V)) (kvs : List (Str × D)) : Prop := ∃ (ks : List Str) (vs : List V) (ds : List D), ps = (ks.map Sum.inr : List L2.Key).zip vs ∧ kvs = ks.zip ds ∧ DnAll K F vs ds
theorem KTx.mono (e : Same F F') {ps : List (L2.Key × V)} {kvs : List (Str × D)} (h : KTx K F ps kvs) : KTx K F' ps kvs := by
  obtain ⟨ks, vs, ds, h1, h2, h3⟩ := h
  exact ⟨ks, vs, ds, h1, h2, h3.mono e⟩
/-- H0: the heap before the evaluation -/
def Den (K : PySem.W.Frag) (H0 F H : Hp) (v : V) : R → Prop
  | .d x => Dn K F v x
  | .l xs => ∃ a vs, v = .ref a ∧ H0 a = none ∧ F a = none ∧ H a = some (.lst vs) ∧ DnAll K F vs xs
  | .b xs => ∃ a vs, v = .ref a ∧ F a = none ∧ H a = some (.lst vs) ∧ DnAll K F vs xs
  | .s xs => ∃ a vs, v = .ref a ∧ SqL K F a vs ∧ DnAll K F vs xs
  | .m kvs => ∃ a ps, v = .ref a ∧ F a = some (.dT ps) ∧ KD K F ps kvs
  | .t kvs => ∃ a ps, v = .ref a ∧ F a = some (.dK ps) ∧ KTx K F ps kvs
  | .n _ => False
  | .q => True
  | .o a => v = .ref a
theorem same_l {a : Addr} {xs : List V} (e : Same F F') (h : SqL K F a xs) : SqL K F' a xs := e.seq h
theorem Den.grow {H0 : Hp} {v : V} {r : R} (h : Den K H0 F H v r) (g : Grow F H F' H') : Den K H0 F' H' v r := by
  cases r with
  | d x => exact Dn.mono g.fr h
  | l xs =>
    obtain ⟨a, vs, e, h0, hf, hh, t⟩ := h
    exact ⟨a, vs, e, h0, (g.old a _ hh).trans hf, g.hp _ _ hh, t.mono g.fr⟩
  | b xs =>
    obtain ⟨a, vs, e, hf, hh, t⟩ := h
    exact ⟨a, vs, e, (g.old a _ hh).trans hf, g.hp _ _ hh, t.mono g.fr⟩
  | s xs =>
    obtain ⟨a, vs, e, hh, t⟩ := h
    exact ⟨a, vs, e, same_l g.fr hh, t.mono g.fr⟩
  | m kvs =>
    obtain ⟨a, ps, e, hh, t⟩ := h
    exact ⟨a, ps, e, g.fr _ _ hh, t.mono g.fr⟩
  | t kvs =>
    obtain ⟨a, ps, e, hh, t⟩ := h
    exact ⟨a, ps, e, g.fr _ _ hh, t.mono g.fr⟩
  | n kvs => exact h
  | q => exact h
  | o a => exact h
theorem Den.back {H0 H1 : Hp} {v : V} {r : R} (s : Same H0 H1) (h : Den K H1 F H v r) : Den K H0 F H v r := by
  cases r with
  | d x => exact h
  | l xs =>
    obtain ⟨a, vs, e, h0, r⟩ := h
    exact ⟨a, vs, e, s.free h0, r⟩
  | b xs => exact h
  | s xs => exact h
  | m xs => exact h
  | t xs => exact h
  | n xs => exact h
  | q => exact h
  | o a => exact h
/-- lists, as operands -/
theorem Den.lst {H0 : Hp} {v : V} {r : R} {xs : List D} (s : Same F H) (h : Den K H0 F H v r) (e : r.lst? = some xs) : ∃ a vs, v = .ref a ∧ H a = some (.lst vs) ∧ DnAll K F vs xs := by
  cases r with
  | d x =>
    cases x with
    | list ys =>
      cases e
      cases h with
      | lst r t => exact ⟨_, _, rfl, s _ _ r, t⟩
    | _ => cases e
  | l ys =>
    cases e
    obtain ⟨a, vs, e, h0, hf, hh, t⟩ := h
    exact ⟨a, vs, e, hh, t⟩
  | b ys =>
    cases e
    obtain ⟨a, vs, e, hf, hh, t⟩ := h
    exact ⟨a, vs, e, hh, t⟩
  | s ys => cases e
  | m ys => cases e
  | t ys => cases e
  | n ys => cases e
  | q => cases e
  | o a => cases e
theorem Den.seq {H0 : Hp} {v : V} {r : R} {xs : List D} (s : Same F H) (h : Den K H0 F H v r) (e : r.seq? = some xs) : ∃ a vs, v = .ref a ∧ (SqL K H a vs ∨ SqT K H a vs) ∧ DnAll K F vs xs := by
  by_cases hl : r.lst? = some xs
  · obtain ⟨a, vs, e1, r1, t1⟩ := h.lst s hl
    exact ⟨a, vs, e1, .inl (.inl (.inl r1)), t1⟩
  · cases r with
    | d x =>
      cases x with
      | list ys => exact absurd e hl
      | tuple ys =>
        cases e
        cases h with
        | tup r t => exact ⟨_, _, rfl, .inr (same_t s r), t⟩
      | _ => cases e
    | l ys => exact absurd e hl
    | b ys => exact absurd e hl
    | s ys =>
      cases e
      obtain ⟨a, vs, e, hh, t⟩ := h
      exact ⟨a, vs, e, .inl (same_l s hh), t⟩
    | m ys => cases e
    | t ys => cases e
    | n ys => cases e
    | q => cases e
    | o a => cases e
/-- read as a datum -/
theorem Den.see {H0 : Hp} {v : V} {r : R} (s : Same F H) (h : Den K H0 F H v r) (hd : r.isD = true) : Dp K H v r.see ∧ r.see.canLay0 = true := by
  cases r with
  | d x => exact ⟨(Dn.mono s h).dp, Dn.lay h⟩
  | l ys =>
    obtain ⟨a, vs, rfl, h0, hf, hh, t⟩ := h
    exact ⟨.lst (.inl (.inl hh)) (t.mono s).dp, by simpa [R.see, PyData.canLay0] using t.lay⟩
  | b ys =>
    obtain ⟨a, vs, rfl, hf, hh, t⟩ := h
    exact ⟨.lst (.inl (.inl hh)) (t.mono s).dp, by simpa [R.see, PyData.canLay0] using t.lay⟩
  | s ys =>
    obtain ⟨a, vs, rfl, hh, t⟩ := h
    exact ⟨.lst (same_l s hh) (t.mono s).dp, by simpa [R.see, PyData.canLay0] using t.lay⟩
  | m ys => cases hd
  | t ys => cases hd
  | n ys => cases hd
  | q => cases hd
  | o a => cases hd
abbrev EX := Nat → Hp → Prop
def Ans (K : PySem.W.Frag) (E : EX) (m : Rs R) (F H : Hp) (Q : VK) : Prop :=
  match m with
  | .bad => False
  | .err c => ∀ F' H', Grow F H F' H' → E c H'
  | .ok r => ∀ v F' H', Grow F H F' H' → Den K H F' H' v r → Q v H'
theorem Ans.grow {E : EX} {m : Rs R} {Q : VK} (h : Ans K E m F H Q) (g : Grow F H F' H') : Ans K E m F' H' Q := by
  cases m with
  | bad => exact h
  | err c => exact fun F2 H2 g2 => h F2 H2 (g.trans g2)
  | ok r => exact fun v F2 H2 g2 d => h v F2 H2 (g.trans g2) (d.back g.hp)
theorem Ans.bind {E : EX} {m : Rs R} {k : R → Rs R} {Q Q1 : VK} (h : Ans K E (m >>= k) F H Q)
    (hk : ∀ x, Ans K E (k x) F H Q → ∀ v F1 H1, Grow F H F1 H1 → Den K H F1 H1 v x → Q1 v H1) : Ans K E m F H Q1 := by
  cases m with
  | bad => exact h
  | err c => exact h
  | ok r => exact hk r h
end
def SlOk (K : PySem.W.Frag) (F H : Hp) (r : R) (v : V) : Prop :=
  match r with
  | .d x => Dn K F v x
  | .l xs => ∃ a vs, v = .ref a ∧ F a = none ∧ H a = some (.lst vs) ∧ DnAll K F vs xs
  | .b _ => False
  | .s xs => ∃ a vs, v = .ref a ∧ SqL K F a vs ∧ DnAll K F vs xs
  | .m kvs => ∃ a ps, v = .ref a ∧ F a = some (.dT ps) ∧ KD K F ps kvs
  | .t kvs => ∃ a ps, v = .ref a ∧ F a = some (.dK ps) ∧ KTx K F ps kvs
  | .n kvs => ∃ a ps, v = .ref a ∧ F a = none ∧ H a = some (.dT ps) ∧ KD K F ps kvs
  | .q => False
  | .o a => v = .ref a
structure Rel (K : PySem.W.Frag) (ρ : Sto) (σ : St) (F H : Hp) : Prop where
  len : ρ.length = σ.length
  sub : Same F H
  slot : ∀ (i : Nat) r, ρ[i]? = some (some r) → ∃ v, σ[i]? = some (some v) ∧ SlOk K F H r v
  apart : ∀ (i j : Nat) a r q, ρ[i]? = some (some r) → ρ[j]? = some (some q) → r.isOwn = true → q.isOwn = true → σ[i]? = some (some (.ref a)) → σ[j]? = some (some (.ref a)) → i = j
section
variable {K : PySem.W.Frag} {ρ : Sto} {σ : St} {F F' H H' : Hp}
theorem SlOk.grow {r : R} {v : V} (h : SlOk K F H r v) (g : Grow F H F' H') : SlOk K F' H' r v := by
  cases r with
  | d x => exact Dn.mono g.fr h
  | l xs =>
    obtain ⟨a, vs, e, hf, hh, t⟩ := h
    exact ⟨a, vs, e, (g.old a _ hh).trans hf, g.hp _ _ hh, t.mono g.fr⟩
  | b xs => exact h
  | s xs =>
    obtain ⟨a, vs, e, hh, t⟩ := h
    exact ⟨a, vs, e, same_l g.fr hh, t.mono g.fr⟩
  | m kvs =>
    obtain ⟨a, ps, e, hh, t⟩ := h
    exact ⟨a, ps, e, g.fr _ _ hh, t.mono g.fr⟩
  | t kvs =>
    obtain ⟨a, ps, e, hh, t⟩ := h
    exact ⟨a, ps, e, g.fr _ _ hh, t.mono g.fr⟩
  | n kvs =>
    obtain ⟨a, ps, e, hf, hh, t⟩ := h
    exact ⟨a, ps, e, (g.old a _ hh).trans hf, g.hp _ _ hh, t.mono g.fr⟩
  | q => exact h
  | o a => exact h
theorem Rel.grow (h : Rel K ρ σ F H) (g : Grow F H F' H') : Rel K ρ σ F' H' :=
  ⟨h.len, g.sub, fun i r e => let ⟨v, e1, q⟩ := h.slot i r e; ⟨v, e1, q.grow g⟩, h.apart⟩
end
/-- THE READING of an expression with the pure meaning f -/
def tOf (K : PySem.W.Frag) (E : EX) (f : Sto → Rs R) : TE := fun σ H Q => ∃ ρ F, Rel K ρ σ F H ∧ Ans K E (f ρ) F H Q
/-- of a test -/
def AnsT (E : EX) (m : Rs Bool) (F H : Hp) (Q : Bool → Hp → Prop) : Prop :=
  match m with
  | .bad => False
  | .err c => ∀ F' H', Grow F H F' H' → E c H'
  | .ok b => ∀ F' H', Grow F H F' H' → Q b H'
def tOfT (K : PySem.W.Frag) (E : EX) (f : Sto → Rs Bool) : TT := fun σ H Q => ∃ ρ F, Rel K ρ σ F H ∧ AnsT E (f ρ) F H Q
/-- of arguments -/
def DenAll (K : PySem.W.Frag) (H0 F H : Hp) : List V → List R → Prop
  | [], [] => True
  | v :: vs, r :: rs => Den K H0 F H v r ∧ DenAll K H0 F H vs rs
  | _, _ => False
def AnsA (K : PySem.W.Frag) (E : EX) (m : Rs (List R)) (F H : Hp) (Q : List V → Hp → Prop) : Prop :=
  match m with
  | .bad => False
  | .err c => ∀ F' H', Grow F H F' H' → E c H'
  | .ok rs => ∀ vs F' H', Grow F H F' H' → DenAll K H F' H' vs rs → Q vs H'
def tOfA (K : PySem.W.Frag) (E : EX) (f : Sto → Rs (List R)) : TA := fun σ H Q => ∃ ρ F, Rel K ρ σ F H ∧ AnsA K E (f ρ) F H Q
section
variable {K : PySem.W.Frag} {F F' H H' : Hp} {E : EX}
theorem AnsT.grow {m : Rs Bool} {Q : Bool → Hp → Prop} (h : AnsT E m F H Q) (g : Grow F H F' H') : AnsT E m F' H' Q := by
  cases m with
  | bad => exact h
  | err c => exact fun F2 H2 g2 => h F2 H2 (g.trans g2)
  | ok r => exact fun F2 H2 g2 => h F2 H2 (g.trans g2)
theorem DenAll.grow {H0 : Hp} : ∀ {vs : List V} {rs : List R}, DenAll K H0 F H vs rs → Grow F H F' H' → DenAll K H0 F' H' vs rs
  | [], [], _, _ => trivial
  | _ :: _, _ :: _, ⟨a, b⟩, g => ⟨a.grow g, DenAll.grow b g⟩
theorem DenAll.back {H0 H1 : Hp} (s : Same H0 H1) : ∀ {vs : List V} {rs : List R}, DenAll K H1 F H vs rs → DenAll K H0 F H vs rs
  | [], [], _ => trivial
  | _ :: _, _ :: _, ⟨a, b⟩ => ⟨a.back s, DenAll.back s b⟩
theorem AnsA.grow {m : Rs (List R)} {Q : List V → Hp → Prop} (h : AnsA K E m F H Q) (g : Grow F H F' H') : AnsA K E m F' H' Q := by
  cases m with
  | bad => exact h
  | err c => exact fun F2 H2 g2 => h F2 H2 (g.trans g2)
  | ok r => exact fun vs F2 H2 g2 d => h vs F2 H2 (g.trans g2) (d.back g.hp)
/-- sequencing: what is asked of the first part -/
theorem Ans.bindT {m : Rs R} {k : R → Rs Bool} {Q : Bool → Hp → Prop} {Q1 : VK} (h : AnsT E (m >>= k) F H Q)
    (hk : ∀ x, AnsT E (k x) F H Q → ∀ v F1 H1, Grow F H F1 H1 → Den K H F1 H1 v x → Q1 v H1) : Ans K E m F H Q1 := by
  cases m with
  | bad => exact h
  | err c => exact h
  | ok r => exact hk r h
theorem AnsT.bind {m : Rs Bool} {k : Bool → Rs R} {Q : VK} {Q1 : Bool → Hp → Prop} (h : Ans K E (m >>= k) F H Q)
    (hk : ∀ x, Ans K E (k x) F H Q → ∀ F1 H1, Grow F H F1 H1 → Q1 x H1) : AnsT E m F H Q1 := by
  cases m with
  | bad => exact h
  | err c => exact h
  | ok r => exact hk r h
theorem AnsT.bindT {m : Rs Bool} {k : Bool → Rs Bool} {Q Q1 : Bool → Hp → Prop} (h : AnsT E (m >>= k) F H Q)
    (hk : ∀ x, AnsT E (k x) F H Q → ∀ F1 H1, Grow F H F1 H1 → Q1 x H1) : AnsT E m F H Q1 := by
  cases m with
  | bad => exact h
  | err c => exact h
  | ok r => exact hk r h
theorem Ans.bindA {m : Rs R} {k : R → Rs (List R)} {Q : List V → Hp → Prop} {Q1 : VK} (h : AnsA K E (m >>= k) F H Q)
    (hk : ∀ x, AnsA K E (k x) F H Q → ∀ v F1 H1, Grow F H F1 H1 → Den K H F1 H1 v x → Q1 v H1) : Ans K E m F H Q1 := by
  cases m with
  | bad => exact h
  | err c => exact h
  | ok r => exact hk r h
theorem AnsA.bind {m : Rs (List R)} {k : List R → Rs R} {Q : VK} {Q1 : List V → Hp → Prop} (h : Ans K E (m >>= k) F H Q)
    (hk : ∀ x, Ans K E (k x) F H Q → ∀ vs F1 H1, Grow F H F1 H1 → DenAll K H F1 H1 vs x → Q1 vs H1) : AnsA K E m F H Q1 := by
  cases m with
  | bad => exact h
  | err c => exact h
  | ok r => exact hk r h
end
end PP
set_option Elab.async false
set_option linter.all false
set_option autoImplicit false
set_option maxRecDepth 100000
set_option maxHeartbeats 1000000
namespace PP
open PySem L2
section
variable {X : Cx}
theorem pe_of {e : Expr} {t t' : TE} (h : PE X e t) (w : ∀ σ H Q, t' σ H Q → t σ H Q) : PE X e t' := ⟨fun pins s σ H Q I q => h.run pins s σ H Q I (w σ H Q q)⟩
theorem pt_of {e : Expr} {t t' : TT} (h : PT X e t) (w : ∀ σ H Q, t' σ H Q → t σ H Q) : PT X e t' := ⟨fun pins s σ H Q I q => h.run pins s σ H Q I (w σ H Q q)⟩
theorem pw_of {e : Expr} {t t' : TT} (h : PW X e t) (w : ∀ σ H Q, t' σ H Q → t σ H Q) : PW X e t' := ⟨fun wh pins s σ H Q I q => h.run wh pins s σ H Q I (w σ H Q q)⟩
theorem pa_of {es : List Expr} {t t' : TA} (h : PA X es t) (w : ∀ σ H Q, t' σ H Q → t σ H Q) : PA X es t' := ⟨fun p pins s σ H Q I q => h.run p pins s σ H Q I (w σ H Q q)⟩
end
/-- the soundness of a two-place operation on values -/
def OpS (K : PySem.W.Frag) (E : EX) (r : R2) (g : R → R → Rs R) : Prop :=
  ∀ x y v1 v2 H0 H1 F H Q, Same F H → Den K H0 F H v1 x → Den K H1 F H v2 y → Ans K E (g x y) F H Q → r v1 v2 H Q
/-- one that gives a truth value -/
def CmS (K : PySem.W.Frag) (E : EX) (r : R2) (g : R → R → Rs Bool) : Prop :=
  ∀ x y v1 v2 H0 H1 F H Q, Same F H → Den K H0 F H v1 x → Den K H1 F H v2 y → AnsT E (g x y) F H (fun b H' => Q (.bl b) H') → r v1 v2 H Q
def CallS (K : PySem.W.Frag) (E : EX) (r : List V → Hp → VK → Prop) (g : List R → Rs R) : Prop :=
  ∀ rs vs H0 F H Q, Same F H → DenAll K H0 F H vs rs → Ans K E (g rs) F H Q → r vs H Q
section
variable {X : Cx} {E : EX} {a b c : Expr} {fa fb fc : Sto → Rs R} {pos : Pos}
theorem tOp_of {r : R2} {g : R → R → Rs R} (hs : OpS X.K E r g) : ∀ σ H Q, tOf X.K E (fun ρ => fa ρ >>= fun x => fb ρ >>= fun y => g x y) σ H Q → tOp r (tOf X.K E fa) (tOf X.K E fb) σ H Q := by
  rintro σ H Q ⟨ρ, F, R, h⟩
  refine ⟨ρ, F, R, h.bind fun x hx v1 F1 H1 g1 d1 => ?_⟩
  refine ⟨ρ, F1, R.grow g1, (hx.grow g1).bind fun y hy v2 F2 H2 g2 d2 => ?_⟩
  exact hs x y v1 v2 H H1 F2 H2 Q g2.sub (d1.grow g2) d2 (hy.grow g2)
theorem q_bin {op : Operator} {r : R2} {g : R → R → Rs R} (ho : OpR X (binaryOp op) r) (hs : OpS X.K E r g) (ha : PE X a (tOf X.K E fa)) (hb : PE X b (tOf X.K E fb)) :
    PE X (.BinOp a op b pos) (tOf X.K E fun ρ => fa ρ >>= fun x => fb ρ >>= fun y => g x y) := pe_of (pe_op ho ha hb) (tOp_of hs)
theorem tCm_of {r : R2} {g : R → R → Rs Bool} (hs : CmS X.K E r g) : ∀ σ H Q, tOf X.K E (fun ρ => fa ρ >>= fun x => fb ρ >>= fun y => boolR (g x y)) σ H Q → tOp r (tOf X.K E fa) (tOf X.K E fb) σ H Q :=
  tOp_of (g := fun x y => boolR (g x y)) fun x y v1 v2 H0 H1 F H Q s d1 d2 h => hs x y v1 v2 H0 H1 F H Q s d1 d2 (by
    have h : Ans X.K E (boolR (g x y)) F H Q := h
    cases e : g x y with
    | bad => rw [e] at h; exact h
    | err c => rw [e] at h; exact h
    | ok c => rw [e] at h; exact fun F' H' gr => h (.bl c) F' H' gr (.bl c))
theorem q_cmp {op : CmpOp} {r : R2} {g : R → R → Rs Bool} (ho : OpR X (compareOp op) r) (hs : CmS X.K E r g) (ha : PE X a (tOf X.K E fa)) (hb : PE X b (tOf X.K E fb)) (hm : behindInMarks op b = false) :
    PE X (.Compare a [op] [b] pos) (tOf X.K E fun ρ => fa ρ >>= fun x => fb ρ >>= fun y => boolR (g x y)) := pe_of (pe_cmpR ho ha hb hm) (tCm_of hs)
theorem q_cmpT {op : CmpOp} {r : R2} {g : R → R → Rs Bool} (ho : OpR X (compareOp op) r) (hs : CmS X.K E r g) (ha : PE X a (tOf X.K E fa)) (hb : PE X b (tOf X.K E fb)) (hm : behindInMarks op b = false) :
    PT X (.Compare a [op] [b] pos) (tOfT X.K E fun ρ => fa ρ >>= fun x => fb ρ >>= fun y => g x y) := by
  refine pt_of (pt_cmpR ho ha hb hm) fun σ H Q h => ?_
  obtain ⟨ρ, F, R, h⟩ := h
  refine ⟨ρ, F, R, Ans.bindT h fun x hx v1 F1 H1 g1 d1 => ?_⟩
  refine ⟨ρ, F1, R.grow g1, Ans.bindT (hx.grow g1) fun y hy v2 F2 H2 g2 d2 => ?_⟩
  refine hs x y v1 v2 H H1 F2 H2 _ g2.sub (d1.grow g2) d2 ?_
  have hy := hy.grow g2
  cases e : g x y with
  | bad => rw [e] at hy; exact hy
  | err c => rw [e] at hy; exact hy
  | ok c => rw [e] at hy; exact fun F' H' gr => ⟨c, rfl, hy F' H' gr⟩
end
section
variable {X : Cx} {E : EX} {K : PySem.W.Frag}
def rAddStr : R2 := fun x y H Q => ∃ i j, x = .str i ∧ y = .str j ∧ i.length + j.length ≤ sizeLine ∧ Q (.str (i ++ j)) H
def rAdd (K : PySem.W.Frag) : R2 := fun x y H Q => rI0 (fun i j => .int (i + j)) x y H Q ∨ (rAddStr x y H Q ∨ (rCatA K x y H Q ∨ rCat x y H Q))
theorem op_addA : OpR X (binaryOp .Add) (rAdd X.K) := op_add.or (op_add_str.or (op_catA.or op_cat))
theorem lim_le : lim ≤ sizeLine := by decide
theorem fit_of {α : Type} {n : Nat} {k : Rs α} {P : Rs α → Prop} (h : P (fit n k)) (hb : ¬ P .bad) : n ≤ lim ∧ P k := by
  unfold fit at h
  by_cases hn : n ≤ lim
  · rw [if_pos hn] at h; exact ⟨hn, h⟩
  · rw [if_neg hn] at h; exact absurd h hb
theorem Ans.fit {n : Nat} {m : Rs R} {F H : Hp} {Q : VK} (h : Ans K E (fit n m) F H Q) : n ≤ lim ∧ Ans K E m F H Q := fit_of (P := fun m => Ans K E m F H Q) h id
theorem AnsT.fit {n : Nat} {m : Rs Bool} {F H : Hp} {Q : Bool → Hp → Prop} (h : AnsT E (fit n m) F H Q) : n ≤ lim ∧ AnsT E m F H Q := fit_of (P := fun m => AnsT E m F H Q) h id
/-- a new tuple, a new list, handed on -/
theorem Ans.newT {F H : Hp} {Q : VK} {p : Addr} {vs : List V} {xs : List D} (h : Ans K E (.ok (.d (.tuple xs))) F H Q) (s : Same F H) (hp : H p = none) (t : DnAll K F vs xs) : Q (.ref p) (upd H p (.tup vs)) := by
  have g : Grow F H (upd F p (.tup vs)) (upd H p (.tup vs)) := Grow.new s hp
  exact h _ _ _ g (.tup (.inl (.inl upd_same)) (t.mono g.fr))
theorem Ans.newL {F H : Hp} {Q : VK} {p : Addr} {vs : List V} {xs : List D} (h : Ans K E (.ok (.l xs)) F H Q) (s : Same F H) (hp : H p = none) (t : DnAll K F vs xs) : Q (.ref p) (upd H p (.lst vs)) := by
  exact h _ _ _ (Grow.own s hp) ⟨p, vs, rfl, hp, s.free hp, upd_same, t⟩
theorem Ans.val {F H : Hp} {Q : VK} {v : V} {x : D} (h : Ans K E (.ok (.d x)) F H Q) (s : Same F H) (t : Dn K F v x) : Q v H := h _ _ _ (Grow.refl s) t
theorem strOk_append {x y : Str} (hx : PyData.strOk x = true) (hy : PyData.strOk y = true) : PyData.strOk (x ++ y) = true := by
  unfold PyData.strOk at *
  show (x.cps ++ y.cps).all _ = true
  rw [Array.all_append, hx, hy]
  rfl
theorem add_s : OpS K E (rAdd K) addR := by
  intro x y v1 v2 H0 H1 F H Q s d1 d2 h
  unfold addR at h
  split at h
  · cases d1; cases d2
    exact .inl ⟨_, _, rfl, rfl, h.val s (.int _)⟩
  · obtain ⟨hz, h⟩ := h.fit
    cases d1 with
    | str _ o1 =>
      cases d2 with
      | str _ o2 => exact .inr (.inl ⟨_, _, rfl, rfl, Nat.le_trans hz lim_le, h.val s (.str _ (strOk_append o1 o2))⟩)
  · obtain ⟨hz, h⟩ := h.fit
    cases d1 with
    | tup r1 t1 =>
      cases d2 with
      | tup r2 t2 =>
        refine .inr (.inr (.inl ⟨_, _, _, _, rfl, rfl, same_t s r1, same_t s r2, by rw [t1.length, t2.length]; exact Nat.le_trans hz lim_le, fun e => ?_, fun _ e => ?_, fun _ _ p hp => h.newT s hp (t1.append t2)⟩))
        · subst e
          cases t1
          exact h.val s (.tup r2 t2)
        · subst e
          cases t2
          rw [List.append_nil] at h
          exact h.val s (.tup r1 t1)
  · split at h
    · rename_i e1 e2
      obtain ⟨hz, h⟩ := h.fit
      obtain ⟨l, vs, rfl, r1, t1⟩ := d1.lst s e1
      obtain ⟨b, ws, rfl, r2, t2⟩ := d2.lst s e2
      exact .inr (.inr (.inr ⟨l, b, vs, ws, rfl, rfl, r1, r2, by rw [t1.length, t2.length]; exact Nat.le_trans hz lim_le, fun p hp => h.newL s hp (t1.append t2)⟩))
    · exact h.elim
theorem sub_s : OpS K E (rI0 fun i j => .int (i - j)) subR := by
  intro x y v1 v2 H0 H1 F H Q s d1 d2 h
  unfold subR at h
  split at h
  · cases d1; cases d2
    exact ⟨_, _, rfl, rfl, h.val s (.int _)⟩
  · exact h.elim
theorem bnd_of {i : Int} (h : bnd i = true) : -(2 ^ 64) < i ∧ i < 2 ^ 64 := by
  unfold bnd at h
  rw [Bool.and_eq_true] at h
  exact ⟨of_decide_eq_true h.1, of_decide_eq_true h.2⟩
def rMul2 : R2 := fun x y H Q => ∃ a : Str, x = .str a ∧ y = .int 2 ∧ a.length + a.length ≤ sizeLine ∧ Q (.str (a ++ a)) H
theorem op_mul2 {X : Cx} : OpR X (binaryOp .Mult) rMul2 := by
  intro pins s σ H x y v u Q I rx ry h
  obtain ⟨a, rfl, rfl, hz, q⟩ := h
  obtain ⟨t, rfl⟩ := rx
  obtain ⟨t', rfl⟩ := ry
  refine P.mul_str (by decide) (fun _ _ => ?_) (fun _ _ => ?_) ?_
  · have : (sizeLine : Nat) ≤ 16777216 * 1024 := by decide
    omega
  · unfold Builtin.Str.tooLong
    refine decide_eq_false ?_
    show ¬ a.length * 2 > sizeLine
    omega
  · rw [if_neg (by decide)]
    by_cases h0 : a.length = 0
    · rw [if_pos (by simp [h0])]
      have e : a ++ a = a := by
        have h0' : a.cps.size = 0 := h0
        have e1 : a.cps = #[] := Array.size_eq_zero_iff.mp h0'
        show (⟨a.cps ++ a.cps⟩ : Str) = a
        cases a
        simp only at e1
        subst e1
        rfl
      rw [e] at q
      exact ⟨.str a, H, I, ⟨_, rfl⟩, q⟩
    · rw [if_neg (by simp [h0])]
      have e : (⟨(List.replicate (2 : Int).toNat a.cps).foldl (· ++ ·) #[]⟩ : Str) = a ++ a := by
        show (⟨(#[] ++ a.cps) ++ a.cps⟩ : Str) = ⟨a.cps ++ a.cps⟩
        rw [Array.empty_append]
      rw [e]
      exact ⟨by show (a.cps ++ a.cps).size ≤ sizeLine; rw [Array.size_append]; exact hz, .str (a ++ a), H, I.tok _, ⟨_, rfl⟩, q⟩
theorem mul_s : OpS K E (fun x y H Q => rI CMul (fun i j => .int (i * j)) x y H Q ∨ (rMul2 x y H Q ∨ rRep x y H Q)) mulR := by
  intro x y v1 v2 H0 H1 F H Q s d1 d2 h
  unfold mulR at h
  split at h
  · split at h
    · rename_i hc
      cases d1; cases d2
      refine .inl ⟨_, _, rfl, rfl, ?_, h.val s (.int _)⟩
      rcases Bool.or_eq_true_iff.mp hc with q | q
      · exact .inr (bnd_of q)
      · exact .inl (bnd_of q)
    · exact h.elim
  · split at h
    · rename_i hk
      subst hk
      obtain ⟨hz, h⟩ := h.fit
      cases d1 with
      | str _ hx =>
        cases d2
        exact .inr (.inl ⟨_, rfl, rfl, Nat.le_trans hz lim_le, h.val s (.str _ (strOk_append hx hx))⟩)
    · exact h.elim
  · split at h
    · rename_i e
      split at h
      · rename_i hk
        rw [Bool.and_eq_true] at hk
        have k0 := of_decide_eq_true hk.1
        have k1 := of_decide_eq_true hk.2
        obtain ⟨hz, h⟩ := h.fit
        obtain ⟨l, vs, rfl, r1, t1⟩ := d1.lst s e
        cases d2
        exact .inr (.inr ⟨l, _, vs, rfl, rfl, r1, by omega, by omega, by rw [t1.length]; exact Nat.le_trans hz lim_le, fun p hp => h.newL s hp (t1.rep _)⟩)
      · exact h.elim
    · exact h.elim
  · exact h.elim
theorem op_mulA : OpR X (binaryOp .Mult) (fun x y H Q => rI CMul (fun i j => .int (i * j)) x y H Q ∨ (rMul2 x y H Q ∨ rRep x y H Q)) := op_mul.or (op_mul2.or op_rep)
theorem mod_s : OpS K E (rI (fun _ j => 0 < j) fun i j => .int (i % j)) modR := by
  intro x y v1 v2 H0 H1 F H Q s d1 d2 h
  unfold modR at h
  split at h
  · split at h
    · rename_i hc
      cases d1; cases d2
      exact ⟨_, _, rfl, rfl, hc, h.val s (.int _)⟩
    · exact h.elim
  · exact h.elim
theorem fdiv_s : OpS K E (rI CDiv fun i j => .int (i / j)) fdivR := by
  intro x y v1 v2 H0 H1 F H Q s d1 d2 h
  unfold fdivR at h
  split at h
  · split at h
    · rename_i hc
      cases d1; cases d2
      exact ⟨_, _, rfl, rfl, ⟨hc.1, by omega⟩, h.val s (.int _)⟩
    · exact h.elim
  · exact h.elim
theorem AnsT.val {F H : Hp} {Q : Bool → Hp → Prop} {c : Bool} (h : AnsT E (.ok c) F H Q) (s : Same F H) : Q c H := h _ _ (Grow.refl s)
theorem AnsT.notB {m : Rs Bool} {F H : Hp} {Q : Bool → Hp → Prop} (h : AnsT E (notB m) F H Q) : AnsT E m F H fun b H' => Q (!b) H' := by
  cases m with
  | bad => exact h
  | err c => exact h
  | ok b => exact h
def rEqM (K : PySem.W.Frag) : R2 := fun x y H Q => ∃ d e, Dp K H x d ∧ Dp K H y e ∧ d.canLay0 = true ∧ e.canLay0 = true ∧ min d.depth e.depth ≤ 60 ∧ Q (.bl (PyData.eqv d e)) H
def rNeM (K : PySem.W.Frag) : R2 := fun x y H Q => ∃ d e, Dp K H x d ∧ Dp K H y e ∧ d.canLay0 = true ∧ e.canLay0 = true ∧ min d.depth e.depth ≤ 60 ∧ Q (.bl (!PyData.eqv d e)) H
theorem op_eqM (hu : X.A.units + 64 < cLine) : OpR X (compareOp .Eq) (rEqM X.K) := by
  intro pins s σ H x y v u Q I rx ry h
  obtain ⟨d, e, hd, he, ld, le, hm, q⟩ := h
  obtain ⟨as, r1⟩ := Dp.reads I d x v hd rx
  obtain ⟨bs, r2⟩ := Dp.reads I e y u he ry
  exact SeqAt.compareEq_reads r1 r2 ld le (by omega) ⟨V.bl _, H, I, rfl, q⟩
theorem op_neM (hu : X.A.units + 64 < cLine) : OpR X (compareOp .NotEq) (rNeM X.K) := by
  intro pins s σ H x y v u Q I rx ry h
  obtain ⟨d, e, hd, he, ld, le, hm, q⟩ := h
  obtain ⟨as, r1⟩ := Dp.reads I d x v hd rx
  obtain ⟨bs, r2⟩ := Dp.reads I e y u he ry
  exact SeqAt.compareNe_reads r1 r2 ld le (by omega) ⟨V.bl _, H, I, rfl, q⟩
theorem eq_s : CmS K E (rEqM K) eqR := by
  intro x y v1 v2 H0 H1 F H Q s d1 d2 h
  unfold eqR at h
  split at h
  · rename_i hc
    simp only [Bool.and_eq_true] at hc
    obtain ⟨p1, l1⟩ := d1.see s hc.1.1
    obtain ⟨p2, l2⟩ := d2.see s hc.1.2
    exact ⟨_, _, p1, p2, l1, l2, of_decide_eq_true hc.2, h.val s⟩
  · exact h.elim
theorem ne_s : CmS K E (rNeM K) (fun x y => notB (eqR x y)) := by
  intro x y v1 v2 H0 H1 F H Q s d1 d2 h
  replace h := h.notB
  unfold eqR at h
  split at h
  · rename_i hc
    simp only [Bool.and_eq_true] at hc
    obtain ⟨p1, l1⟩ := d1.see s hc.1.1
    obtain ⟨p2, l2⟩ := d2.see s hc.1.2
    exact ⟨_, _, p1, p2, l1, l2, of_decide_eq_true hc.2, h.val s⟩
  · exact h.elim
theorem ints_of : ∀ {xs : List D} {ns : List Int}, ints? xs = some ns → xs = ns.map PyData.int
  | [], ns, h => by cases h; rfl
  | x :: xs, ns, h => by
    cases x with
    | int i =>
      unfold ints? at h
      split at h
      · rename_i l e
        cases h
        rw [ints_of e]
        rfl
      · cases h
    | _ => cases h
theorem dn_ints {F : Hp} : ∀ {vs : List V} {ns : List Int}, DnAll K F vs (ns.map PyData.int) → vs = ns.map V.int
  | [], [], _ => rfl
  | [], _ :: _, h => by cases h
  | _ :: _, [], h => by cases h
  | v :: vs, n :: ns, h => by
    cases h with
    | cons r t =>
      cases r
      rw [dn_ints t]
      rfl
theorem lt_s : CmS K E (fun x y H Q => rI0 (fun i j => .bl (decide (i < j))) x y H Q ∨ rLtT K x y H Q) ltR := by
  intro x y v1 v2 H0 H1 F H Q s d1 d2 h
  unfold ltR at h
  split at h
  · cases d1; cases d2
    exact .inl ⟨_, _, rfl, rfl, h.val s⟩
  · split at h
    · rename_i e1 e2
      cases d1 with
      | tup r1 t1 =>
        cases d2 with
        | tup r2 t2 =>
          rw [ints_of e1] at t1
          rw [ints_of e2] at t2
          have q1 := same_t s r1
          have q2 := same_t s r2
          rw [dn_ints t1] at q1
          rw [dn_ints t2] at q2
          exact .inr ⟨_, _, _, _, rfl, rfl, q1, q2, h.val s⟩
    · exact h.elim
  · exact h.elim
theorem op_ltA (hu : X.A.units < cLine) : OpR X (compareOp .Lt) (fun x y H Q => rI0 (fun i j => .bl (decide (i < j))) x y H Q ∨ rLtT X.K x y H Q) := op_lt.or (op_ltT hu)
theorem le_s : CmS K E (rI0 (fun i j => .bl (decide (i ≤ j)))) leR := by
  intro x y v1 v2 H0 H1 F H Q s d1 d2 h
  unfold leR at h
  split at h
  · cases d1; cases d2
    exact ⟨_, _, rfl, rfl, h.val s⟩
  · exact h.elim
theorem gt_s : CmS K E (rI0 (fun i j => .bl (decide (j < i)))) gtR := by
  intro x y v1 v2 H0 H1 F H Q s d1 d2 h
  unfold gtR at h
  split at h
  · cases d1; cases d2
    exact ⟨_, _, rfl, rfl, h.val s⟩
  · exact h.elim
theorem ge_s : CmS K E (rI0 (fun i j => .bl (decide (j ≤ i)))) geR := by
  intro x y v1 v2 H0 H1 F H Q s d1 d2 h
  unfold geR at h
  split at h
  · cases d1; cases d2
    exact ⟨_, _, rfl, rfl, h.val s⟩
  · exact h.elim
/-- in: texts; lists and tuples of data -/
def rInA (K : PySem.W.Frag) (neg : Bool) : R2 := fun x y H Q =>
  (∃ i j, x = .str i ∧ y = .str j ∧ Q (.bl (if neg then !(!(Builtin.Str.occurrences j i 0 j.length 1).isEmpty) else !(Builtin.Str.occurrences j i 0 j.length 1).isEmpty)) H) ∨
  ∃ d ds, Dp K H x d ∧ (Dp K H y (.list ds) ∨ Dp K H y (.tuple ds)) ∧ d.canLay0 = true ∧ PyData.canLayAll0 ds = true ∧ d.depth ≤ 60 ∧ Q (.bl (if neg then !(ds.any fun z => PyData.eqv z d) else ds.any fun z => PyData.eqv z d)) H
theorem op_inA (hu : X.A.units + 64 < cLine) : OpR X (compareOp .In) (rInA X.K false) := by
  intro pins s σ H x y v u Q I rx ry h
  rcases h with h | ⟨d, ds, hd, he, ld, le, hm, q⟩
  · exact op_in_str pins s σ H x y v u Q I rx ry h
  · obtain ⟨as, r1⟩ := Dp.reads I d x v hd rx
    have hr : X.A.units + 1 + min (PyData.depthAll ds) d.depth < cLine := by omega
    rcases he with he | he
    · obtain ⟨bs, r2⟩ := Dp.reads I _ y u he ry
      exact SeqAt.in_list_reads r2 r1 le ld hr ⟨V.bl _, H, I, rfl, q⟩
    · obtain ⟨bs, r2⟩ := Dp.reads I _ y u he ry
      exact SeqAt.in_tuple_reads r2 r1 le ld hr ⟨V.bl _, H, I, rfl, q⟩
theorem op_ninA (hu : X.A.units + 64 < cLine) : OpR X (compareOp .NotIn) (rInA X.K true) := by
  intro pins s σ H x y v u Q I rx ry h
  rcases h with h | ⟨d, ds, hd, he, ld, le, hm, q⟩
  · exact op_notIn_str pins s σ H x y v u Q I rx ry h
  · obtain ⟨as, r1⟩ := Dp.reads I d x v hd rx
    have hr : X.A.units + 1 + min (PyData.depthAll ds) d.depth < cLine := by omega
    rcases he with he | he
    · obtain ⟨bs, r2⟩ := Dp.reads I _ y u he ry
      exact SeqAt.notIn_list_reads r2 r1 le ld hr ⟨V.bl _, H, I, rfl, q⟩
    · obtain ⟨bs, r2⟩ := Dp.reads I _ y u he ry
      exact SeqAt.notIn_tuple_reads r2 r1 le ld hr ⟨V.bl _, H, I, rfl, q⟩
theorem seq_dp {H0 F H : Hp} {v : V} {r : R} {ys : List D} (s : Same F H) (d : Den K H0 F H v r) (e : r.seq? = some ys) : (Dp K H v (.list ys) ∨ Dp K H v (.tuple ys)) ∧ PyData.canLayAll0 ys = true := by
  obtain ⟨a, vs, rfl, q, t⟩ := d.seq s e
  refine ⟨?_, t.lay⟩
  rcases q with q | q
  · exact .inl (.lst q (t.mono s).dp)
  · exact .inr (.tup q (t.mono s).dp)
theorem in_s' {neg : Bool} : CmS K E (rInA K neg) (fun x y => if neg then notB (inR x y) else inR x y) := by
  intro x y v1 v2 H0 H1 F H Q s d1 d2 h
  have h : AnsT E (inR x y) F H (fun b H' => Q (.bl (if neg then !b else b)) H') := by
    cases neg with
    | false => exact h
    | true => exact AnsT.notB h
  unfold inR at h
  split at h
  · split at h
    · cases d1; cases d2
      exact .inl ⟨_, _, rfl, rfl, h.val s⟩
    · exact h.elim
  · split at h
    · rename_i ys e
      split at h
      · rename_i hm
        simp only [Bool.and_eq_true] at hm
        obtain ⟨p1, l1⟩ := d1.see s hm.1
        obtain ⟨p2, l2⟩ := seq_dp s d2 e
        exact .inr ⟨_, ys, p1, p2, l1, l2, of_decide_eq_true hm.2, h.val s⟩
      · exact h.elim
    · exact h.elim
theorem in_s : CmS K E (rInA K false) inR := in_s' (neg := false)
theorem nin_s : CmS K E (rInA K true) (fun x y => notB (inR x y)) := in_s' (neg := true)
def rIsA (neg : Bool) : R2 := fun x y H Q => (y = .non ∧ Q (.bl (if neg then !decide (x = .non) else decide (x = .non))) H) ∨ ∃ a b : Bool, x = .bl a ∧ y = .bl b ∧ Q (.bl (if neg then !decide (a = b) else decide (a = b))) H
theorem op_isA : OpR X (compareOp .Is) (rIsA false) := op_isN.or op_isBl
theorem op_isnA : OpR X (compareOp .IsNot) (rIsA true) := op_notN.or op_notBl
theorem den_non {H0 F H : Hp} {v : V} {r : R} (d : Den K H0 F H v r) (h : ∀ x, r = .d x → x ≠ .none) (hq : r ≠ .q) : v ≠ .non := by
  intro e
  subst e
  cases r with
  | d x =>
    cases d
    exact h _ rfl rfl
  | l xs => obtain ⟨a, vs, e, _⟩ := d; cases e
  | b xs => obtain ⟨a, vs, e, _⟩ := d; cases e
  | s xs => obtain ⟨a, vs, e, _⟩ := d; cases e
  | m xs => obtain ⟨a, vs, e, _⟩ := d; cases e
  | t xs => obtain ⟨a, vs, e, _⟩ := d; cases e
  | n xs => exact d
  | q => exact hq rfl
  | o a => cases d
theorem is_s' {neg : Bool} : CmS K E (rIsA neg) (fun x y => if neg then notB (isR x y) else isR x y) := by
  intro x y v1 v2 H0 H1 F H Q s d1 d2 h
  have h : AnsT E (isR x y) F H (fun b H' => Q (.bl (if neg then !b else b)) H') := by
    cases neg with
    | false => exact h
    | true => exact AnsT.notB h
  unfold isR at h
  split at h
  · exact h.elim
  · exact h.elim
  · exact h.elim
  · cases d1; cases d2
    exact .inl ⟨rfl, h.val s⟩
  · rename_i hq hn' ho' hx _
    cases d2
    have hn : v1 ≠ .non := den_non d1 (fun z e q => by subst e; subst q; exact hx rfl) (fun e => hq e)
    refine .inl ⟨rfl, ?_⟩
    rw [decide_eq_false hn]
    exact h.val s
  · cases d1; cases d2
    exact .inr ⟨_, _, rfl, rfl, h.val s⟩
  · exact h.elim
theorem is_s : CmS K E (rIsA false) isR := is_s' (neg := false)
theorem isn_s : CmS K E (rIsA true) (fun x y => notB (isR x y)) := is_s' (neg := true)
theorem tru_s {x : R} {v : V} {H0 F H : Hp} {Q : Bool → Hp → Prop} (s : Same F H) (d : Den K H0 F H v x) (h : AnsT E (truR x) F H Q) : ∃ k, TruV K v H k ∧ truR x = .ok k := by
  unfold truR at h ⊢
  split at h
  · cases d; exact ⟨_, rfl, rfl⟩
  · cases d; exact ⟨_, rfl, rfl⟩
  · cases d; exact ⟨_, rfl, rfl⟩
  · obtain ⟨hz, h⟩ := h.fit
    cases d
    exact ⟨_, ⟨Nat.le_trans hz lim_le, rfl⟩, fit_ok hz⟩
  · cases d with
    | lst r t => exact ⟨_, .inl ⟨_, .inl (.inl (s _ _ r)), rfl⟩, by rw [t.isEmpty]⟩
  · cases d with
    | tup r t => exact ⟨_, .inr (.inl ⟨_, same_t s r, rfl⟩), by rw [t.isEmpty]⟩
  · obtain ⟨a, vs, rfl, h0, hf, hh, t⟩ := d
    exact ⟨_, .inl ⟨_, .inl (.inl hh), rfl⟩, by rw [t.isEmpty]⟩
  · obtain ⟨a, vs, rfl, hf, hh, t⟩ := d
    exact ⟨_, .inl ⟨_, .inl (.inl hh), rfl⟩, by rw [t.isEmpty]⟩
  · exact h.elim
theorem atI_dn {F : Hp} {vs : List V} {ds : List D} {i : Int} {d : D} (t : DnAll K F vs ds) (h : atI ds i = some d) : ∃ v, atI vs i = some v ∧ Dn K F v d := by
  unfold atI at h ⊢
  rw [t.length]
  cases e : ixN ds.length i with
  | none => rw [e] at h; cases h
  | some j =>
    rw [e] at h
    obtain ⟨v, h1, h2⟩ := t.getD h
    exact ⟨v, h1, h2⟩
theorem strOk_at {x : Str} {i : Int} {c : Nat} (hx : PyData.strOk x = true) (h : atI x.cps.toList i = some c) : PyData.strOk ⟨#[c]⟩ = true := by
  obtain ⟨j, _, h2, _⟩ := atI_get h
  have hm : c ∈ x.cps.toList := List.mem_of_getElem? h2
  unfold PyData.strOk at *
  have q := Array.all_eq_true_iff_forall_mem.mp hx c (by simpa using hm)
  simp only [List.all_toArray, List.all_cons, List.all_nil, Bool.and_true]
  exact q
theorem idx_s : OpS K E (rIx K) idxR := by
  intro x y v1 v2 H0 H1 F H Q s d1 d2 h
  unfold idxR at h
  split at h
  · split at h
    · rename_i e
      obtain ⟨hz, h⟩ := h.fit
      cases d2
      cases d1 with
      | str _ o1 => exact .inr (.inr ⟨_, _, _, rfl, rfl, Nat.le_trans hz lim_le, e, h.val s (.str _ (strOk_at o1 e))⟩)
    · exact h.elim
  · split at h
    · rename_i e
      split at h
      · rename_i e2
        cases d2
        obtain ⟨a, vs, rfl, q, t⟩ := d1.seq s e
        obtain ⟨w, h1, h2⟩ := atI_dn t e2
        rcases q with q | q
        · exact .inl ⟨_, _, _, _, rfl, rfl, q, h1, h.val s h2⟩
        · exact .inr (.inl ⟨_, _, _, _, rfl, rfl, q, h1, h.val s h2⟩)
      · exact h.elim
    · exact h.elim
  · exact h.elim
theorem DnAll.cut {F : Hp} {vs : List V} {ds : List D} (t : DnAll K F vs ds) (lo hi : Option Int) : DnAll K F (cutV vs lo hi) (cutD ds lo hi) := by
  unfold cutV cutD
  rw [t.length]
  exact (t.drop _).take _
def rSl (K : PySem.W.Frag) : V → Option Int → Option Int → Hp → VK → Prop := fun x lo hi H Q => rSlA K x lo hi H Q ∨ (rSlL K x lo hi H Q ∨ rSlS x lo hi H Q)
theorem sl_A : SlR X (rSl X.K) := sl_tupA.or (sl_list.or sl_str)
theorem cut_whole {α : Type} (xs : List α) {lo hi : Option Int} (h : HT.sIx xs.length 0 lo = 0 ∧ HT.sIx xs.length xs.length hi = xs.length) : cutD xs lo hi = xs := by
  unfold cutD
  rw [h.1, h.2]
  simp
theorem strOk_cut {z : Str} {lo hi : Option Int} (hx : PyData.strOk z = true) : PyData.strOk (cutS z lo hi) = true := by
  unfold PyData.strOk cutS at *
  rw [List.all_toArray, List.all_eq_true]
  intro c hc
  have hm : c ∈ z.cps.toList := List.mem_of_mem_drop (List.mem_of_mem_take hc)
  exact Array.all_eq_true_iff_forall_mem.mp hx c (by simpa using hm)
theorem slc_s {x : R} {v : V} {lo hi : Option Int} {H0 F H : Hp} {Q : VK} (s : Same F H) (d : Den K H0 F H v x) (h : Ans K E (slcR x lo hi) F H Q) : rSl K v lo hi H Q := by
  unfold slcR at h
  split at h
  · cases d with
    | tup r t =>
      refine .inl ⟨_, _, rfl, same_t s r, fun e => ?_, fun e p hp => h.newT s hp (t.cut lo hi)⟩
      rw [cut_whole _ (by rw [← t.length]; exact e)] at h
      exact h.val s (.tup r t)
  · obtain ⟨hz, h⟩ := h.fit
    cases d with
    | str _ o1 => exact .inr (.inr ⟨_, rfl, Nat.le_trans hz lim_le, h.val s (.str _ (strOk_cut o1))⟩)
  · split at h
    · rename_i e
      obtain ⟨a, vs, rfl, q, t⟩ := d.lst s e
      exact .inr (.inl ⟨_, _, rfl, .inl (.inl q), fun p hp => h.newL s hp (t.cut lo hi)⟩)
    · exact h.elim
end
end PP
set_option Elab.async false
set_option linter.all false
set_option autoImplicit false
set_option maxRecDepth 100000
set_option maxHeartbeats 1000000
namespace PP
open PySem L2
section
variable {K : PySem.W.Frag} {F0 H0 F F' H : Hp} {E : EX}
theorem frz1 {v : V} {r : R} {x : D} (g : Grow F0 H0 F H) (s : Same F' F) (d : Den K H0 F' H v r) (e : r.frz = .ok x) : ∃ F1, Grow F0 H0 F1 H ∧ Same F F1 ∧ Dn K F1 v x := by
  cases r with
  | d y => cases e; exact ⟨F, g, Same.refl F, Dn.mono s d⟩
  | l ys =>
    cases e
    obtain ⟨a, vs, rfl, h0, hf, hh, t⟩ := d
    cases q : F a with
    | none => exact ⟨_, g.freeze h0 q hh, same_new q, .lst upd_same ((t.mono s).mono (same_new q))⟩
    | some o =>
      have z := g.sub a o q
      rw [hh] at z
      cases z
      exact ⟨F, g, Same.refl F, .lst q (t.mono s)⟩
  | b ys => cases e
  | s ys => cases e
  | m ys => cases e
  | t ys => cases e
  | n ys => cases e
  | q => cases e
  | o a => cases e
theorem frzAll_cons {r : R} {rs : List R} {ds : List D} (e : frzAll (r :: rs) = .ok ds) : ∃ x xs, r.frz = .ok x ∧ frzAll rs = .ok xs ∧ ds = x :: xs := by
  unfold frzAll mapR at e
  cases q : r.frz with
  | bad => rw [q] at e; cases e
  | err c => rw [q] at e; cases e
  | ok x =>
    rw [q] at e
    cases q2 : mapR R.frz rs with
    | bad => rw [q2] at e; cases e
    | err c => rw [q2] at e; cases e
    | ok xs => rw [q2] at e; cases e; exact ⟨x, xs, rfl, q2, rfl⟩
theorem frzN : ∀ {vs : List V} {rs : List R} {xs : List D} {F : Hp}, Grow F0 H0 F H → Same F' F → DenAll K H0 F' H vs rs → frzAll rs = .ok xs → ∃ F1, Grow F0 H0 F1 H ∧ Same F F1 ∧ DnAll K F1 vs xs
  | [], [], xs, F, g, s, d, e => by cases e; exact ⟨F, g, Same.refl F, .nil⟩
  | v :: vs, r :: rs, xs, F, g, s, ⟨d, ds⟩, e => by
    obtain ⟨x, ys, e1, e2, rfl⟩ := frzAll_cons e
    obtain ⟨F1, g1, s1, t1⟩ := frz1 g s d e1
    obtain ⟨F2, g2, s2, t2⟩ := frzN g1 (s.trans s1) ds e2
    exact ⟨F2, g2, s1.trans s2, .cons (t1.mono s2) t2⟩
/-- as frozen, what is handed on -/
theorem Ans.frzAll {rs : List R} {k : List D → Rs R} {Q : VK} (h : Ans K E (frzAll rs >>= k) F H Q) : ∃ ds, PP.frzAll rs = .ok ds ∧ Ans K E (k ds) F H Q := by
  cases q : PP.frzAll rs with
  | bad => rw [q] at h; exact h.elim
  | err c =>
    exfalso
    have : ∀ (rs : List R) c, PP.frzAll rs ≠ .err c := by
      intro rs
      induction rs with
      | nil => intro c e; cases e
      | cons r rs ih =>
        intro c e
        unfold PP.frzAll mapR at e
        cases r with
        | d x =>
          cases q2 : mapR R.frz rs with
          | bad => simp [R.frz, q2] at e
          | err c2 => exact ih c2 q2
          | ok xs => simp [R.frz, q2] at e
        | l x =>
          cases q2 : mapR R.frz rs with
          | bad => simp [R.frz, q2] at e
          | err c2 => exact ih c2 q2
          | ok xs => simp [R.frz, q2] at e
        | b x => simp [R.frz] at e
        | s x => simp [R.frz] at e
        | m x => simp [R.frz] at e
        | t x => simp [R.frz] at e
        | n x => simp [R.frz] at e
        | q => simp [R.frz] at e
        | o x => simp [R.frz] at e
    exact this rs c q
  | ok ds => rw [q] at h; exact ⟨ds, rfl, h⟩
end
section
variable {X : Cx} {E : EX} {pos : Pos}
theorem q_var {i : Nat} {x : Str} (hN : X.N[i]? = some x) (hv : Vis X.env.scope x) (hd : (x == ("__debug__" : Str)) = false) (hcd : (x == ("__classdict__" : Str)) = false) (C : Nat → List R → Rs R) :
    PE X (.Name x pos) (tOf X.K E (ev C (.var i))) := by
  refine pe_of (pe_var hN hv hd hcd) fun σ H Q h => ?_
  obtain ⟨ρ, F, R, h⟩ := h
  rw [ev.eq_1] at h
  cases e : ρ[i]? with
  | none => rw [e] at h; exact h.elim
  | some o =>
    rw [e] at h
    cases o with
    | none => exact h.elim
    | some r =>
      obtain ⟨v, e1, q⟩ := R.slot i r e
      refine ⟨v, e1, h v F H (Grow.refl R.sub) ?_⟩
      cases r with
      | d x => exact q
      | l xs => exact q
      | b xs => exact q.elim
      | s xs => exact q
      | m xs => exact q
      | t xs => exact q
      | n xs => exact True.intro
      | q => exact q.elim
      | o xs => exact q
theorem q_val {e : Expr} {v : V} {d : D} {C : Nat → List R → Rs R} (h : PE X e (tC v)) (hd : ∀ F, Dn X.K F v d) : PE X e (tOf X.K E (ev C (.cst d))) := by
  refine pe_of h fun σ H Q h => ?_
  obtain ⟨ρ, F, R, h⟩ := h
  rw [ev.eq_2] at h
  exact Ans.val h R.sub (hd F)
theorem q_nil {C : Nat → List R → Rs R} : PA X [] (tOfA X.K E (evs C .nil)) := by
  refine pa_of pa_nil fun σ H Q h => ?_
  obtain ⟨ρ, F, R, h⟩ := h
  rw [evs.eq_1] at h
  exact h [] F H (Grow.refl R.sub) trivial
theorem q_cons {C : Nat → List R → Rs R} {e : Expr} {es : List Expr} {x : Ex} {xs : Exs} (he : PE X e (tOf X.K E (ev C x))) (hr : PA X es (tOfA X.K E (evs C xs))) (hs : starEach (e :: es) X.env = (false, eval e X.env) :: starEach es X.env) :
    PA X (e :: es) (tOfA X.K E (evs C (.cons x xs))) := by
  refine pa_of (pa_cons he hr hs) fun σ H Q h => ?_
  obtain ⟨ρ, F, R, h⟩ := h
  rw [evs.eq_2] at h
  refine ⟨ρ, F, R, Ans.bindA h fun r hr v F1 H1 g1 d1 => ?_⟩
  refine ⟨ρ, F1, R.grow g1, ?_⟩
  cases q : evs C xs ρ with
  | bad => rw [q] at hr; exact hr
  | err c => rw [q] at hr; exact fun F' H' g => hr F' H' (g1.trans g)
  | ok rs => rw [q] at hr; exact fun vs F2 H2 g2 d2 => hr (v :: vs) F2 H2 (g1.trans g2) ⟨d1.grow g2, d2.back g1.hp⟩
theorem q_tup {C : Nat → List R → Rs R} {es : List Expr} {xs : Exs} {k : Nat} (h : PA X es (tOfA X.K E (evs C xs))) : PE X (.Tuple es k pos) (tOf X.K E (ev C (.tup xs))) := by
  refine pe_of (pe_tup h) fun σ H Q h => ?_
  obtain ⟨ρ, F, R, h⟩ := h
  rw [ev.eq_3] at h
  refine ⟨ρ, F, R, AnsA.bind h fun rs hrs vs F1 H1 g1 d1 => ?_⟩
  obtain ⟨ds, e, hk⟩ := Ans.frzAll hrs
  obtain ⟨hz, hk⟩ := hk.fit
  obtain ⟨F2, g2, s2, t2⟩ := frzN g1 (Same.refl F1) d1 e
  exact ⟨by rw [t2.length]; exact Nat.le_trans hz lim_le, fun p hp => Ans.newT (hk.grow g2) g2.sub hp t2⟩
theorem q_lst {C : Nat → List R → Rs R} {es : List Expr} {xs : Exs} (h : PA X es (tOfA X.K E (evs C xs))) : PE X (.List es pos) (tOf X.K E (ev C (.lst xs))) := by
  refine pe_of (pe_lst h) fun σ H Q h => ?_
  obtain ⟨ρ, F, R, h⟩ := h
  rw [ev.eq_4] at h
  refine ⟨ρ, F, R, AnsA.bind h fun rs hrs vs F1 H1 g1 d1 => ?_⟩
  obtain ⟨ds, e, hk⟩ := Ans.frzAll hrs
  obtain ⟨hz, hk⟩ := hk.fit
  obtain ⟨F2, g2, s2, t2⟩ := frzN g1 (Same.refl F1) d1 e
  exact ⟨by rw [t2.length]; exact Nat.le_trans hz lim_le, fun p hp => Ans.newL (hk.grow g2) g2.sub hp t2⟩
variable {a b c : Expr} {xa xb xc : Ex} {C : Nat → List R → Rs R}
def opOf : Op2 → Operator
  | .add => .Add
  | .sub => .Sub
  | .mul => .Mult
  | .mod => .Mod
  | .fdiv => .FloorDiv
theorem q_binE (o : Op2) (ha : PE X a (tOf X.K E (ev C xa))) (hb : PE X b (tOf X.K E (ev C xb))) : PE X (.BinOp a (opOf o) b pos) (tOf X.K E (ev C (.bin o xa xb))) := by
  have e : ev C (.bin o xa xb) = fun ρ => ev C xa ρ >>= fun x => ev C xb ρ >>= fun y => binR o x y := by funext ρ; rw [ev.eq_5]
  rw [e]
  cases o with
  | add => exact q_bin op_addA add_s ha hb
  | sub => exact q_bin op_sub sub_s ha hb
  | mul => exact q_bin op_mulA mul_s ha hb
  | mod => exact q_bin op_mod mod_s ha hb
  | fdiv => exact q_bin op_fdiv fdiv_s ha hb
theorem q_neg (ha : PE X a (tOf X.K E (ev C xa))) : PE X (.UnaryOp .USub a pos) (tOf X.K E (ev C (.neg xa))) := by
  refine pe_of (pe_un un_neg ha) fun σ H Q h => ?_
  obtain ⟨ρ, F, R, h⟩ := h
  rw [ev.eq_6] at h
  refine ⟨ρ, F, R, h.bind fun x hx v F1 H1 g1 d1 => ?_⟩
  unfold negR at hx
  split at hx
  · cases d1
    exact ⟨_, rfl, (hx.grow g1).val g1.sub (.int _)⟩
  · exact hx.elim
def cmOf : Cm → CmpOp
  | .eq => .Eq
  | .ne => .NotEq
  | .lt => .Lt
  | .le => .LtE
  | .gt => .Gt
  | .ge => .GtE
  | .in_ => .In
  | .nin => .NotIn
  | .is_ => .Is
  | .isn => .IsNot
/-- one reading for each comparison -/
def rCm (K : PySem.W.Frag) : Cm → R2
  | .eq => rEqM K
  | .ne => rNeM K
  | .lt => fun x y H Q => rI0 (fun i j => .bl (decide (i < j))) x y H Q ∨ rLtT K x y H Q
  | .le => rI0 (fun i j => .bl (decide (i ≤ j)))
  | .gt => rI0 (fun i j => .bl (decide (j < i)))
  | .ge => rI0 (fun i j => .bl (decide (j ≤ i)))
  | .in_ => rInA K false
  | .nin => rInA K true
  | .is_ => rIsA false
  | .isn => rIsA true
theorem op_cm (hu : X.A.units + 64 < cLine) (o : Cm) : OpR X (compareOp (cmOf o)) (rCm X.K o) := by
  cases o with
  | eq => exact op_eqM hu
  | ne => exact op_neM hu
  | lt => exact op_ltA (by omega)
  | le => exact op_le
  | gt => exact op_gt
  | ge => exact op_ge
  | in_ => exact op_inA hu
  | nin => exact op_ninA hu
  | is_ => exact op_isA
  | isn => exact op_isnA
theorem cm_s (K : PySem.W.Frag) (o : Cm) : CmS K E (rCm K o) (cmpR o) := by
  cases o with
  | eq => exact eq_s
  | ne => exact ne_s
  | lt => exact lt_s
  | le => exact le_s
  | gt => exact gt_s
  | ge => exact ge_s
  | in_ => exact in_s
  | nin => exact nin_s
  | is_ => exact is_s
  | isn => exact isn_s
theorem q_cmpE (hu : X.A.units + 64 < cLine) (o : Cm) (ha : PE X a (tOf X.K E (ev C xa))) (hb : PE X b (tOf X.K E (ev C xb))) (hm : behindInMarks (cmOf o) b = false) : PE X (.Compare a [cmOf o] [b] pos) (tOf X.K E (ev C (.cmp o xa xb))) := by
  have e : ev C (.cmp o xa xb) = fun ρ => ev C xa ρ >>= fun x => ev C xb ρ >>= fun y => boolR (cmpR o x y) := by funext ρ; rw [ev.eq_7]
  rw [e]
  exact q_cmp (op_cm hu o) (cm_s X.K o) ha hb hm
theorem q_cmpTE (hu : X.A.units + 64 < cLine) (o : Cm) (ha : PE X a (tOf X.K E (ev C xa))) (hb : PE X b (tOf X.K E (ev C xb))) (hm : behindInMarks (cmOf o) b = false) : PT X (.Compare a [cmOf o] [b] pos) (tOfT X.K E (evT C (.cmp o xa xb))) := by
  have e : evT C (.cmp o xa xb) = fun ρ => ev C xa ρ >>= fun x => ev C xb ρ >>= fun y => cmpR o x y := by funext ρ; rw [evT.eq_4]
  rw [e]
  exact q_cmpT (op_cm hu o) (cm_s X.K o) ha hb hm
theorem AnsT.boolR {m : Rs Bool} {F H : Hp} {Q : VK} (h : Ans X.K E (PP.boolR m) F H Q) : AnsT E m F H fun b H' => Q (.bl b) H' := by
  cases m with
  | bad => exact h
  | err c => exact h
  | ok c => exact fun F' H' gr => h (.bl c) F' H' gr (.bl c)
theorem q_chn (hu : X.A.units + 64 < cLine) (o p : Cm) (ha : PE X a (tOf X.K E (ev C xa))) (hb : PE X b (tOf X.K E (ev C xb))) (hc : PE X c (tOf X.K E (ev C xc))) (hm : lastMarks [cmOf o, cmOf p] [b, c] = false) :
    PE X (.Compare a [cmOf o, cmOf p] [b, c] pos) (tOf X.K E (ev C (.chn o p xa xb xc))) := by
  refine pe_of (pe_chain (op_cm hu o) (op_cm hu p) ha hb hc hm) fun σ H Q h => ?_
  obtain ⟨ρ, F, R, h⟩ := h
  rw [ev.eq_8] at h
  refine ⟨ρ, F, R, h.bind fun x hx v1 F1 H1 g1 d1 => ?_⟩
  refine ⟨ρ, F1, R.grow g1, (hx.grow g1).bind fun y hy v2 F2 H2 g2 d2 => ?_⟩
  have R2 := (R.grow g1).grow g2
  refine cm_s X.K o x y v1 v2 H H1 F2 H2 _ g2.sub (d1.grow g2) d2 (AnsT.bind (hy.grow g2) fun k hk F3 H3 g3 => ⟨k, rfl, ?_⟩)
  have hk := hk.grow g3
  cases k with
  | false => exact hk (.bl false) F3 H3 (Grow.refl g3.sub) (.bl false)
  | true =>
    refine ⟨ρ, F3, R2.grow g3, hk.bind fun z hz v3 F4 H4 g4 d3 => ?_⟩
    exact cm_s X.K p y z v2 v3 H1 H3 F4 H4 Q g4.sub ((d2.grow g3).grow g4) d3 (AnsT.boolR (hz.grow g4))
theorem q_chnT (hu : X.A.units + 64 < cLine) (o p : Cm) (ha : PE X a (tOf X.K E (ev C xa))) (hb : PE X b (tOf X.K E (ev C xb))) (hc : PE X c (tOf X.K E (ev C xc))) (hm : lastMarks [cmOf o, cmOf p] [b, c] = false) :
    PT X (.Compare a [cmOf o, cmOf p] [b, c] pos) (tOfT X.K E (evT C (.chn o p xa xb xc))) := by
  refine pt_of (pt_chain (op_cm hu o) (op_cm hu p) ha hb hc hm) fun σ H Q h => ?_
  obtain ⟨ρ, F, R, h⟩ := h
  rw [evT.eq_5] at h
  refine ⟨ρ, F, R, Ans.bindT h fun x hx v1 F1 H1 g1 d1 => ?_⟩
  refine ⟨ρ, F1, R.grow g1, Ans.bindT (hx.grow g1) fun y hy v2 F2 H2 g2 d2 => ?_⟩
  have R2 := (R.grow g1).grow g2
  refine cm_s X.K o x y v1 v2 H H1 F2 H2 _ g2.sub (d1.grow g2) d2 (AnsT.bindT (hy.grow g2) fun k hk F3 H3 g3 => ⟨k, rfl, ?_⟩)
  have hk := hk.grow g3
  cases k with
  | false => exact ⟨false, rfl, hk F3 H3 (Grow.refl g3.sub)⟩
  | true =>
    refine ⟨ρ, F3, R2.grow g3, Ans.bindT hk fun z hz v3 F4 H4 g4 d3 => ?_⟩
    refine cm_s (E := E) X.K p y z v2 v3 H1 H3 F4 H4 _ g4.sub ((d2.grow g3).grow g4) d3 ?_
    have hz := hz.grow g4
    cases q : cmpR p y z with
    | bad => rw [q] at hz; exact hz
    | err c => rw [q] at hz; exact hz
    | ok c => rw [q] at hz; exact fun F' H' gr => ⟨c, rfl, hz F' H' gr⟩
theorem tru_bindT {F H H0 : Hp} {Q : Bool → Hp → Prop} {x : R} {v : V} (s : Same F H) (d : Den X.K H0 F H v x) (h : AnsT E (truR x) F H Q) : ∃ c, TruV X.K v H c ∧ Q c H := by
  obtain ⟨c, t, e⟩ := tru_s s d h
  rw [e] at h
  exact ⟨c, t, h.val s⟩
theorem tru_get {F H F1 H1 H0 : Hp} {Q : VK} {x : R} {v : V} {k : Bool → Rs R} (g : Grow F H F1 H1) (d : Den X.K H0 F1 H1 v x) (h : Ans X.K E (truR x >>= k) F H Q) : ∃ c, TruV X.K v H1 c ∧ Ans X.K E (k c) F H Q := by
  have q : AnsT E (truR x) F1 H1 (fun _ _ => True) := AnsT.bind (h.grow g) fun _ _ _ _ _ => trivial
  obtain ⟨c, t, e⟩ := tru_s g.sub d q
  rw [e] at h
  exact ⟨c, t, h⟩
variable {rest : List Expr}
theorem q_and (ha : PE X a (tOf X.K E (ev C xa))) (hb : PE X (.BoolOp .And (b :: rest) pos) (tOf X.K E (ev C xb))) : PE X (.BoolOp .And (a :: b :: rest) pos) (tOf X.K E (ev C (.and xa xb))) := by
  refine pe_of (pe_andT ha hb) fun σ H Q h => ?_
  obtain ⟨ρ, F, R, h⟩ := h
  rw [ev.eq_9] at h
  refine ⟨ρ, F, R, h.bind fun x hx v F1 H1 g1 d1 => ?_⟩
  obtain ⟨c, t, hc⟩ := tru_get g1 d1 hx
  refine ⟨c, t, ?_⟩
  cases c with
  | true => exact ⟨ρ, F1, R.grow g1, hc.grow g1⟩
  | false => exact hc v F1 H1 g1 d1
theorem q_or (ha : PE X a (tOf X.K E (ev C xa))) (hb : PE X (.BoolOp .Or (b :: rest) pos) (tOf X.K E (ev C xb))) : PE X (.BoolOp .Or (a :: b :: rest) pos) (tOf X.K E (ev C (.or xa xb))) := by
  refine pe_of (pe_orT ha hb) fun σ H Q h => ?_
  obtain ⟨ρ, F, R, h⟩ := h
  rw [ev.eq_10] at h
  refine ⟨ρ, F, R, h.bind fun x hx v F1 H1 g1 d1 => ?_⟩
  obtain ⟨c, t, hc⟩ := tru_get g1 d1 hx
  refine ⟨c, t, ?_⟩
  cases c with
  | true => exact hc v F1 H1 g1 d1
  | false => exact ⟨ρ, F1, R.grow g1, hc.grow g1⟩
theorem q_one {op : BoolOp} {f : TE} (ha : PE X a f) : PE X (.BoolOp op [a] pos) f := pe_one ha
theorem q_not (ha : PE X a (tOf X.K E (ev C xa))) : PE X (.UnaryOp .Not a pos) (tOf X.K E (ev C (.not xa))) := by
  refine pe_of (pe_notT ha) fun σ H Q h => ?_
  obtain ⟨ρ, F, R, h⟩ := h
  rw [ev.eq_11] at h
  refine ⟨ρ, F, R, h.bind fun x hx v F1 H1 g1 d1 => ?_⟩
  exact tru_bindT g1.sub d1 (AnsT.notB (AnsT.boolR (hx.grow g1)))
theorem q_ite (hc : PT X c (tOfT X.K E (evT C xc))) (ha : PE X a (tOf X.K E (ev C xa))) (hb : PE X b (tOf X.K E (ev C xb))) : PE X (.IfExp c a b pos) (tOf X.K E (ev C (.ite xc xa xb))) := by
  refine pe_of (pe_ifExp hc ha hb) fun σ H Q h => ?_
  obtain ⟨ρ, F, R, h⟩ := h
  rw [ev.eq_12] at h
  refine ⟨ρ, F, R, AnsT.bind h fun k hk F1 H1 g1 => ?_⟩
  cases k with
  | true => exact ⟨ρ, F1, R.grow g1, hk.grow g1⟩
  | false => exact ⟨ρ, F1, R.grow g1, hk.grow g1⟩
theorem q_idx (ha : PE X a (tOf X.K E (ev C xa))) (hb : PE X b (tOf X.K E (ev C xb))) (hs : PlainIx b) : PE X (.Subscript a b pos) (tOf X.K E (ev C (.idx xa xb))) := by
  have e : ev C (.idx xa xb) = fun ρ => ev C xa ρ >>= fun x => ev C xb ρ >>= fun y => idxR x y := by funext ρ; rw [ev.eq_13]
  rw [e]
  exact pe_of (pe_ix ix_seq ha hb hs) (tOp_of idx_s)
/-- a part of a slice -/
def AnsO (E : EX) (m : Rs (Option Int)) (F H : Hp) (Q : Option Int → Hp → Prop) : Prop :=
  match m with
  | .bad => False
  | .err c => ∀ F' H', Grow F H F' H' → E c H'
  | .ok b => ∀ F' H', Grow F H F' H' → Q b H'
theorem AnsO.grow {m : Rs (Option Int)} {F H F' H' : Hp} {Q : Option Int → Hp → Prop} (h : AnsO E m F H Q) (g : Grow F H F' H') : AnsO E m F' H' Q := by
  cases m with
  | bad => exact h
  | err c => exact fun F2 H2 g2 => h F2 H2 (g.trans g2)
  | ok r => exact fun F2 H2 g2 => h F2 H2 (g.trans g2)
theorem AnsO.bind {m : Rs (Option Int)} {k : Option Int → Rs R} {F H : Hp} {Q : VK} {Q1 : Option Int → Hp → Prop} (h : Ans X.K E (m >>= k) F H Q)
    (hk : ∀ x, Ans X.K E (k x) F H Q → ∀ F1 H1, Grow F H F1 H1 → Q1 x H1) : AnsO E m F H Q1 := by
  cases m with
  | bad => exact h
  | err c => exact h
  | ok r => exact hk r h
def tOfO (K : PySem.W.Frag) (E : EX) (f : Sto → Rs (Option Int)) : TO := fun σ H Q => ∃ ρ F, Rel K ρ σ F H ∧ AnsO E (f ρ) F H Q
theorem po_of {o : Option Expr} {t t' : TO} (h : PO X o t) (w : ∀ σ H Q, t' σ H Q → t σ H Q) : PO X o t' := ⟨fun pins s σ H Q I q => h.run pins s σ H Q I (w σ H Q q)⟩
theorem q_onone : PO X none (tOfO X.K E fun ρ => evs C .nil ρ >>= optI) := by
  refine po_of po_none fun σ H Q h => ?_
  obtain ⟨ρ, F, R, h⟩ := h
  dsimp only at h
  rw [evs.eq_1] at h
  exact h F H (Grow.refl R.sub)
theorem q_osome (ha : PE X a (tOf X.K E (ev C xa))) : PO X (some a) (tOfO X.K E fun ρ => evs C (.cons xa .nil) ρ >>= optI) := by
  refine po_of (po_some ha) fun σ H Q h => ?_
  obtain ⟨ρ, F, R, h⟩ := h
  dsimp only at h
  rw [evs.eq_2, evs.eq_1] at h
  refine ⟨ρ, F, R, ?_⟩
  cases q : ev C xa ρ with
  | bad => rw [q] at h; exact h
  | err c => rw [q] at h; exact h
  | ok r =>
    rw [q] at h
    intro v F1 H1 g1 d1
    have h : AnsO E (optI [r]) F H Q := h
    unfold optI at h
    split at h
    · rename_i e; cases e
    · rename_i e
      cases e
      cases d1
      exact ⟨_, rfl, h F1 H1 g1⟩
    · exact h.elim
theorem q_slc {lo hi : Option Expr} {xl xh : Exs} {p2 : Pos} (ha : PE X a (tOf X.K E (ev C xa))) (hl : PO X lo (tOfO X.K E fun ρ => evs C xl ρ >>= optI)) (hh : PO X hi (tOfO X.K E fun ρ => evs C xh ρ >>= optI)) :
    PE X (.Subscript a (.Slice lo hi none p2) pos) (tOf X.K E (ev C (.slc xa xl xh))) := by
  refine pe_of (pe_slice sl_A ha hl hh) fun σ H Q h => ?_
  obtain ⟨ρ, F, R, h⟩ := h
  rw [ev.eq_14] at h
  refine ⟨ρ, F, R, h.bind fun x hx v F1 H1 g1 d1 => ?_⟩
  refine ⟨ρ, F1, R.grow g1, AnsO.bind (hx.grow g1) fun l hl F2 H2 g2 => ?_⟩
  refine ⟨ρ, F2, (R.grow g1).grow g2, AnsO.bind (hl.grow g2) fun u hu F3 H3 g3 => ?_⟩
  exact slc_s g3.sub ((d1.grow g2).grow g3) (hu.grow g3)
theorem q_truth {f : Sto → Rs R} (ha : PE X a (tOf X.K E f)) (he : ∀ whole, isTrue a X.env whole = (do let v ← whole; standAt a.pos; holding [v] (truthy v))) : PT X a (tOfT X.K E fun ρ => f ρ >>= fun x => truR x) := by
  refine pt_of (pt_truth ha he) fun σ H Q h => ?_
  obtain ⟨ρ, F, R, h⟩ := h
  refine ⟨ρ, F, R, Ans.bindT h fun x hx v F1 H1 g1 d1 => ?_⟩
  exact tru_bindT g1.sub d1 (hx.grow g1)
theorem q_andT (ha : PT X a (tOfT X.K E (evT C xa))) (hb : PW X (.BoolOp .And (b :: rest) pos) (tOfT X.K E (evT C xb))) : PW X (.BoolOp .And (a :: b :: rest) pos) (tOfT X.K E (evT C (.and xa xb))) := by
  refine pw_of (pw_and ha hb) fun σ H Q h => ?_
  obtain ⟨ρ, F, R, h⟩ := h
  rw [evT.eq_1] at h
  refine ⟨ρ, F, R, AnsT.bindT h fun k hk F1 H1 g1 => ?_⟩
  cases k with
  | true => exact ⟨ρ, F1, R.grow g1, hk.grow g1⟩
  | false => exact (hk.grow g1).val g1.sub
theorem q_orT (ha : PT X a (tOfT X.K E (evT C xa))) (hb : PW X (.BoolOp .Or (b :: rest) pos) (tOfT X.K E (evT C xb))) : PW X (.BoolOp .Or (a :: b :: rest) pos) (tOfT X.K E (evT C (.or xa xb))) := by
  refine pw_of (pw_or ha hb) fun σ H Q h => ?_
  obtain ⟨ρ, F, R, h⟩ := h
  rw [evT.eq_2] at h
  refine ⟨ρ, F, R, AnsT.bindT h fun k hk F1 H1 g1 => ?_⟩
  cases k with
  | true => exact (hk.grow g1).val g1.sub
  | false => exact ⟨ρ, F1, R.grow g1, hk.grow g1⟩
theorem q_notT (ha : PT X a (tOfT X.K E (evT C xa))) : PT X (.UnaryOp .Not a pos) (tOfT X.K E (evT C (.not xa))) := by
  refine pt_of (pt_not ha) fun σ H Q h => ?_
  obtain ⟨ρ, F, R, h⟩ := h
  rw [evT.eq_3] at h
  exact ⟨ρ, F, R, h.notB⟩
end
end PP
set_option Elab.async false
set_option linter.all false
set_option autoImplicit false
set_option maxRecDepth 100000
set_option maxHeartbeats 1000000
namespace PP
open PySem L2
section
variable {prog : Program} {w : World} {A : Around} {E : Value → Shared → Prop} {s : Shared}
theorem call_min_twoH {a b : Value} {Q : Value → Shared → Prop}
    (h : wpAny (model prog w) A.in1 (pyIter (.ref s.heap.objs.size)) (fun it s₂ => ∃ I fp wr G n P St H bt, it = .ref I ∧ WalksS prog w A.in1 I fp wr G n P St ∧ St 0 s₂ ∧ (∀ b ∈ fp, b < s₂.heap.objs.size) ∧ 0 < n ∧
      (∀ b o, H.get? b = some o → b ∉ wr) ∧ (∀ b o, H.get? b = some o → s₂.heap.get? b = some o) ∧ CmpIn prog w A.in1 .Lt H P bt ∧ ∀ v s', P (argBest bt (n - 1)) v → Moved wr G s₂ s' → Q v s') E { s with heap := s.heap.push { cls := .type "tuple", data := .seq #[a, b] } }) :
    wpAny (model prog w) A (PySem.call (.builtin "min") [a, b]) Q E s := by
  have hnm : (toString "min" ++ toString ".loop" : String) = "min.loop" := by decide
  refine call_function_tree F.kind_min F.plain_min F.entry_min (F.args_min2 a b) ?_
  have e0 : Builtin.Builtins.bindParams "min" ["key", "default"] 0 ⟨[], []⟩ = pure [none, none] := rfl
  show wpAny _ A.in1 ((Builtin.Builtins.bindParams "min" ["key", "default"] 0 ⟨[], []⟩) >>= _) _ _ s
  refine wpAny_bind (wpAny_of_eq e0 ?_)
  show wpAny _ A.in1 ((newTuple [a, b]) >>= _) _ _ s
  refine wpAny_bind (wpAny_newObj_type (wpAny_bind (wpAny_mono h ?_ fun _ _ e => e)))
  rintro it s₂ ⟨I, fp, wr, G, n, P, St, H, bt, rfl, W, hst, hfp, hn, hw, hkeep, hcmp, hQ⟩
  have hSf : s₂.heap.objs.size ∉ fp := fun hm => absurd (hfp _ hm) (Nat.lt_irrefl _)
  refine wpAny_bind (wpAny_newObj_type ?_)
  rw [hnm]
  refine wpAny_pure ⟨plainId_quiet F.plain_min_loop _, codeAny_min_loop_firstH W H hw bt hcmp s₂.heap.objs.size hSf (fresh_in hkeep) _ hn (fun b o e => Heap.get?_push_of_some _ (hkeep b o e)) (W.frame 0 s₂ _ s₂.toks hst (Nat.le_refl _) fun b _ o e => Heap.get?_push_of_some _ e) (Heap.get?_push_size _ rfl) ?_⟩
  exact fun v s' hP hm => hQ v s' hP (Moved.drop_new (tk := s₂.toks) hm (Nat.le_refl _))
theorem call_max_twoH {a b : Value} {Q : Value → Shared → Prop}
    (h : wpAny (model prog w) A.in1 (pyIter (.ref s.heap.objs.size)) (fun it s₂ => ∃ I fp wr G n P St H bt, it = .ref I ∧ WalksS prog w A.in1 I fp wr G n P St ∧ St 0 s₂ ∧ (∀ b ∈ fp, b < s₂.heap.objs.size) ∧ 0 < n ∧
      (∀ b o, H.get? b = some o → b ∉ wr) ∧ (∀ b o, H.get? b = some o → s₂.heap.get? b = some o) ∧ CmpIn prog w A.in1 .Gt H P bt ∧ ∀ v s', P (argBest bt (n - 1)) v → Moved wr G s₂ s' → Q v s') E { s with heap := s.heap.push { cls := .type "tuple", data := .seq #[a, b] } }) :
    wpAny (model prog w) A (PySem.call (.builtin "max") [a, b]) Q E s := by
  have hnm : (toString "max" ++ toString ".loop" : String) = "max.loop" := by decide
  refine call_function_tree F.kind_max F.plain_max F.entry_max (F.args_max2 a b) ?_
  have e0 : Builtin.Builtins.bindParams "max" ["key", "default"] 0 ⟨[], []⟩ = pure [none, none] := rfl
  show wpAny _ A.in1 ((Builtin.Builtins.bindParams "max" ["key", "default"] 0 ⟨[], []⟩) >>= _) _ _ s
  refine wpAny_bind (wpAny_of_eq e0 ?_)
  show wpAny _ A.in1 ((newTuple [a, b]) >>= _) _ _ s
  refine wpAny_bind (wpAny_newObj_type (wpAny_bind (wpAny_mono h ?_ fun _ _ e => e)))
  rintro it s₂ ⟨I, fp, wr, G, n, P, St, H, bt, rfl, W, hst, hfp, hn, hw, hkeep, hcmp, hQ⟩
  have hSf : s₂.heap.objs.size ∉ fp := fun hm => absurd (hfp _ hm) (Nat.lt_irrefl _)
  refine wpAny_bind (wpAny_newObj_type ?_)
  rw [hnm]
  refine wpAny_pure ⟨plainId_quiet F.plain_max_loop _, codeAny_max_loop_firstH W H hw bt hcmp s₂.heap.objs.size hSf (fresh_in hkeep) _ hn (fun b o e => Heap.get?_push_of_some _ (hkeep b o e)) (W.frame 0 s₂ _ s₂.toks hst (Nat.le_refl _) fun b _ o e => Heap.get?_push_of_some _ e) (Heap.get?_push_size _ rfl) ?_⟩
  exact fun v s' hP hm => hQ v s' hP (Moved.drop_new (tk := s₂.toks) hm (Nat.le_refl _))
open PySem.W in
theorem min_two_data {a b : Value} {x y : PyData} {as bs : List Addr} {Q : Value → Shared → Prop} (hh : A.handled = none) (ra : Reads s.heap a x as) (rb : Reads s.heap b y bs) (ha : AlikeAll [x, y]) (hu : A.units + 1 + PyData.depthAll [x, y] < cLine)
    (h : ∀ h' tk, (∀ b o, s.heap.get? b = some o → h'.get? b = some o) → Q (if dataLt y x then b else a) { s with heap := h', toks := tk }) : wpAny (model prog w) A (PySem.call (.builtin "min") [a, b]) Q E s := by
  have kp : ∀ c o, s.heap.get? c = some o → (s.heap.push { cls := .type "tuple", data := .seq #[a, b] }).get? c = some o := fun c o e => Heap.get?_push_of_some _ e
  have hr : ∃ cs, ReadsAll (s.heap.push { cls := .type "tuple", data := .seq #[a, b] }) (#[a, b] : Array Value).toList [x, y] cs := ⟨_, .cons (reads_keeps (fun b o e => Heap.get?_push_of_some _ e) ra) (.cons (reads_keeps (fun b o e => Heap.get?_push_of_some _ e) rb) .nil)⟩
  obtain ⟨cs, hr⟩ := hr
  refine call_min_twoH (iter_tupleW (A := A.in1) (s := { s with heap := s.heap.push { cls := .type "tuple", data := .seq #[a, b] } }) (vs := #[a, b]) hh ⟨_, Heap.get?_push_size _ rfl, rfl, _, rfl⟩ fun s₂ e W st hfp hw hk => ?_)
  refine ⟨_, _, _, _, _, _, _, s.heap.push { cls := .type "tuple", data := .seq #[a, b] }, _, rfl, W, st, hfp, by show 0 < 2; decide, hw, hk, cmpIn_lt (A := A.in1) (s := { s with heap := s.heap.push { cls := .type "tuple", data := .seq #[a, b] } }) hr ha (by show A.units + 1 + _ < _; exact hu), fun v s' hP m => ?_⟩
  obtain ⟨h', tk, rfl, hk'⟩ := moved_old e rfl m
  have hv : v = if dataLt y x then b else a := by
    have hP : (#[a, b] : Array Value)[argBest (fun i j => dataLt ([x, y].getD i .none) ([x, y].getD j .none)) 1]? = some v := hP
    have e1 : argBest (fun i j => dataLt ([x, y].getD i .none) ([x, y].getD j .none)) 1 = if dataLt y x then 1 else 0 := rfl
    rw [e1] at hP
    cases q : dataLt y x with
    | true => rw [q] at hP; cases hP; rfl
    | false => rw [q] at hP; cases hP; rfl
  rw [hv]
  exact h h' tk fun b o eb => hk' b o (kp b o eb)
open PySem.W in
theorem max_two_data {a b : Value} {x y : PyData} {as bs : List Addr} {Q : Value → Shared → Prop} (hh : A.handled = none) (ra : Reads s.heap a x as) (rb : Reads s.heap b y bs) (ha : AlikeAll [x, y]) (hu : A.units + 1 + PyData.depthAll [x, y] < cLine)
    (h : ∀ h' tk, (∀ b o, s.heap.get? b = some o → h'.get? b = some o) → Q (if dataLt x y then b else a) { s with heap := h', toks := tk }) : wpAny (model prog w) A (PySem.call (.builtin "max") [a, b]) Q E s := by
  have kp : ∀ c o, s.heap.get? c = some o → (s.heap.push { cls := .type "tuple", data := .seq #[a, b] }).get? c = some o := fun c o e => Heap.get?_push_of_some _ e
  have hr : ∃ cs, ReadsAll (s.heap.push { cls := .type "tuple", data := .seq #[a, b] }) (#[a, b] : Array Value).toList [x, y] cs := ⟨_, .cons (reads_keeps (fun b o e => Heap.get?_push_of_some _ e) ra) (.cons (reads_keeps (fun b o e => Heap.get?_push_of_some _ e) rb) .nil)⟩
  obtain ⟨cs, hr⟩ := hr
  refine call_max_twoH (iter_tupleW (A := A.in1) (s := { s with heap := s.heap.push { cls := .type "tuple", data := .seq #[a, b] } }) (vs := #[a, b]) hh ⟨_, Heap.get?_push_size _ rfl, rfl, _, rfl⟩ fun s₂ e W st hfp hw hk => ?_)
  refine ⟨_, _, _, _, _, _, _, s.heap.push { cls := .type "tuple", data := .seq #[a, b] }, _, rfl, W, st, hfp, by show 0 < 2; decide, hw, hk, cmpIn_gt (A := A.in1) (s := { s with heap := s.heap.push { cls := .type "tuple", data := .seq #[a, b] } }) hr ha (by show A.units + 1 + _ < _; exact hu), fun v s' hP m => ?_⟩
  obtain ⟨h', tk, rfl, hk'⟩ := moved_old e rfl m
  have hv : v = if dataLt x y then b else a := by
    have hP : (#[a, b] : Array Value)[argBest (fun i j => dataLt ([x, y].getD j .none) ([x, y].getD i .none)) 1]? = some v := hP
    have e1 : argBest (fun i j => dataLt ([x, y].getD j .none) ([x, y].getD i .none)) 1 = if dataLt x y then 1 else 0 := rfl
    rw [e1] at hP
    cases q : dataLt x y with
    | true => rw [q] at hP; cases hP; rfl
    | false => rw [q] at hP; cases hP; rfl
  rw [hv]
  exact h h' tk fun b o eb => hk' b o (kp b o eb)
open PySem.W in
theorem min_list_at {l : Addr} {vs : Array Value} {x : PyData} {xs : List PyData} {as : List Addr} {Q : Value → Shared → Prop} (hh : A.handled = none) (hl : s.heap.IsList l vs) (hr : ReadsAll s.heap vs.toList (x :: xs) as) (ha : AlikeAll (x :: xs)) (hu : A.units + 1 + PyData.depthAll (x :: xs) < cLine)
    (h : ∀ (i : Nat) v h' tk, vs[i]? = some v → (x :: xs).getD i .none = xs.foldl (fun a y => if dataLt y a then y else a) x → (∀ b o, s.heap.get? b = some o → h'.get? b = some o) → Q v { s with heap := h', toks := tk }) : wpAny (model prog w) A (PySem.call (.builtin "min") [.ref l]) Q E s := by
  have hn : vs.size = xs.length + 1 := readsAll_len hr
  refine call_min_walkH (iter_listW (A := A.in1) hh hl ?_)
  intro s₂ e W st hfp hw hk
  refine ⟨_, _, _, _, _, _, _, s.heap, _, rfl, W, st, hfp, by omega, hw, hk, cmpIn_lt (A := A.in1) hr ha (by show A.units + 1 + _ < _; exact hu), ?_⟩
  intro v s' hP m
  obtain ⟨h', tk, rfl, hk'⟩ := moved_old e rfl m
  have e2 := (argBest_fold dataLt PyData.none x xs xs.length (Nat.le_refl _)).2
  rw [List.take_length] at e2
  have e1 : vs.size - 1 = xs.length := by omega
  rw [e1] at hP
  exact h _ v h' tk hP e2 hk'
end
end PP
set_option Elab.async false
set_option linter.all false
set_option autoImplicit false
set_option maxRecDepth 100000
set_option maxHeartbeats 1000000
namespace PP
open PySem L2
section
variable {X : Cx} {E : EX} {K : PySem.W.Frag}
theorem den1 {H0 F H : Hp} {vs : List V} {r : R} (d : DenAll K H0 F H vs [r]) : ∃ v, vs = [v] ∧ Den K H0 F H v r := by
  match vs, d with
  | [v], ⟨d, _⟩ => exact ⟨v, rfl, d⟩
theorem den2 {H0 F H : Hp} {vs : List V} {r q : R} (d : DenAll K H0 F H vs [r, q]) : ∃ v w, vs = [v, w] ∧ Den K H0 F H v r ∧ Den K H0 F H w q := by
  match vs, d with
  | [v, w], ⟨d, e, _⟩ => exact ⟨v, w, rfl, d, e⟩
def rLen (K : PySem.W.Frag) : List V → Hp → VK → Prop := fun xs H Q => (∃ p ys, xs = [.ref p] ∧ (SqL K H p ys ∨ SqT K H p ys) ∧ Q (.int ys.length) H) ∨ ∃ z, xs = [.str z] ∧ z.length ≤ sizeLine ∧ Q (.int z.length) H
theorem cr_len : CallR X (.builtin "len") (rLen X.K) := call_len_seq.or call_len_str
theorem len_s : CallS K E (rLen K) lenR := by
  intro rs vs H0 F H Q s d h
  unfold lenR at h
  split at h
  · obtain ⟨hz, h⟩ := h.fit
    obtain ⟨v, rfl, d1⟩ := den1 d
    cases d1
    exact .inr ⟨_, rfl, Nat.le_trans hz lim_le, h.val s (.int _)⟩
  · split at h
    · rename_i e
      obtain ⟨v, rfl, d1⟩ := den1 d
      obtain ⟨a, ws, rfl, q, t⟩ := d1.seq s e
      exact .inl ⟨a, ws, rfl, q, by rw [t.length]; exact h.val s (.int _)⟩
    · exact h.elim
  · exact h.elim
def rIntA : List V → Hp → VK → Prop := fun xs H Q => ((∃ i, xs = [.int i] ∧ Q (.int i) H) ∨ ∃ k, xs = [.bl k] ∧ Q (.int (if k then 1 else 0)) H) ∨ ∃ a n, xs = [.str a] ∧ PySem.intText? a = some n ∧ a.length ≤ 640 ∧ Q (.int n) H
theorem cr_int : CallR X (.type "int") rIntA := call_int1.or call_int_str
theorem int_s : CallS K E rIntA intR := by
  intro rs vs H0 F H Q s d h
  unfold intR at h
  split at h
  · obtain ⟨v, rfl, d1⟩ := den1 d
    cases d1
    exact .inl (.inl ⟨_, rfl, h.val s (.int _)⟩)
  · obtain ⟨v, rfl, d1⟩ := den1 d
    cases d1
    exact .inl (.inr ⟨_, rfl, h.val s (.int _)⟩)
  · split at h
    · rename_i e
      split at h
      · rename_i hz
        obtain ⟨v, rfl, d1⟩ := den1 d
        cases d1
        exact .inr ⟨_, _, rfl, e, by omega, h.val s (.int _)⟩
      · exact h.elim
    · exact h.elim
  · exact h.elim
def rStrA : List V → Hp → VK → Prop := fun xs H Q => ∃ i, xs = [.int i] ∧ i.natAbs.log2 < 1920 ∧ Q (.str (toString i)) H
theorem cr_str : CallR X (.type "str") rStrA := call_str_int
theorem strOk_text (s : String) : PyData.strOk (Str.ofString s) = true := by
  rw [Str.ofString_eq_toList]
  unfold PyData.strOk
  rw [Array.all_eq_true']
  intro x hx
  simp only [List.mem_toArray, List.mem_map] at hx
  obtain ⟨c, _, rfl⟩ := hx
  rw [decide_eq_true_eq]
  exact c.valid.elim (fun h => Nat.lt_trans h (by decide)) (fun h => h.2)
theorem str_s : CallS K E rStrA strR := by
  intro rs vs H0 F H Q s d h
  unfold strR at h
  split at h
  · split at h
    · rename_i i hi
      obtain ⟨v, rfl, d1⟩ := den1 d
      cases d1
      refine ⟨i, rfl, ?_, h.val s (.str _ (strOk_text _))⟩
      have h1 : i.natAbs < 2 ^ 20 := by omega
      by_cases h0 : i.natAbs = 0
      · rw [h0]; decide
      · exact Nat.lt_trans ((Nat.log2_lt h0).mpr h1) (by decide)
    · exact h.elim
  · exact h.elim
def rTupleA (K : PySem.W.Frag) : List V → Hp → VK → Prop := fun xs H Q => ∃ p ys, xs = [.ref p] ∧ ((SqL K H p ys ∧ ∀ l, H l = none → Q (.ref l) (upd H l (.tup ys))) ∨ (SqT K H p ys ∧ Q (.ref p) H))
theorem cr_tuple : CallR X (.type "tuple") (rTupleA X.K) := call_tuple_of
theorem tuple_s : CallS K E (rTupleA K) tupleR := by
  intro rs vs H0 F H Q s d h
  unfold tupleR at h
  split at h
  · obtain ⟨v, rfl, d1⟩ := den1 d
    cases d1 with
    | tup r t => exact ⟨_, _, rfl, .inr ⟨same_t s r, h.val s (.tup r t)⟩⟩
  · split at h
    · rename_i e
      obtain ⟨v, rfl, d1⟩ := den1 d
      obtain ⟨a, ws, rfl, q, t⟩ := d1.lst s e
      exact ⟨_, _, rfl, .inl ⟨.inl (.inl q), fun l hl => h.newT s hl t⟩⟩
    · exact h.elim
  · exact h.elim
def rListA (K : PySem.W.Frag) : List V → Hp → VK → Prop := fun xs H Q => ∃ p ys, xs = [.ref p] ∧ (SqL K H p ys ∨ SqT K H p ys) ∧ ∀ l, H l = none → Q (.ref l) (upd H l (.lst ys))
theorem cr_list : CallR X (.type "list") (rListA X.K) := call_list_of
theorem list_s : CallS K E (rListA K) listR := by
  intro rs vs H0 F H Q s d h
  unfold listR at h
  split at h
  · split at h
    · rename_i e
      obtain ⟨v, rfl, d1⟩ := den1 d
      obtain ⟨a, ws, rfl, q, t⟩ := d1.seq s e
      exact ⟨_, _, rfl, q, fun l hl => h.newL s hl t⟩
    · exact h.elim
  · exact h.elim
def rMaxI (K : PySem.W.Frag) : List V → Hp → VK → Prop := fun xs H Q => (∃ i j, xs = [.int i, .int j] ∧ Q (.int (if j > i then j else i)) H) ∨
  ∃ a b ns ms, xs = [.ref a, .ref b] ∧ SqT K H a (ns.map V.int) ∧ SqT K H b (ms.map V.int) ∧ Q (if HT.lexLt ns ms = true then .ref b else .ref a) H
def rMinI (K : PySem.W.Frag) : List V → Hp → VK → Prop := fun xs H Q => (∃ i j, xs = [.int i, .int j] ∧ Q (.int (if j < i then j else i)) H) ∨
  ∃ a b ns ms, xs = [.ref a, .ref b] ∧ SqT K H a (ns.map V.int) ∧ SqT K H b (ms.map V.int) ∧ Q (if HT.lexLt ms ns = true then .ref b else .ref a) H
theorem dp_ints {H : Hp} : ∀ ns : List Int, DpAll K H (ns.map V.int) (ns.map PyData.int)
  | [] => .nil
  | n :: ns => .cons (.int n) (dp_ints ns)
theorem lt_rows (ns ms : List Int) : PySem.W.dataLt (.tuple (ns.map .int)) (.tuple (ms.map .int)) = HT.lexLt ns ms := by
  rw [PySem.W.dataLt_tuple]
  have := PySem.W.dataLt_ints ns ms
  unfold PySem.W.rowLt at this
  rw [this, lexLt_dec]
theorem alike_rows (ns ms : List Int) : PySem.W.AlikeAll [.tuple (ns.map .int), .tuple (ms.map .int)] := by
  refine ⟨fun x hx y hy => ?_, fun x hx => ?_⟩
  · simp only [List.mem_cons, List.not_mem_nil, or_false] at hx hy
    rcases hx with rfl | rfl <;> rcases hy with rfl | rfl <;> exact PySem.W.alike_ints _ _
  · simp only [List.mem_cons, List.not_mem_nil, or_false] at hx
    rcases hx with rfl | rfl <;> simp
theorem depth_rows2 (ns ms : List Int) : PyData.depthAll [.tuple (ns.map .int), .tuple (ms.map .int)] ≤ 1 := by
  simp [PyData.depthAll, PyData.depth, PySem.W.depth_ints]
theorem cr_maxI (hc : X.calm = true) (hu : X.A.units + 64 < cLine) : CallR X (.builtin "max") (rMaxI X.K) := by
  intro pins s σ H xs us Q I r h
  rcases h with ⟨i, j, rfl, q⟩ | ⟨a, b, ns, ms, rfl, ha, hb, q⟩
  · exact call_max2 hc pins s σ H _ us Q I r ⟨i, j, rfl, q⟩
  · obtain ⟨u, w', rfl, ru, rw'⟩ := vals2 r
    obtain ⟨as, ra⟩ := Dp.reads I (.tuple (ns.map .int)) (.ref a) u (.tup ha (dp_ints ns)) ru
    obtain ⟨bs, rb⟩ := Dp.reads I (.tuple (ms.map .int)) (.ref b) w' (.tup hb (dp_ints ms)) rw'
    have hd := depth_rows2 ns ms
    refine max_two_data (I.ok.hd hc) ra rb (alike_rows ns ms) (by omega) fun h' tk k => ⟨if HT.lexLt ns ms = true then .ref b else .ref a, H, I.kept k, ?_, q⟩
    rw [lt_rows]
    cases HT.lexLt ns ms with
    | true => exact rw'
    | false => exact ru
theorem cr_minI (hc : X.calm = true) (hu : X.A.units + 64 < cLine) : CallR X (.builtin "min") (rMinI X.K) := by
  intro pins s σ H xs us Q I r h
  rcases h with ⟨i, j, rfl, q⟩ | ⟨a, b, ns, ms, rfl, ha, hb, q⟩
  · exact call_min2 hc pins s σ H _ us Q I r ⟨i, j, rfl, q⟩
  · obtain ⟨u, w', rfl, ru, rw'⟩ := vals2 r
    obtain ⟨as, ra⟩ := Dp.reads I (.tuple (ns.map .int)) (.ref a) u (.tup ha (dp_ints ns)) ru
    obtain ⟨bs, rb⟩ := Dp.reads I (.tuple (ms.map .int)) (.ref b) w' (.tup hb (dp_ints ms)) rw'
    have hd := depth_rows2 ns ms
    refine min_two_data (I.ok.hd hc) ra rb (alike_rows ns ms) (by omega) fun h' tk k => ⟨if HT.lexLt ms ns = true then .ref b else .ref a, H, I.kept k, ?_, q⟩
    rw [lt_rows]
    cases HT.lexLt ms ns with
    | true => exact rw'
    | false => exact ru
theorem max_s : CallS K E (rMaxI K) maxR := by
  intro rs vs H0 F H Q s d h
  unfold maxR at h
  split at h
  · obtain ⟨v, w, rfl, d1, d2⟩ := den2 d
    cases d1; cases d2
    exact .inl ⟨_, _, rfl, h.val s (.int _)⟩
  · split at h
    · rename_i xs ys a b e1 e2
      obtain ⟨v, w, rfl, d1, d2⟩ := den2 d
      cases d1 with
      | tup r1 t1 =>
        cases d2 with
        | tup r2 t2 =>
          have t1' := t1
          have t2' := t2
          rw [ints_of e1] at t1'
          rw [ints_of e2] at t2'
          have z1 := dn_ints t1'
          have z2 := dn_ints t2'
          refine .inr ⟨_, _, a, b, rfl, by rw [← z1]; exact same_t s r1, by rw [← z2]; exact same_t s r2, ?_⟩
          cases q : HT.lexLt a b with
          | true => rw [q] at h; exact h.val s (.tup r2 t2)
          | false => rw [q] at h; exact h.val s (.tup r1 t1)
    · exact h.elim
  · exact h.elim
theorem min_s : CallS K E (rMinI K) minR := by
  intro rs vs H0 F H Q s d h
  unfold minR at h
  split at h
  · obtain ⟨v, w, rfl, d1, d2⟩ := den2 d
    cases d1; cases d2
    exact .inl ⟨_, _, rfl, h.val s (.int _)⟩
  · split at h
    · rename_i xs ys a b e1 e2
      obtain ⟨v, w, rfl, d1, d2⟩ := den2 d
      cases d1 with
      | tup r1 t1 =>
        cases d2 with
        | tup r2 t2 =>
          have t1' := t1
          have t2' := t2
          rw [ints_of e1] at t1'
          rw [ints_of e2] at t2'
          have z1 := dn_ints t1'
          have z2 := dn_ints t2'
          refine .inr ⟨_, _, a, b, rfl, by rw [← z1]; exact same_t s r1, by rw [← z2]; exact same_t s r2, ?_⟩
          cases q : HT.lexLt b a with
          | true => rw [q] at h; exact h.val s (.tup r2 t2)
          | false => rw [q] at h; exact h.val s (.tup r1 t1)
    · exact h.elim
  · exact h.elim
theorem bools_of : ∀ {xs : List D} {ns : List Bool}, bools? xs = some ns → xs = ns.map PyData.bool
  | [], ns, h => by cases h; rfl
  | x :: xs, ns, h => by
    cases x with
    | bool i =>
      unfold bools? at h
      split at h
      · rename_i l e
        cases h
        rw [bools_of e]
        rfl
      · cases h
    | _ => cases h
theorem dn_bools {F : Hp} : ∀ {vs : List V} {ns : List Bool}, DnAll K F vs (ns.map PyData.bool) → vs = ns.map V.bl
  | [], [], _ => rfl
  | [], _ :: _, h => by cases h
  | _ :: _, [], h => by cases h
  | v :: vs, n :: ns, h => by
    cases h with
    | cons r t =>
      cases r
      rw [dn_bools t]
      rfl
theorem all_s : CallS K E (rAll K) allR := by
  intro rs vs H0 F H Q s d h
  unfold allR at h
  split at h
  · split at h
    · rename_i e
      split at h
      · rename_i e2
        obtain ⟨v, rfl, d1⟩ := den1 d
        obtain ⟨a, ws, rfl, q, t⟩ := d1.lst s e
        rw [bools_of e2] at t
        rw [dn_bools t] at q
        exact ⟨_, _, rfl, .inl (.inl q), h.val s (.bl _)⟩
      · exact h.elim
    · exact h.elim
  · exact h.elim
theorem any_s : CallS K E (rAny K) anyR := by
  intro rs vs H0 F H Q s d h
  unfold anyR at h
  split at h
  · split at h
    · rename_i e
      split at h
      · rename_i e2
        obtain ⟨v, rfl, d1⟩ := den1 d
        obtain ⟨a, ws, rfl, q, t⟩ := d1.lst s e
        rw [bools_of e2] at t
        rw [dn_bools t] at q
        exact ⟨_, _, rfl, .inl (.inl q), h.val s (.bl _)⟩
      · exact h.elim
    · exact h.elim
  · exact h.elim
theorem sum_s : CallS K E (rSum K) sumR := by
  intro rs vs H0 F H Q s d h
  unfold sumR at h
  split at h
  · split at h
    · rename_i e
      split at h
      · rename_i e2
        obtain ⟨v, rfl, d1⟩ := den1 d
        obtain ⟨a, ws, rfl, q, t⟩ := d1.lst s e
        rw [ints_of e2] at t
        rw [dn_ints t] at q
        exact ⟨_, _, rfl, .inl (.inl q), h.val s (.int _)⟩
      · exact h.elim
    · exact h.elim
  · exact h.elim
def rSortA (K : PySem.W.Frag) : List V → Hp → VK → Prop := fun vs H Q => ∃ (a : Addr) (zs : List (V × D)), vs = [.ref a] ∧ SqL K H a (zs.map (·.1)) ∧ (∀ z ∈ zs, Dp K H z.1 z.2) ∧ sortOk (zs.map (·.2)) = true ∧
  ∀ p, H p = none → Q (.ref p) (upd H p (.lst ((zs.mergeSort (PySem.W.dataLe false (·.2))).map (·.1))))
theorem sortOk_alike {xs : List D} (h : sortOk xs = true) : PySem.W.AllAlike xs := by
  unfold sortOk at h
  rw [Bool.and_eq_true, Bool.and_eq_true, Bool.and_eq_true] at h
  intro d hd d' hd'
  exact List.all_eq_true.mp (List.all_eq_true.mp h.1.1.1 d hd) d' hd'
theorem sortOk_depth {xs : List D} (h : sortOk xs = true) : ∀ d ∈ xs, d.depth ≤ 60 := by
  unfold sortOk at h
  rw [Bool.and_eq_true, Bool.and_eq_true, Bool.and_eq_true] at h
  intro d hd
  exact of_decide_eq_true (List.all_eq_true.mp h.1.1.2 d hd)
theorem sortOk_able {xs : List D} (h : sortOk xs = true) : PySem.W.Sortable xs := by
  unfold sortOk at h
  rw [Bool.and_eq_true, Bool.or_eq_true] at h
  rcases h.2 with q | q
  · refine .inl fun d hd => ?_
    have z := List.all_eq_true.mp q d hd
    split at z
    · exact ⟨_, _, rfl⟩
    · cases z
  · refine .inr fun d hd => ?_
    have z := List.all_eq_true.mp q d hd
    split at z
    · cases z
    · cases z
    · rename_i h1 h2
      exact ⟨h2, h1⟩
theorem each_of {pins : List (Addr × Obj)} {σ : L2.St} {H : Hp} {s : Shared} (I : Inv X pins σ H s) : ∀ (zs : List (V × D)) (us : List Value), Vals (zs.map (·.1)) us → (∀ z ∈ zs, Dp X.K H z.1 z.2) →
    PySem.W.EachIs (fun u z => RelV z.1 u) us zs ∧ PySem.W.EachIs (fun v (b : V × D) => ∃ as, Reads s.heap v b.2 as) us zs
  | [], _, .nil, _ => ⟨.nil, .nil⟩
  | z :: zs, _, .cons r t, h => by
    obtain ⟨h1, h2⟩ := each_of I zs _ t fun y hy => h y (List.mem_cons_of_mem _ hy)
    obtain ⟨as, q⟩ := Dp.reads I z.2 z.1 _ (h z List.mem_cons_self) r
    exact ⟨.cons r h1, .cons ⟨as, q⟩ h2⟩
theorem vals_each : ∀ {us : List Value} {zs : List (V × D)}, PySem.W.EachIs (fun u z => RelV z.1 u) us zs → Vals (zs.map (·.1)) us
  | _, _, .nil => .nil
  | _, _, .cons r t => .cons r (vals_each t)
theorem cr_sortA (hu : X.A.units + 64 < cLine) : CallR X (.builtin "sorted") (rSortA X.K) := by
  intro pins s σ H vs us Q I r h
  obtain ⟨a, zs, rfl, hs, hd, ok, q⟩ := h
  obtain ⟨its, rv, hl, hz⟩ := I.list hs
  rw [Vals.ref1 r]
  obtain ⟨e1, e2⟩ := each_of I zs its rv hd
  have hlen : zs.length ≤ sizeLine := by rw [List.length_map] at hz; exact hz
  refine PySem.W.sorted_data (R := fun u (z : V × D) => RelV z.1 u) (enc := fun z : V × D => z.2) (bs := zs) hl.isList e1 e2 (sortOk_alike ok) (sortOk_able ok) hlen (fun b hb => ?_) fun out ho eo => ?_
  · have := sortOk_depth ok b.2 (List.mem_map.mpr ⟨b, hb, rfl⟩)
    omega
  · obtain ⟨ep, he⟩ := PyProof.Rows.sortedAll_at s.heap its out.toArray
    refine ⟨.ref _, upd H (s.heap.objs.size + 1) (.lst ((zs.mergeSort (PySem.W.dataLe false (·.2))).map (·.1))), I.laid (t' := s.toks) (fun _ _ => PyProof.Rows.sortedAll_old) (Nat.le_succ _) ⟨?_, out, ep, vals_each eo, he⟩, rfl, q _ (I.hok.fresh (Nat.le_succ _))⟩
    rw [List.length_map, List.length_mergeSort]
    exact hlen
theorem zip_dn {F : Hp} : ∀ {vs : List V} {ds : List D}, DnAll K F vs ds → (vs.zip ds).map (·.1) = vs ∧ (vs.zip ds).map (·.2) = ds ∧ ∀ z ∈ vs.zip ds, Dn K F z.1 z.2
  | _, _, .nil => ⟨rfl, rfl, fun z h => by cases h⟩
  | _, _, .cons r t => by
    obtain ⟨h1, h2, h3⟩ := zip_dn t
    refine ⟨by simp [h1], by simp [h2], fun z hz => ?_⟩
    rcases List.mem_cons.mp hz with e | hz
    · subst e; exact r
    · exact h3 z hz
theorem dn_zip {F : Hp} : ∀ (zs : List (V × D)), (∀ z ∈ zs, Dn K F z.1 z.2) → DnAll K F (zs.map (·.1)) (zs.map (·.2))
  | [], _ => .nil
  | z :: zs, h => .cons (h z List.mem_cons_self) (dn_zip zs fun y hy => h y (List.mem_cons_of_mem _ hy))
theorem sorted_s : CallS K E (rSortA K) sortedR := by
  intro rs vs H0 F H Q s d h
  unfold sortedR at h
  split at h
  · split at h
    · rename_i xs e
      unfold sortR at h
      split at h
      · rename_i ok
        obtain ⟨v, rfl, d1⟩ := den1 d
        obtain ⟨a, ws, rfl, q, t⟩ := d1.lst s e
        obtain ⟨z1, z2, z3⟩ := zip_dn t
        refine ⟨a, ws.zip xs, rfl, by rw [z1]; exact .inl (.inl q), fun z hz => (Dn.mono s (z3 z hz)).dp, by rw [z2]; exact ok, fun p hp => ?_⟩
        have e2 : sortD xs = ((ws.zip xs).mergeSort (PySem.W.dataLe false (·.2))).map (·.2) := by
          unfold sortD
          have z := PySem.W.sort_maps (r := PySem.W.dataLe false fun z : V × D => z.2) (s := PySem.W.dataLe false id) (fun z : V × D => z.2) (l := ws.zip xs) (fun _ _ _ _ => rfl)
          rw [z2] at z
          exact z.symm
        rw [e2] at h
        exact Ans.newL h s hp (dn_zip _ fun z hz => z3 z ((List.mergeSort_perm _ _).mem_iff.mp hz))
      · exact h.elim
    · exact h.elim
  · exact h.elim
def rMinA (K : PySem.W.Frag) : List V → Hp → VK → Prop := fun vs H Q => ∃ (a : Addr) (ws : List V) (x : D) (xs : List D), vs = [.ref a] ∧ SqL K H a ws ∧ DpAll K H ws (x :: xs) ∧ leastOk (x :: xs) = true ∧
  ∀ i v, ws[i]? = some v → (x :: xs).getD i .none = xs.foldl (fun a y => if PySem.W.dataLt y a then y else a) x → Q v H
theorem depthAll_le : ∀ {xs : List D} {k : Nat}, (∀ x ∈ xs, x.depth ≤ k) → PyData.depthAll xs ≤ k
  | [], _, _ => by simp [PyData.depthAll]
  | x :: xs, k, h => by
    have a := h x (List.mem_cons_self ..)
    have b := depthAll_le (xs := xs) (k := k) fun y hy => h y (List.mem_cons_of_mem _ hy)
    simp only [PyData.depthAll]; omega
theorem vals_at : ∀ {ws : List V} {us : List Value} {i : Nat} {u : Value}, Vals ws us → us[i]? = some u → ∃ v, ws[i]? = some v ∧ RelV v u
  | _, _, _, _, .nil, e => by simp at e
  | _, _, 0, _, .cons r _, e => by simp at e; subst e; exact ⟨_, rfl, r⟩
  | _, _, i + 1, _, .cons _ t, e => by
    obtain ⟨v, h1, h2⟩ := vals_at (i := i) t (by simpa using e)
    exact ⟨v, by simpa using h1, h2⟩
theorem cr_minA (hc : X.calm = true) (hu : X.A.units + 64 < cLine) : CallR X (.builtin "min") (rMinA X.K) := by
  intro pins s σ H vs us Q I r h
  obtain ⟨a, ws, x, xs, rfl, hs, hd, ok, q⟩ := h
  obtain ⟨its, rv, hl, hz⟩ := I.list hs
  rw [Vals.ref1 r]
  obtain ⟨as, hr⟩ := Dp.readsAll I (x :: xs) ws its hd rv
  unfold leastOk at ok
  simp only [Bool.and_eq_true, List.all_eq_true, decide_eq_true_eq] at ok
  obtain ⟨⟨o1, o2⟩, o3⟩ := ok
  have hdp := depthAll_le o2
  refine min_list_at (I.ok.hd hc) hl.isList (by simpa using hr) ⟨o1, fun y hy e => by have := o3 y hy; rw [e] at this; simp at this⟩ (by omega) fun i v h' tk hv e k => ?_
  obtain ⟨v', h1, h2⟩ := vals_at rv (by simpa using hv)
  exact ⟨v', H, I.kept k, h2, q i v' h1 e⟩
theorem min1_s : CallS K E (rMinA K) min1R := by
  intro rs vs H0 F H Q s d h
  unfold min1R at h
  split at h
  · split at h
    · rename_i x xs e
      split at h
      · rename_i ok
        obtain ⟨v, rfl, d1⟩ := den1 d
        obtain ⟨a, ws, rfl, q, t⟩ := d1.lst s e
        refine ⟨a, ws, x, xs, rfl, .inl (.inl q), (t.mono s).dp, ok, fun i v hv ei => ?_⟩
        obtain ⟨dd, g1, g2⟩ := t.get hv
        have : (x :: xs).getD i .none = dd := by rw [List.getD_eq_getElem?_getD, g1]; rfl
        rw [← ei, this] at h
        exact h.val s g2
      · exact h.elim
    · exact h.elim
  · exact h.elim
def tyN : Ty → String
  | .int => "int"
  | .bool => "bool"
  | .str => "str"
  | .tuple => "tuple"
  | .list => "list"
  | .none => "NoneType"
/-- the type of a result -/
def R.ty : R → Ty
  | .d .none => .none
  | .d (.bool _) => .bool
  | .d (.int _) => .int
  | .d (.str _) => .str
  | .d (.tuple _) => .tuple
  | _ => .list
theorem ty_of {H0 F H : Hp} {v : V} {r : R} (s : Same F H) (d : Den K H0 F H v r) (hs : ∀ xs, r ≠ .s xs) (hi : r.isD = true) : TyX K H v (.type (tyN r.ty)) := by
  cases r with
  | d x =>
    cases x with
    | none => cases d; exact .base .non
    | bool b => cases d; exact .base (.bl b)
    | int i => cases d; exact .base (.int i)
    | str x => cases d; exact .base (.str x)
    | list ys => cases d with | lst r t => exact .base (.lst (s _ _ r))
    | tuple ys =>
      cases d with
      | tup r t =>
        rcases same_t s r with (q | ⟨o, q⟩) | ⟨o, its, n, q, c, _⟩
        · exact .base (.tup q)
        · exact .fTuple q
        · exact .kTuple q c
    | dict kvs => cases d
  | l xs => obtain ⟨a, vs, rfl, h0, hf, hh, t⟩ := d; exact .base (.lst hh)
  | b xs => obtain ⟨a, vs, rfl, hf, hh, t⟩ := d; exact .base (.lst hh)
  | s xs => exact absurd rfl (hs xs)
  | m xs => cases hi
  | t xs => cases hi
  | n xs => cases hi
  | q => cases hi
  | o xs => cases hi
theorem kit_tyN (a b : Ty) : kitB (tyN a) (tyN b) = some (match a, b with
    | .int, .int => true | .bool, .bool => true | .bool, .int => true | .str, .str => true | .tuple, .tuple => true | .list, .list => true | .none, .none => true | _, _ => false) := by
  cases a <;> cases b <;> decide +kernel
theorem tyR_ty {r : R} {t : Ty} (hd : ∀ kvs, r ≠ .d (.dict kvs)) (hi : r.isD = true) : tyR r t = (match r.ty, t with
    | .int, .int => true | .bool, .bool => true | .bool, .int => true | .str, .str => true | .tuple, .tuple => true | .list, .list => true | .none, .none => true | _, _ => false) := by
  cases r with
  | d x =>
    cases x with
    | dict kvs => exact absurd rfl (hd kvs)
    | _ => cases t <;> rfl
  | m xs => cases hi
  | t xs => cases hi
  | n xs => cases hi
  | q => cases hi
  | o xs => cases hi
  | _ => cases t <;> rfl
end
end PP
set_option Elab.async false
set_option linter.all false
set_option autoImplicit false
set_option maxRecDepth 100000
set_option maxHeartbeats 1000000
namespace PP
open PySem L2 RZ
section
variable {X : Cx} {E : EX} {C : Nat → List R → Rs R} {pos p : Pos} {e : Expr} {es : List Expr} {xs : Exs}
theorem q_callB {id : String} {x : Str} {r : List V → Hp → VK → Prop} {g : List R → Rs R} (hc : CallR X (.builtin id) r) (hs : CallS X.K E r g) (hg : Gl X x) (hm : X.mg x = none) (hv : bootBuiltins x = some (.builtin id)) (ha : PA X (e :: es) (tOfA X.K E (evs C xs)))
    (hn : x ≠ "__name__") (hdb : (x == ("__debug__" : Str)) = false) (he : starEach (e :: es) X.env = (false, eval e X.env) :: starEach es X.env) (hpl : (backTo pos (starEach es X.env)).any (·.1) = false) :
    PE X (.Call (.Name x p) (e :: es) [] pos) (tOf X.K E fun ρ => evs C xs ρ >>= fun rs => g rs) := by
  refine pe_of (pe_callB hc hg hm hv ha hn hdb he hpl) fun σ H Q h => ?_
  obtain ⟨ρ, F, R, h⟩ := h
  exact ⟨ρ, F, R, AnsA.bind h fun rs hrs vs F1 H1 g1 d1 => hs rs vs H F1 H1 Q g1.sub d1 (hrs.grow g1)⟩
theorem q_callTy {T : String} {x : Str} {r : List V → Hp → VK → Prop} {g : List R → Rs R} (hc : CallR X (.type T) r) (hs : CallS X.K E r g) (hg : Gl X x) (hm : X.mg x = none) (hv : bootBuiltins x = some (.type T)) (ha : PA X (e :: es) (tOfA X.K E (evs C xs)))
    (hn : x ≠ "__name__") (hdb : (x == ("__debug__" : Str)) = false) (he : starEach (e :: es) X.env = (false, eval e X.env) :: starEach es X.env) (hpl : (backTo pos (starEach es X.env)).any (·.1) = false) :
    PE X (.Call (.Name x p) (e :: es) [] pos) (tOf X.K E fun ρ => evs C xs ρ >>= fun rs => g rs) := by
  refine pe_of (pe_callTy hc hg hm hv ha hn hdb he hpl) fun σ H Q h => ?_
  obtain ⟨ρ, F, R, h⟩ := h
  exact ⟨ρ, F, R, AnsA.bind h fun rs hrs vs F1 H1 g1 d1 => hs rs vs H F1 H1 Q g1.sub d1 (hrs.grow g1)⟩
end
/-- the arguments as they are handed over -/
theorem arg1 {K : PySem.W.Frag} {F0 H0 F F' H : Hp} {v : V} {r q : R} (g : Grow F0 H0 F H) (s : Same F' F) (d : Den K H0 F' H v r) (e : r.arg = .ok q) : ∃ F1, Grow F0 H0 F1 H ∧ Same F F1 ∧ ∀ F2, Same F1 F2 → Den K H F2 H v q := by
  cases r with
  | d y =>
    cases e
    exact ⟨F, g, Same.refl F, fun F2 s2 => Dn.mono (s.trans s2) d⟩
  | l ys =>
    cases e
    obtain ⟨F1, g1, s1, t⟩ := frz1 (x := .list ys) g s d rfl
    exact ⟨F1, g1, s1, fun F2 s2 => Dn.mono s2 t⟩
  | b ys => cases e
  | s ys =>
    cases e
    obtain ⟨a, vs, e1, hh, t⟩ := d
    exact ⟨F, g, Same.refl F, fun F2 s2 => ⟨a, vs, e1, same_l (s.trans s2) hh, t.mono (s.trans s2)⟩⟩
  | m ys =>
    cases e
    obtain ⟨a, vs, e1, hh, t⟩ := d
    exact ⟨F, g, Same.refl F, fun F2 s2 => ⟨a, vs, e1, (s.trans s2) _ _ hh, t.mono (s.trans s2)⟩⟩
  | t ys => cases e
  | n ys => cases e
  | q => cases e
  | o a => cases e
theorem argAll_cons {r : R} {rs : List R} {ds : List R} (e : argAll (r :: rs) = .ok ds) : ∃ x xs, r.arg = .ok x ∧ argAll rs = .ok xs ∧ ds = x :: xs := by
  unfold argAll mapR at e
  cases q : r.arg with
  | bad => rw [q] at e; cases e
  | err c => rw [q] at e; cases e
  | ok x =>
    rw [q] at e
    cases q2 : mapR R.arg rs with
    | bad => rw [q2] at e; cases e
    | err c => rw [q2] at e; cases e
    | ok xs => rw [q2] at e; cases e; exact ⟨x, xs, rfl, q2, rfl⟩
theorem argN {K : PySem.W.Frag} {F0 H0 F' H : Hp} : ∀ {vs : List V} {rs as : List R} {F : Hp}, Grow F0 H0 F H → Same F' F → DenAll K H0 F' H vs rs → argAll rs = .ok as → ∃ F1, Grow F0 H0 F1 H ∧ Same F F1 ∧ ∀ F2, Same F1 F2 → DenAll K H F2 H vs as
  | [], [], as, F, g, s, d, e => by cases e; exact ⟨F, g, Same.refl F, fun _ _ => trivial⟩
  | v :: vs, r :: rs, as, F, g, s, ⟨d, ds⟩, e => by
    obtain ⟨x, ys, e1, e2, rfl⟩ := argAll_cons e
    obtain ⟨F1, g1, s1, t1⟩ := arg1 g s d e1
    obtain ⟨F2, g2, s2, t2⟩ := argN g1 (s.trans s1) ds e2
    exact ⟨F2, g2, s1.trans s2, fun F3 s3 => ⟨t1 F3 (s2.trans s3), t2 F3 s3⟩⟩
theorem Ans.argAll {K : PySem.W.Frag} {E : EX} {F H : Hp} {rs : List R} {k : List R → Rs R} {Q : VK} (h : Ans K E (argAll rs >>= k) F H Q) : ∃ ds, PP.argAll rs = .ok ds ∧ Ans K E (k ds) F H Q := by
  cases q : PP.argAll rs with
  | bad => rw [q] at h; exact h.elim
  | err c =>
    exfalso
    have : ∀ (rs : List R) c, PP.argAll rs ≠ .err c := by
      intro rs
      induction rs with
      | nil => intro c e; cases e
      | cons r rs ih =>
        intro c e
        unfold PP.argAll mapR at e
        cases q2 : mapR R.arg rs with
        | err c2 => exact ih c2 q2
        | bad => cases r <;> simp [R.arg, q2] at e
        | ok xs => cases r <;> simp [R.arg, q2] at e
    exact this rs c q
  | ok ds => rw [q] at h; exact ⟨ds, rfl, h⟩
def argOk (rs : List R) : Bool := rs.all fun r => match r with | .d _ => true | .s _ => true | .m _ => true | _ => false
theorem argAll_ok : ∀ {rs as : List R}, argAll rs = .ok as → argOk as = true
  | [], as, e => by cases e; rfl
  | r :: rs, as, e => by
    obtain ⟨x, ys, e1, e2, rfl⟩ := argAll_cons e
    have ih := argAll_ok e2
    unfold argOk at ih ⊢
    rw [List.all_cons, ih]
    cases r <;> cases e1 <;> rfl
/-- THE PROMISE of a def with the pure meaning g, np parameters; cl: the classes of exceptions -/
def spP (K : PySem.W.Frag) (cl : Nat → Value) (np : Nat) (g : List R → Rs R) : Sp := fun vs H Q E => ∃ F rs, Same F H ∧ DenAll K H F H vs rs ∧ rs.length = np ∧ argOk rs = true ∧ Ans K (fun c H' => E (cl c) none H') (g rs) F H Q
theorem denAll_len {K : PySem.W.Frag} {H0 F H : Hp} : ∀ {vs : List V} {rs : List R}, DenAll K H0 F H vs rs → vs.length = rs.length
  | [], [], _ => rfl
  | _ :: _, _ :: _, ⟨_, b⟩ => by simp [denAll_len b]
section
variable {X : Cx} {CX : CXT} {Ex0 : XK} {cl : Nat → Value} {k np : Nat} {f : Addr} {fd : FuncData} {ps : List Str} {C : Nat → List R → Rs R} {pos p : Pos} {e : Expr} {es : List Expr} {xs : Exs} {x : Str} {n : Nat}
theorem call_of {t : TA} {ρs : Unit} (hlen : ∀ rs r, C n rs = r → r ≠ .bad → rs.length = np) : ∀ σ H Q, tOf X.K (fun c H' => Ex0 (cl c) none H') (ev C (.call n xs)) σ H Q → tCall (spP X.K cl np (C n)) [] Ex0 (tOfA X.K (fun c H' => Ex0 (cl c) none H') (evs C xs)) σ H Q := by
  rintro σ H Q ⟨ρ, F, R, h⟩
  rw [ev.eq_16] at h
  refine ⟨ρ, F, R, AnsA.bind h fun rs hrs vs F1 H1 g1 d1 => ?_⟩
  obtain ⟨as, e1, hk⟩ := Ans.argAll hrs
  obtain ⟨F2, g2, s2, t2⟩ := argN g1 (Same.refl F1) d1 e1
  have hb : C n as ≠ .bad := fun q => by rw [q] at hk; exact hk
  rw [List.append_nil]
  exact ⟨F2, as, g2.sub, t2 F2 (Same.refl F2), hlen as _ rfl hb, argAll_ok e1, hk.grow g2⟩
theorem q_call (F : FnOk X.prog X.w X.K X.mg X.base CX k f fd ps (spP X.K cl np (C n))) (hr : Room k X.A) (hg : Gl X x) (hm : X.mg x = some (.ref f)) (hk : PySem.W.keepIn X.K (.ref f) = true) (hb : Binds X.K fd ps []) (hx : Passes CX X Ex0)
    (ha : PA X (e :: es) (tOfA X.K (fun c H' => Ex0 (cl c) none H') (evs C xs))) (hdb : (x == ("__debug__" : Str)) = false) (he : starEach (e :: es) X.env = (false, eval e X.env) :: starEach es X.env) (hpl : (backTo pos (starEach es X.env)).any (·.1) = false)
    (hlen : ∀ rs r, C n rs = r → r ≠ .bad → rs.length = np) : PE X (.Call (.Name x p) (e :: es) [] pos) (tOf X.K (fun c H' => Ex0 (cl c) none H') (ev C (.call n xs))) :=
  pe_of (pe_call F hr hg hm hk hb .nil hx ha hdb he hpl) (call_of (t := tOfA X.K (fun c H' => Ex0 (cl c) none H') (evs C xs)) (ρs := ()) hlen)
theorem q_call0 (F : FnOk X.prog X.w X.K X.mg X.base CX k f fd ps (spP X.K cl np (C n))) (hr : Room k X.A) (hg : Gl X x) (hm : X.mg x = some (.ref f)) (hk : PySem.W.keepIn X.K (.ref f) = true) (hb : Binds X.K fd ps []) (hx : Passes CX X Ex0)
    (hdb : (x == ("__debug__" : Str)) = false) (hlen : ∀ rs r, C n rs = r → r ≠ .bad → rs.length = np) : PE X (.Call (.Name x p) [] [] pos) (tOf X.K (fun c H' => Ex0 (cl c) none H') (ev C (.call n .nil))) := by
  refine pe_of (pe_call0 F hr hg hm hk hb .nil hx hdb) fun σ H Q h => ?_
  obtain ⟨ρ, F, R, h⟩ := h
  rw [ev.eq_16, evs.eq_1] at h
  have h : Ans X.K (fun c H' => Ex0 (cl c) none H') (C n []) F H Q := h
  have hb : C n [] ≠ .bad := fun q => by rw [q] at h; exact h
  exact ⟨F, [], R.sub, trivial, hlen [] _ rfl hb, rfl, h⟩
end
section
variable {X : Cx} {E : EX} {K : PySem.W.Frag} {C : Nat → List R → Rs R} {pos p q r : Pos} {a : Expr} {xa : Ex}
theorem isi_ty {H0 F H : Hp} {v : V} {x : R} {ts : List Ty} {Q : Bool → Hp → Prop} (s : Same F H) (d : Den K H0 F H v x) (h : AnsT E (isiR ts x) F H Q) : TyX K H v (.type (tyN x.ty)) ∧ Q (ts.any (tyR x)) H ∧ ∀ t, PySem.W.kitOne K (.type (tyN x.ty)) (.type (tyN t)) = some (tyR x t) := by
  have hs : ∀ xs, x ≠ .s xs := fun xs e => by subst e; exact h
  have hd : ∀ kvs, x ≠ .d (.dict kvs) := fun kvs e => by subst e; cases d
  have hi : x.isD = true := by
    cases x with
    | m xs => exact h.elim
    | t xs => exact h.elim
    | n xs => exact h.elim
    | q => exact h.elim
    | o xs => exact h.elim
    | _ => rfl
  refine ⟨ty_of s d hs hi, ?_, fun t => ?_⟩
  · cases x with
    | s xs => exact absurd rfl (hs xs)
    | m xs => cases hi
    | t xs => cases hi
    | n xs => cases hi
    | q => cases hi
    | o xs => cases hi
    | _ => exact AnsT.val h s
  · rw [tyR_ty hd hi]
    exact kit_ty (kit_tyN _ _)
theorem q_isi1 {t : Ty} {T : Str} (ha : PE X a (tOf X.K E (ev C xa))) (hg : Gl X "isinstance") (hm : X.mg "isinstance" = none) (hgT : Gl X T) (hmT : X.mg T = none) (hvT : bootBuiltins T = some (.type (tyN t))) (hnT : T ≠ "__name__") (hdT : (T == ("__debug__" : Str)) = false)
    (he : starEach [a, .Name T q] X.env = (false, eval a X.env) :: starEach [.Name T q] X.env) : PE X (.Call (.Name "isinstance" p) [a, .Name T q] [] pos) (tOf X.K E (ev C (.isi t xa))) := by
  refine pe_of (pe_callB call_isi hg hm PyProof.Rows.boot_isinstance (pa_cons ha (pa_cons (pe_bltn hgT hmT hvT (v := .ty (tyN t)) rfl hnT hdT) pa_nil rfl) he) (by decide) (by decide) he rfl) fun σ H Q h => ?_
  obtain ⟨ρ, F, R, h⟩ := h
  rw [ev.eq_18] at h
  refine ⟨ρ, F, R, h.bind fun x hx v F1 H1 g1 d1 => ?_⟩
  obtain ⟨h1, h2, h3⟩ := isi_ty g1.sub d1 (AnsT.boolR (hx.grow g1))
  refine ⟨v, .ty (tyN t), _, _, _, rfl, .ty _, h1, h3 t, ?_⟩
  simpa using h2
theorem q_isi2 {t u : Ty} {T U : Str} {k : Nat} {q2 : Pos} (ha : PE X a (tOf X.K E (ev C xa))) (hg : Gl X "isinstance") (hm : X.mg "isinstance" = none) (hgT : Gl X T) (hmT : X.mg T = none) (hvT : bootBuiltins T = some (.type (tyN t))) (hnT : T ≠ "__name__") (hdT : (T == ("__debug__" : Str)) = false)
    (hgU : Gl X U) (hmU : X.mg U = none) (hvU : bootBuiltins U = some (.type (tyN u))) (hnU : U ≠ "__name__") (hdU : (U == ("__debug__" : Str)) = false)
    (he : starEach [a, .Tuple [.Name T q, .Name U q2] k r] X.env = (false, eval a X.env) :: starEach [.Tuple [.Name T q, .Name U q2] k r] X.env) : PE X (.Call (.Name "isinstance" p) [a, .Tuple [.Name T q, .Name U q2] k r] [] pos) (tOf X.K E (ev C (.isi2 t u xa))) := by
  refine pe_of (pe_callB call_isiT hg hm PyProof.Rows.boot_isinstance (pa_cons ha (pa_cons (pe_tup (pa_cons (pe_bltn hgT hmT hvT (v := .ty (tyN t)) rfl hnT hdT) (pa_cons (pe_bltn hgU hmU hvU (v := .ty (tyN u)) rfl hnU hdU) pa_nil rfl) rfl)) pa_nil rfl) he) (by decide) (by decide) he rfl) fun σ H Q h => ?_
  obtain ⟨ρ, F, R, h⟩ := h
  rw [ev.eq_19] at h
  refine ⟨ρ, F, R, h.bind fun x hx v F1 H1 g1 d1 => ?_⟩
  refine ⟨by show 2 ≤ sizeLine; decide, fun tp htp => ?_⟩
  have g2 : Grow F1 H1 F1 (upd H1 tp (.tup [.ty (tyN t), .ty (tyN u)])) := Grow.own g1.sub htp
  obtain ⟨h1, h2, h3⟩ := isi_ty g2.sub (d1.grow g2) (AnsT.boolR (hx.grow (g1.trans g2)))
  refine ⟨v, tp, [.ty (tyN t), .ty (tyN u)], _, [.type (tyN t), .type (tyN u)], tyR x t || tyR x u, rfl, upd_same, .cons (.ty _) (.cons (.ty _) .nil), h1, ?_, ?_⟩
  · refine kitAny_cons (h3 t) (fun e => kitAny_cons (h3 u) (fun e2 => ?_) fun e2 => ?_) fun e => ?_
    · rw [e, e2]; exact kitAny_nil
    · rw [e2]; simp
    · rw [e]; simp
  · simpa using h2
end
theorem dcount_eq : ∀ (ks vs : List (List Int)), vs.Nodup → (∀ v, v ∈ vs ↔ v ∈ ks) → vs.length = dcount ks
  | [], vs, _, h => by
    have : vs = [] := List.eq_nil_iff_forall_not_mem.mpr fun v hv => by have := (h v).mp hv; cases this
    rw [this]
    rfl
  | k :: ks, vs, nd, h => by
    unfold dcount
    by_cases hk : k ∈ ks
    · rw [if_pos hk]
      refine dcount_eq ks vs nd fun v => (h v).trans ⟨fun q => ?_, List.mem_cons_of_mem _⟩
      rcases List.mem_cons.mp q with e | q
      · rw [e]; exact hk
      · exact q
    · rw [if_neg hk]
      have hv : k ∈ vs := (h k).mpr List.mem_cons_self
      have ih := dcount_eq ks (vs.erase k) (nd.erase k) fun v => by
        rw [nd.mem_erase_iff, h v, List.mem_cons]
        constructor
        · rintro ⟨q1, q2⟩
          exact q2.resolve_left q1
        · exact fun q => ⟨fun e => hk (e ▸ q), .inr q⟩
      rw [List.length_erase_of_mem hv] at ih
      have : 0 < vs.length := List.length_pos_of_mem hv
      omega
def rLenT (K : PySem.W.Frag) (P : Program) (w : World) : List V → Hp → VK → Prop := fun vs H Q => ∃ (a : Addr) (L : List (Addr × List Int)), vs = [.ref a] ∧ H a = some (SetTO P w a L) ∧ (∀ p ∈ L, SqT K H p.1 (p.2.map V.int)) ∧ ((L.map (·.2)).Nodup → Q (.int L.length) H)
theorem cr_lenT {X : Cx} : CallR X (.builtin "len") (rLenT X.K X.prog X.w) := by
  intro pins s σ H vs us Q I r h
  obtain ⟨a, L, rfl, ha, hk, q⟩ := h
  have R0 : SetT0 X.prog X.w s.heap a L := (I.hok a _ ha).1
  obtain ⟨es, ep, t, R⟩ := R0.full fun p hp => I.isT (hk p hp)
  rw [Vals.ref1 r]
  obtain ⟨o, ho, hex, hd⟩ := R.ob
  have hsz := R.size
  have few := R.few
  exact call_len_set ho hex hd R.fits (by omega) ⟨.int L.length, H, I.tok _, ⟨_, by rw [hsz]⟩, q R.nd⟩
theorem tints_of {K : PySem.W.Frag} {F : Hp} : ∀ {ds : List D} {vs : List V} {ks : List (List Int)}, tints? ds = some ks → DnAll K F vs ds → ∃ zs : List (Addr × List Int), vs = zs.map (fun p => V.ref p.1) ∧ zs.map (·.2) = ks ∧ ∀ p ∈ zs, SqT K F p.1 (p.2.map V.int)
  | [], _, ks, e, .nil => by cases e; exact ⟨[], rfl, rfl, fun p h => by cases h⟩
  | d :: ds, _, ks, e, .cons r t => by
    cases d with
    | tuple xs =>
      unfold tints? at e
      split at e
      · rename_i ns l e1 e2
        cases e
        obtain ⟨zs, z1, z2, z3⟩ := tints_of e2 t
        cases r with
        | tup q t2 =>
          rw [ints_of e1] at t2
          rw [dn_ints t2] at q
          refine ⟨(_, ns) :: zs, by rw [z1]; rfl, by rw [← z2]; rfl, fun p hp => ?_⟩
          rcases List.mem_cons.mp hp with e | hp
          · rw [e]; exact q
          · exact z3 p hp
      · cases e
    | _ => cases e
theorem q_lenset {X : Cx} {E : EX} {C : Nat → List R → Rs R} {a : Expr} {xa : Ex} {p p2 q pos : Pos} (hc : X.calm = true) (hu : X.A.units + 64 < cLine) (hg : Gl X "len") (hm : X.mg "len" = none) (hg2 : Gl X "set") (hm2 : X.mg "set" = none) (ha : PE X a (tOf X.K E (ev C xa)))
    (hs : starEach [a] X.env = (false, eval a X.env) :: starEach [] X.env) : PE X (.Call (.Name "len" p) [.Call (.Name "set" p2) [a] [] q] [] pos) (tOf X.K E (ev C (.lenset xa))) := by
  refine pe_of (pe_callB cr_lenT hg hm PySem.boot_len (pa_cons (pe_callTy (cr_setOfT hc hu) hg2 hm2 PyProof.Rows.boot_set (pa_cons ha pa_nil hs) (by decide) (by decide) hs rfl) pa_nil rfl) (by decide) (by decide) rfl rfl) fun σ H Q h => ?_
  obtain ⟨ρ, F, R, h⟩ := h
  rw [ev.eq_22] at h
  refine ⟨ρ, F, R, h.bind fun x hx v F1 H1 g1 d1 => ?_⟩
  have hx := hx.grow g1
  have hx : Ans X.K E (match x.lst? with
    | some xs => match tints? xs with
      | some ks => if ks.length < 64 then .ok (.d (.int (dcount ks : Nat))) else .bad
      | none => .bad
    | none => .bad) F1 H1 Q := hx
  cases e1 : x.lst? with
  | none => rw [e1] at hx; exact hx.elim
  | some xs =>
    simp only [e1] at hx
    cases e2 : tints? xs with
    | none => rw [e2] at hx; exact hx.elim
    | some ks =>
      simp only [e2] at hx
      split at hx
      · rename_i hz
        obtain ⟨l, vs, rfl, q, t⟩ := d1.lst g1.sub e1
        obtain ⟨zs, z1, z2, z3⟩ := tints_of e2 t
        have hl : zs.length = ks.length := by rw [← z2, List.length_map]
        rw [z1] at q
        refine ⟨l, zs, rfl, .inl (.inl q), fun p hp => same_t g1.sub (z3 p hp), by omega, fun b L hb h1 h2 => ?_⟩
        refine ⟨b, L, rfl, upd_same, fun p hp => same_t (g1.sub.trans (same_new hb)) (z3 p (h1 p hp)), fun nd => ?_⟩
        have ec : L.length = dcount ks := by
          have := dcount_eq ks (L.map (·.2)) nd fun v => by
            rw [← z2]
            constructor
            · intro hv
              obtain ⟨p, hp, e⟩ := List.mem_map.mp hv
              exact List.mem_map.mpr ⟨p, h1 p hp, e⟩
            · intro hv
              obtain ⟨p, hp, e⟩ := List.mem_map.mp hv
              rw [← e]
              exact h2 p hp
          rw [List.length_map] at this
          exact this
        rw [ec]
        exact hx _ F1 _ (Grow.own g1.sub hb) (.int _)
      · exact hx.elim
/-- J walks the data ds that stand in G -/
def YD (K : PySem.W.Frag) (G : Hp) (ds : List D) (i : Nat) (H : Hp) (x : V) (H' : Hp) : Prop := ∃ d, ds[i]? = some d ∧ ∀ F, Same G F → Same F H → ∃ F', Grow F H F' H' ∧ Dn K F' x d
def ItD (K : PySem.W.Frag) (G : Hp) (J : L2.It) (ds : List D) : Prop := Walk J ds.length (fun H => Same G H) (YD K G ds)
def AnsI (K : PySem.W.Frag) (E : EX) (m : Rs (List D)) (F H : Hp) (Q : L2.It → Hp → Prop) : Prop :=
  match m with
  | .bad => False
  | .err c => ∀ F' H', Grow F H F' H' → E c H'
  | .ok ds => ∀ J F' H', Grow F H F' H' → ItD K F' J ds → Q J H'
def tOfI (K : PySem.W.Frag) (E : EX) (f : Sto → Rs (List D)) : TI := fun σ H Q => ∃ ρ F, Rel K ρ σ F H ∧ AnsI K E (f ρ) F H Q
section
variable {X : Cx} {E : EX} {K : PySem.W.Frag} {C : Nat → List R → Rs R} {pos p : Pos} {tg a b : Expr} {xa xb : Ex} {F H : Hp}
theorem AnsI.bind {m : Rs R} {k : R → Rs (List D)} {Q : L2.It → Hp → Prop} {Q1 : VK} (h : AnsI K E (m >>= k) F H Q)
    (hk : ∀ x, AnsI K E (k x) F H Q → ∀ v F1 H1, Grow F H F1 H1 → Den K H F1 H1 v x → Q1 v H1) : Ans K E m F H Q1 := by
  cases m with
  | bad => exact h
  | err c => exact h
  | ok r => exact hk r h
theorem AnsI.grow {F' H' : Hp} {m : Rs (List D)} {Q : L2.It → Hp → Prop} (h : AnsI K E m F H Q) (g : Grow F H F' H') : AnsI K E m F' H' Q := by
  cases m with
  | bad => exact h
  | err c => exact fun F2 H2 g2 => h F2 H2 (g.trans g2)
  | ok r => exact fun J F2 H2 g2 => h J F2 H2 (g.trans g2)
theorem itd_list {G : Hp} {l : Addr} {vs : List V} {ds : List D} (h : SqL K G l vs) (t : DnAll K G vs ds) : ItD K G (Itl K l) ds := by
  unfold ItD
  rw [← t.length]
  refine (walk_list (K := K) (a := l) (xs := vs)).mono (fun H s => same_l s h) fun i H x H' hi s y => ?_
  obtain ⟨rfl, e⟩ := y
  obtain ⟨d, e1, q⟩ := t.get e
  exact ⟨d, e1, fun F s1 s2 => ⟨F, Grow.refl s2, q.mono s1⟩⟩
theorem itd_tup {G : Hp} {l : Addr} {vs : List V} {ds : List D} (h : SqT K G l vs) (t : DnAll K G vs ds) : ItD K G (Itt K l) ds := by
  unfold ItD
  rw [← t.length]
  refine (walk_tup (K := K) (a := l) (xs := vs)).mono (fun H s => same_t s h) fun i H x H' hi s y => ?_
  obtain ⟨rfl, e⟩ := y
  obtain ⟨d, e1, q⟩ := t.get e
  exact ⟨d, e1, fun F s1 s2 => ⟨F, Grow.refl s2, q.mono s1⟩⟩
theorem itd_range {G : Hp} {i j : Int} : ItD K G (Itr i (j - i).toNat) (rngL i j) := by
  unfold ItD
  have e : (rngL i j).length = (j - i).toNat := by simp [rngL]
  rw [e]
  refine (walk_range (lo := i) (n := (j - i).toNat)).mono (fun _ _ => trivial) fun k H x H' hi s y => ?_
  obtain ⟨rfl, rfl⟩ := y
  refine ⟨.int (i + k), ?_, fun F s1 s2 => ⟨F, Grow.refl s2, .int _⟩⟩
  simp [rngL, List.getElem?_map, List.getElem?_range hi]
/-- a list or a tuple, frozen for the walk -/
theorem itm_list {F0 H0 F H : Hp} {v : V} {x : R} {ds : List D} (g : Grow F0 H0 F H) (d : Den K H0 F H v x) (e : x.itm = .ok ds) : ∃ F1 a vs, Grow F0 H0 F1 H ∧ v = .ref a ∧ DnAll K F1 vs ds ∧ ((SqL K F1 a vs ∧ ∀ ys, x ≠ .d (.tuple ys)) ∨ (SqT K F1 a vs ∧ x = .d (.tuple ds))) := by
  cases x with
  | d y =>
    cases y with
    | list ys =>
      cases e
      cases d with
      | lst r t => exact ⟨F, _, _, g, rfl, t, .inl ⟨.inl (.inl r), fun _ q => by cases q⟩⟩
    | tuple ys =>
      cases e
      cases d with
      | tup r t => exact ⟨F, _, _, g, rfl, t, .inr ⟨r, rfl⟩⟩
    | _ => cases e
  | l ys =>
    cases e
    obtain ⟨F1, g1, s1, t⟩ := frz1 (x := .list _) g (Same.refl F) d rfl
    cases t with
    | lst r t => exact ⟨F1, _, _, g1, rfl, t, .inl ⟨.inl (.inl r), fun _ q => by cases q⟩⟩
  | b ys => cases e
  | s ys =>
    cases e
    obtain ⟨a, vs, rfl, hh, t⟩ := d
    exact ⟨F, a, vs, g, rfl, t, .inl ⟨hh, fun _ q => by cases q⟩⟩
  | m ys => cases e
  | t ys => cases e
  | n ys => cases e
  | q => cases e
  | o a => cases e
theorem q_seq (ha : PE X a (tOf X.K E (ev C xa))) : PI X tg a (tOfI X.K E (evI C (.seq xa))) := by
  refine ⟨fun pins s σ H R I h => ?_⟩
  obtain ⟨ρ, F, Rl, h⟩ := h
  rw [evI.eq_1] at h
  by_cases ht : ∃ ys, ev C xa ρ = .ok (.d (.tuple ys))
  · obtain ⟨ys, e⟩ := ht
    refine (pi_tup ha).run pins s σ H R I ⟨ρ, F, Rl, ?_⟩
    rw [e] at h ⊢
    intro v F1 H1 g1 d1
    have h : AnsI X.K E (.ok ys) F H R := h
    obtain ⟨F2, l, vs, g2, rfl, t, q⟩ := itm_list (x := .d (.tuple ys)) (ds := ys) g1 d1 rfl
    rcases q with ⟨_, q⟩ | ⟨q, _⟩
    · exact absurd rfl (q ys)
    · exact ⟨l, rfl, ⟨vs, same_t g2.sub q⟩, h _ F2 H1 g2 (itd_tup q t)⟩
  · refine (pi_list ha).run pins s σ H R I ⟨ρ, F, Rl, ?_⟩
    cases e : ev C xa ρ with
    | bad => rw [e] at h; exact h
    | err c => rw [e] at h; exact h
    | ok x =>
      rw [e] at h
      intro v F1 H1 g1 d1
      have h : AnsI X.K E x.itm F H R := h
      cases e2 : x.itm with
      | bad => rw [e2] at h; exact h.elim
      | err c => exfalso; cases x with
        | d y => cases y <;> cases e2
        | _ => cases e2
      | ok ds =>
        rw [e2] at h
        obtain ⟨F2, l, vs, g2, rfl, t, q⟩ := itm_list g1 d1 e2
        rcases q with ⟨q, _⟩ | ⟨_, q⟩
        · exact ⟨l, rfl, ⟨vs, same_l g2.sub q⟩, h _ F2 H1 g2 (itd_list q t)⟩
        · subst q; exact absurd ⟨_, e⟩ ht
theorem small_of {i : Int} (h : smallI i = true) : -1000000 ≤ i ∧ i ≤ 1000000 := by
  unfold smallI at h
  rw [Bool.and_eq_true] at h
  exact ⟨of_decide_eq_true h.1, of_decide_eq_true h.2⟩
theorem pi_of {it : Expr} {t t' : TI} (h : PI X tg it t) (w : ∀ σ H Q, t' σ H Q → t σ H Q) : PI X tg it t' := ⟨fun pins s σ H Q I q => h.run pins s σ H Q I (w σ H Q q)⟩
theorem q_rng1 (hg : Gl X "range") (hm : X.mg "range" = none) (ha : PE X a (tOf X.K E (ev C xa))) (hs : starEach [a] X.env = [(false, eval a X.env)]) : PI X tg (.Call (.Name "range" p) [a] [] pos) (tOfI X.K E (evI C (.rng1 xa))) := by
  refine pi_of (pi_range1 hg hm (pa_cons ha pa_nil hs) hs) fun σ H Q h => ?_
  obtain ⟨ρ, F, R, h⟩ := h
  rw [evI.eq_2] at h
  refine ⟨ρ, F, R, AnsI.bind h fun x hx v F1 H1 g1 d1 => ?_⟩
  split at hx
  · split at hx
    · rename_i hz
      have z := small_of hz
      cases d1
      refine ⟨_, rfl, by omega, by omega, ?_⟩
      have w := hx (Itr 0 _) F1 H1 g1 (itd_range (i := 0))
      simpa using w
    · exact hx.elim
  · exact hx.elim
theorem q_rng2 (hg : Gl X "range") (hm : X.mg "range" = none) (ha : PE X a (tOf X.K E (ev C xa))) (hb : PE X b (tOf X.K E (ev C xb))) (hs : starEach [a, b] X.env = [(false, eval a X.env), (false, eval b X.env)]) (hs2 : starEach [b] X.env = [(false, eval b X.env)]) :
    PI X tg (.Call (.Name "range" p) [a, b] [] pos) (tOfI X.K E (evI C (.rng2 xa xb))) := by
  refine pi_of (pi_range2 hg hm (pa_cons ha (pa_cons hb pa_nil hs2) (by rw [hs, hs2])) hs hs2) fun σ H Q h => ?_
  obtain ⟨ρ, F, R, h⟩ := h
  rw [evI.eq_3] at h
  refine ⟨ρ, F, R, AnsI.bind h fun x hx v F1 H1 g1 d1 => ?_⟩
  refine ⟨ρ, F1, R.grow g1, AnsI.bind (hx.grow g1) fun y hy w F2 H2 g2 d2 => ?_⟩
  split at hy
  · split at hy
    · rename_i hz
      rw [Bool.and_eq_true] at hz
      have z1 := small_of hz.1
      have z2 := small_of hz.2
      cases d1
      cases d2
      exact ⟨_, _, rfl, ⟨by omega, by omega, by omega, by omega⟩, hy (Itr _ _) F2 H2 g2 itd_range⟩
    · exact hy.elim
  · exact hy.elim
theorem zipL_get : ∀ {xs ys : List D} {i : Nat} {x y : D}, xs[i]? = some x → ys[i]? = some y → (zipL xs ys)[i]? = some (.tuple [x, y])
  | [], _, _, _, _, e, _ => by simp at e
  | _ :: _, [], _, _, _, _, e => by simp at e
  | a :: xs, b :: ys, 0, x, y, e1, e2 => by simp at e1 e2; subst e1; subst e2; rfl
  | a :: xs, b :: ys, i + 1, x, y, e1, e2 => by
    have := zipL_get (xs := xs) (ys := ys) (i := i) (x := x) (y := y) (by simpa using e1) (by simpa using e2)
    simpa [zipL] using this
theorem zipL_len : ∀ (xs ys : List D), (zipL xs ys).length = min xs.length ys.length
  | [], ys => by simp [zipL]
  | _ :: _, [] => by simp [zipL]
  | a :: xs, b :: ys => by simp [zipL, zipL_len xs ys]
theorem walk_zipT {a b : Addr} {xs ys : List V} {n : Nat} (hn : n = min xs.length ys.length) : Walk (ItzT K a b) n (fun H => SqT K H a xs ∧ SqT K H b ys) (YPair (fun i => xs[i]?) (fun i => ys[i]?)) := by
  refine ⟨fun i H hi h => ?_, fun H h => ?_, fun i H x H' hi h y => ?_⟩
  · have h1 : i < xs.length := by omega
    have h2 : i < ys.length := by omega
    exact ⟨xs, ys, xs[i], ys[i], h.1, h.2, by simp [h1], by simp [h2]⟩
  · refine ⟨xs, ys, h.1, h.2, ?_⟩
    omega
  · obtain ⟨T, x1, y1, e1, e2, e3, e4, e5⟩ := y
    exact ⟨T, x1, y1, e1, e2, e3, e4 xs h.1, e5 ys h.2⟩
theorem ypair_yd {G : Hp} {vs ws : List V} {ds es : List D} (t1 : DnAll K G vs ds) (t2 : DnAll K G ws es) {i : Nat} {H : Hp} {x : V} {H' : Hp} (y : YPair (fun i => vs[i]?) (fun i => ws[i]?) i H x H') : YD K G (zipL ds es) i H x H' := by
  obtain ⟨T, x1, y1, rfl, e2, rfl, e4, e5⟩ := y
  obtain ⟨d1, q1, r1⟩ := t1.get e4
  obtain ⟨d2, q2, r2⟩ := t2.get e5
  refine ⟨_, zipL_get q1 q2, fun F s1 s2 => ⟨_, Grow.new s2 e2, ?_⟩⟩
  have g : Same F (upd F T (.tup [x1, y1])) := same_new (s2.free e2)
  exact .tup (.inl (.inl upd_same)) (.cons (r1.mono (s1.trans g)) (.cons (r2.mono (s1.trans g)) .nil))
theorem q_zip {elts : List Expr} {kk : Nat} {tpos : Pos} (hg : Gl X "zip") (hm : X.mg "zip" = none) (ha : PE X a (tOf X.K E (ev C xa))) (hb : PE X b (tOf X.K E (ev C xb))) (hs : starEach [a, b] X.env = (false, eval a X.env) :: starEach [b] X.env) (hs2 : starEach [b] X.env = [(false, eval b X.env)]) :
    PI X (.Tuple elts kk tpos) (.Call (.Name "zip" p) [a, b] [] pos) (tOfI X.K E (evI C (.zip xa xb))) := by
  refine pi_of (pi_zipA hg hm (pa_cons ha (pa_cons hb pa_nil hs2) hs) hs (by rw [hs2]; rfl)) fun σ H Q h => ?_
  obtain ⟨ρ, F, R, h⟩ := h
  rw [evI.eq_5] at h
  refine ⟨ρ, F, R, AnsI.bind h fun x hx v F1 H1 g1 d1 => ?_⟩
  refine ⟨ρ, F1, R.grow g1, AnsI.bind (hx.grow g1) fun y hy w F2 H2 g2 d2 => ?_⟩
  have d1 := d1.grow g2
  have hy := hy.grow g2
  unfold zipR at hy
  split at hy
  · cases d1 with
    | tup r1 t1 =>
      cases d2 with
      | tup r2 t2 =>
        refine ⟨_, _, _, _, rfl, .inr ⟨same_t g2.sub r1, same_t g2.sub r2, hy _ F2 H2 (Grow.refl g2.sub) ?_⟩⟩
        unfold ItD
        rw [zipL_len, ← t1.length, ← t2.length]
        exact (walk_zipT rfl).mono (fun H s => ⟨same_t s r1, same_t s r2⟩) fun i H x H' hi s y => ypair_yd t1 t2 y
  · cases d1 with
    | lst r1 t1 =>
      cases d2 with
      | lst r2 t2 =>
        refine ⟨_, _, _, _, rfl, .inl ⟨.inl (.inl (g2.sub _ _ r1)), .inl (.inl (g2.sub _ _ r2)), hy _ F2 H2 (Grow.refl g2.sub) ?_⟩⟩
        unfold ItD
        rw [zipL_len, ← t1.length, ← t2.length]
        exact (walk_zip rfl).mono (fun H s => ⟨.inl (.inl (s _ _ r1)), .inl (.inl (s _ _ r2))⟩) fun i H x H' hi s y => ypair_yd t1 t2 y
  · exact hy.elim
end
end PP
set_option Elab.async false
set_option linter.all false
set_option autoImplicit false
set_option maxRecDepth 100000
set_option maxHeartbeats 1000000
namespace PP
open PySem L2
section
variable {K : PySem.W.Frag} {ρ : Sto} {σ : L2.St} {F H : Hp}
theorem get_set_some {α : Type} {l : List (Option α)} {i j : Nat} {x y : α} (h : (l.set i (some x))[j]? = some (some y)) : (j = i ∧ y = x) ∨ (j ≠ i ∧ l[j]? = some (some y)) := by
  by_cases e : i = j
  · subst e
    by_cases hl : i < l.length
    · rw [List.getElem?_set_self hl] at h; cases h; exact .inl ⟨rfl, rfl⟩
    · rw [List.getElem?_eq_none (by simpa using hl)] at h; cases h
  · rw [List.getElem?_set_ne e] at h
    exact .inr ⟨fun q => e q.symm, h⟩
theorem get_set_none {α : Type} {l : List (Option α)} {i j : Nat} {y : α} (h : (l.set i none)[j]? = some (some y)) : j ≠ i ∧ l[j]? = some (some y) := by
  by_cases e : i = j
  · subst e
    by_cases hl : i < l.length
    · rw [List.getElem?_set_self hl] at h; cases h
    · rw [List.getElem?_eq_none (by simpa using hl)] at h; cases h
  · rw [List.getElem?_set_ne e] at h
    exact ⟨fun q => e q.symm, h⟩
/-- a datum stored -/
theorem Rel.setD {i : Nat} {v : V} {x : D} (R : Rel K ρ σ F H) (d : Dn K F v x) : Rel K (ρ.set i (some (.d x))) (σ.set i (some v)) F H := by
  have hl := R.len
  refine ⟨by rw [List.length_set, List.length_set]; exact hl, R.sub, fun j r e => ?_, fun j k a xs ys e1 e2 o1 o2 e3 e4 => ?_⟩
  · rcases get_set_some e with ⟨rfl, rfl⟩ | ⟨hj, e⟩
    · have hi : j < ρ.length := by
        have := (List.getElem?_eq_some_iff.mp e).1
        simpa using this
      exact ⟨v, List.getElem?_set_self (by omega), d⟩
    · obtain ⟨w, q1, q2⟩ := R.slot j r e
      exact ⟨w, by rw [List.getElem?_set_ne (Ne.symm hj)]; exact q1, q2⟩
  · rcases get_set_some e1 with ⟨rfl, q⟩ | ⟨hj, e1⟩
    · subst q; cases o1
    · rcases get_set_some e2 with ⟨rfl, q⟩ | ⟨hk, e2⟩
      · subst q; cases o2
      · rw [List.getElem?_set_ne (Ne.symm hj)] at e3
        rw [List.getElem?_set_ne (Ne.symm hk)] at e4
        exact R.apart j k a xs ys e1 e2 o1 o2 e3 e4
/-- a name forgotten -/
theorem Rel.setN {i : Nat} (R : Rel K ρ σ F H) : Rel K (ρ.set i none) (σ.set i none) F H := by
  refine ⟨by rw [List.length_set, List.length_set]; exact R.len, R.sub, fun j r e => ?_, fun j k a xs ys e1 e2 o1 o2 e3 e4 => ?_⟩
  · obtain ⟨hj, e⟩ := get_set_none e
    obtain ⟨w, q1, q2⟩ := R.slot j r e
    exact ⟨w, by rw [List.getElem?_set_ne (Ne.symm hj)]; exact q1, q2⟩
  · obtain ⟨hj, e1⟩ := get_set_none e1
    obtain ⟨hk, e2⟩ := get_set_none e2
    rw [List.getElem?_set_ne (Ne.symm hj)] at e3
    rw [List.getElem?_set_ne (Ne.symm hk)] at e4
    exact R.apart j k a xs ys e1 e2 o1 o2 e3 e4
theorem Rel.wipe (R : Rel K ρ σ F H) : ∀ vs : List Nat, Rel K (wipeS ρ vs) (L2.wipe σ vs) F H
  | [] => R
  | v :: vs => (Rel.wipe R vs).setN
/-- the slots of a target -/
def setV : List Nat → List V → L2.St → L2.St
  | i :: is, v :: vs, σ => setV is vs (σ.set i (some v))
  | _, _, σ => σ
theorem setV_length : ∀ (is : List Nat) (vs : List V) (σ : L2.St), (setV is vs σ).length = σ.length
  | [], _, _ => by unfold setV; rfl
  | _ :: _, [], _ => by unfold setV; rfl
  | i :: is, v :: vs, σ => by unfold setV; rw [setV_length is vs, List.length_set]
theorem Rel.setAll : ∀ {is : List Nat} {vs : List V} {xs : List D} {ρ : Sto} {σ : L2.St}, Rel K ρ σ F H → DnAll K F vs xs → Rel K (setAll is xs ρ) (setV is vs σ) F H
  | [], vs, xs, ρ, σ, R, _ => by unfold PP.setAll setV; exact R
  | i :: is, _, _, ρ, σ, R, .nil => by unfold PP.setAll setV; exact R
  | i :: is, _, _, ρ, σ, R, .cons d t => by
    unfold PP.setAll setV
    exact Rel.setAll (R.setD d) t
end
/-- the reading of a target -/
def gNames (K : PySem.W.Frag) : Tg → TG
  | .nm i => gName i
  | .tp is => fun v σ H Q => ∃ a vs, v = .ref a ∧ SqT K H a vs ∧ vs.length = is.length ∧ Q (setV is vs σ) H
section
variable {X : Cx} {pos : Pos}
theorem pg_of {tg : Expr} {t t' : TG} (h : PG X tg t) (w : ∀ v σ H Q, t' v σ H Q → t v σ H Q) : PG X tg t' := ⟨fun pins s σ H v u Q I r q => h.run pins s σ H v u Q I r (w v σ H Q q)⟩
theorem pgs_of {ts : List Expr} {t t' : TGs} (h : PGs X ts t) (w : ∀ v σ H Q, t' v σ H Q → t v σ H Q) : PGs X ts t' := ⟨fun pins s σ H v u Q I r q => h.run pins s σ H v u Q I r (w v σ H Q q)⟩
def gAll (is : List Nat) : TGs := fun vs σ H Q => vs.length = is.length ∧ Q (setV is vs σ) H
theorem pgs_names_nil : PGs X [] (gAll []) := by
  refine pgs_of pgs_nil fun vs σ H Q h => ?_
  obtain ⟨h1, h2⟩ := h
  have e : vs = [] := List.length_eq_zero_iff.mp h1
  subst e
  exact ⟨rfl, by unfold setV at h2; exact h2⟩
theorem pgs_names_cons {i : Nat} {is : List Nat} {e : Expr} {es : List Expr} (h1 : PG X e (gName i)) (h2 : PGs X es (gAll is)) (hs : (assignEach (e :: es) X.env).map (·.2) = assign e X.env :: (assignEach es X.env).map (·.2)) : PGs X (e :: es) (gAll (i :: is)) := by
  refine pgs_of (pgs_cons h1 h2 hs) fun vs σ H Q h => ?_
  obtain ⟨e1, e2⟩ := h
  cases vs with
  | nil => cases e1
  | cons v vs => exact ⟨v, vs, rfl, by simpa using e1, by unfold setV at e2; exact e2⟩
theorem pg_names {is : List Nat} {es : List Expr} {k : Nat} (hc : X.calm = true) (h : PGs X es (gAll is)) (hn : (assignEach es X.env).length = is.length) (hst : (assignEach es X.env).findIdx? (·.1) = none) : PG X (.Tuple es k pos) (gNames X.K (.tp is)) := by
  refine pg_of (pg_tup (n := is.length) hc h hn hst) fun v σ H Q h => ?_
  obtain ⟨a, vs, e, s, l, q⟩ := h
  exact ⟨a, vs, e, s, l, l, q⟩
end
theorem wipe_get (σ : L2.St) (j : Nat) : ∀ vs : List Nat, (L2.wipe σ vs)[j]? = if j ∈ vs ∧ j < σ.length then some none else σ[j]?
  | [] => by simp [L2.wipe]
  | v :: vs => by
    unfold L2.wipe
    by_cases e : v = j
    · subst e
      by_cases h : v < σ.length
      · rw [List.getElem?_set_self (by rw [wipe_length]; exact h), if_pos ⟨List.mem_cons_self, h⟩]
      · rw [if_neg (fun q => h q.2), List.getElem?_eq_none (by rw [List.length_set, wipe_length]; omega), List.getElem?_eq_none (by omega)]
    · rw [List.getElem?_set_ne e, wipe_get σ j vs]
      have : (j ∈ v :: vs) ↔ j ∈ vs := by simp [Ne.symm e]
      simp only [this]
theorem setV_get (j : Nat) : ∀ (is : List Nat) (vs : List V) (σ : L2.St), j ∉ is → (setV is vs σ)[j]? = σ[j]?
  | [], _, _, _ => by unfold setV; rfl
  | _ :: _, [], _, _ => by unfold setV; rfl
  | i :: is, v :: vs, σ, h => by
    unfold setV
    rw [setV_get j is vs _ (fun q => h (List.mem_cons_of_mem _ q)), List.getElem?_set_ne (fun q => h (by rw [q]; exact List.mem_cons_self))]
theorem wipe_setV (is : List Nat) (vs : List V) (σ : L2.St) : L2.wipe (setV is vs (L2.wipe σ is)) is = L2.wipe σ is := by
  apply List.ext_getElem?
  intro j
  rw [wipe_get, setV_length, wipe_length]
  by_cases h : j ∈ is ∧ j < σ.length
  · rw [if_pos h, wipe_get, if_pos h]
  · rw [if_neg h]
    by_cases hj : j ∈ is
    · rw [List.getElem?_eq_none (by rw [setV_length, wipe_length]; exact Nat.le_of_not_lt fun q => h ⟨hj, q⟩), List.getElem?_eq_none (by rw [wipe_length]; exact Nat.le_of_not_lt fun q => h ⟨hj, q⟩)]
    · rw [setV_get j is vs _ hj]
theorem setV_one (i : Nat) (v : V) (σ : L2.St) : setV [i] [v] σ = σ.set i (some v) := by unfold setV; unfold setV; rfl
section
variable {K : PySem.W.Frag} {ρ ρ1 : Sto} {σ : L2.St} {F H : Hp}
/-- a target takes a datum -/
theorem g_names {t : Tg} {x : V} {d : D} {Q : L2.St → Hp → Prop} (R : Rel K ρ σ F H) (dn : Dn K F x d) (e : setT t d ρ = .ok ρ1)
    (k : ∀ σ1, Rel K ρ1 σ1 F H → (∃ vs, σ1 = setV t.own vs σ) → Q σ1 H) : gNames K t x σ H Q := by
  cases t with
  | nm i =>
    cases e
    exact k _ (R.setD dn) ⟨[x], (setV_one i x σ).symm⟩
  | tp is =>
    cases d with
    | tuple xs =>
      replace e : (if xs.length = is.length then Rs.ok (PP.setAll is xs ρ) else Rs.bad) = Rs.ok ρ1 := e
      by_cases hx : xs.length = is.length
      · rw [if_pos hx] at e
        cases e
        cases dn with
        | tup r t =>
          exact ⟨_, _, rfl, same_t R.sub r, t.length.trans hx, k _ (R.setAll t) ⟨_, rfl⟩⟩
      · rw [if_neg hx] at e; cases e
    | _ => cases e
/-- what stands between two turns of a comprehension -/
def LcInv (K : PySem.W.Frag) (F1 H1 : Hp) (D : Addr) (ys : List PP.D) (rest : Nat → Rs (List PP.D)) (i : Nat) (H : Hp) : Prop :=
  ∃ F acc ys1 ys2, Grow F1 H1 F H ∧ F D = none ∧ H D = some (.lst acc) ∧ DnAll K F acc ys1 ∧ rest i = .ok ys2 ∧ ys = ys1 ++ ys2 ∧ acc.length ≤ i
theorem lcL_cons {t : Tg} {c : Sto → Rs Bool} {e : Sto → Rs R} {x : D} {xs ys : List D} (h : lcL t c e ρ (x :: xs) = .ok ys) :
    ∃ ρ1 k, setT t x ρ = .ok ρ1 ∧ c ρ1 = .ok k ∧ ((k = false ∧ lcL t c e ρ xs = .ok ys) ∨ (k = true ∧ ∃ r y zs, e ρ1 = .ok r ∧ r.frz = .ok y ∧ lcL t c e ρ xs = .ok zs ∧ ys = y :: zs)) := by
  unfold lcL at h
  cases e1 : setT t x ρ with
  | bad => rw [e1] at h; cases h
  | err c => rw [e1] at h; cases h
  | ok ρ1 =>
    rw [e1] at h
    cases e2 : c ρ1 with
    | bad => simp [e2] at h
    | err c => simp [e2] at h
    | ok k =>
      simp only [bind_ok, e2] at h
      refine ⟨ρ1, k, rfl, e2, ?_⟩
      cases k with
      | false => exact .inl ⟨rfl, by simpa using h⟩
      | true =>
        simp only [if_true] at h
        cases e3 : e ρ1 with
        | bad => simp [e3] at h
        | err c => simp [e3] at h
        | ok r =>
          cases e4 : r.frz with
          | bad => simp [e3, e4] at h
          | err c => simp [e3, e4] at h
          | ok y =>
            cases e5 : lcL t c e ρ xs with
            | bad => simp [e3, e4, e5] at h
            | err c => simp [e3, e4, e5] at h
            | ok zs =>
              simp [e3, e4, e5] at h
              exact .inr ⟨rfl, r, y, zs, rfl, e4, rfl, h.symm⟩
end
abbrev E0 : EX := fun _ _ => False
section
variable {X : Cx} {E : EX} {K : PySem.W.Frag} {t : Tg} {c : Sto → Rs Bool} {e : Sto → Rs R} {fi : Sto → Rs (List D)}
/-- a comprehension's reading -/
theorem lc_of (tt : TT) (htt : ∀ ρ1 σ1 F H k Q, Rel K ρ1 σ1 F H → c ρ1 = .ok k → (∀ F' H', Grow F H F' H' → Q k H') → tt σ1 H Q) (n : Nat) :
    ∀ σ H Q, (∃ ρ F, Rel K ρ σ F H ∧ Ans K E (fi ρ >>= fun xs => fit xs.length (noErr (lcL t c e (wipeS ρ t.own) xs) >>= fun ys => .ok (.l ys))) F H Q) → tLc (tOfI K E fi) (gNames K t) tt (tOf K E0 e) t.own σ H Q := by
  rintro σ H Q ⟨ρ, F, R, h⟩
  refine ⟨ρ, F, R, ?_⟩
  cases e1 : fi ρ with
  | bad => rw [e1] at h; exact h
  | err c => rw [e1] at h; exact h
  | ok ds =>
    rw [e1] at h
    intro J F1 H1 g1 it D hD
    have h : Ans K E (fit ds.length (noErr (lcL t c e (wipeS ρ t.own) ds) >>= fun ys => .ok (.l ys))) F H Q := h
    obtain ⟨hz, h⟩ := h.fit
    cases e2 : lcL t c e (wipeS ρ t.own) ds with
    | bad => rw [e2] at h; exact h.elim
    | err c => rw [e2] at h; exact h.elim
    | ok ys =>
      rw [e2] at h
      have h : Ans K E (.ok (.l ys)) F H Q := h
      refine lc_it it (LcInv K F1 H1 D ys fun i => lcL t c e (wipeS ρ t.own) (ds.drop i)) ?_ (fun i H' _ p => ?_) (fun i x H' H2 hi p y => ?_) fun H' p => ?_
      · exact ⟨F1, [], [], ys, Grow.own g1.sub hD, g1.sub.free hD, upd_same, .nil, e2, rfl, Nat.le_refl _⟩
      · obtain ⟨F2, _, _, _, g, _⟩ := p
        exact g.fr.trans g.sub
      · obtain ⟨F2, acc, ys1, ys2, g2, fD, hD2, t2, er, ey, hacc⟩ := p
        obtain ⟨d, ed, hd⟩ := y
        obtain ⟨F3, g3, dn⟩ := hd F2 g2.fr g2.sub
        have edrop : ds.drop i = d :: ds.drop (i + 1) := by
          obtain ⟨hi', e'⟩ := List.getElem?_eq_some_iff.mp ed
          rw [List.drop_eq_getElem_cons hi', e']
        simp only [edrop] at er
        obtain ⟨ρ1, k, q1, q2, q3⟩ := lcL_cons er
        have R1 : Rel K (wipeS ρ t.own) (L2.wipe σ t.own) F3 H2 := (((R.grow g1).grow g2).grow g3).wipe t.own
        refine g_names R1 dn q1 fun σ1 R2 hσ => ⟨?_, ?_⟩
        · obtain ⟨vs, rfl⟩ := hσ
          exact wipe_setV _ _ _
        · have fD3 : F3 D = none := (g3.old D _ hD2).trans fD
          have hD3 : H2 D = some (.lst acc) := g3.hp _ _ hD2
          refine htt ρ1 σ1 F3 H2 k _ R2 q2 fun F4 H4 g4 => ?_
          have fD4 : F4 D = none := (g4.old D _ hD3).trans fD3
          have hD4 : H4 D = some (.lst acc) := g4.hp _ _ hD3
          have gA : Grow F1 H1 F4 H4 := (g2.trans g3).trans g4
          rcases q3 with ⟨rfl, er2⟩ | ⟨rfl, r, z, zs, e3, e4, e5, e6⟩
          · exact ⟨F4, acc, ys1, ys2, gA, fD4, hD4, t2.mono (g3.fr.trans g4.fr), er2, ey, by omega⟩
          · refine ⟨ρ1, F4, R2.grow g4, ?_⟩
            rw [e3]
            intro v F5 H5 g5 d5
            obtain ⟨F6, g6, s6, dn6⟩ := frz1 g5 (Same.refl F5) d5 e4
            have fD6 : F6 D = none := (g6.old D _ hD4).trans fD4
            have hD6 : H5 D = some (.lst acc) := g6.hp _ _ hD4
            have gB := gA.trans g6
            refine ⟨acc, hD6, by have := hz; have : lim < sizeLine := by decide
                                 omega, F6, acc ++ [v], ys1 ++ [z], zs, ⟨gB.fr, fun b o q => ?_, fun b o q => ?_, gB.old⟩, fD6, upd_same, ((t2.mono (g3.fr.trans g4.fr)).mono g6.fr).append (.cons dn6 .nil), e5, by rw [ey, e6]; simp, by rw [List.length_append]; simp; omega⟩
            · rw [upd_ne (ne_of_none q hD)]; exact gB.hp b o q
            · rw [upd_ne (fun z => by rw [z, fD6] at q; cases q)]; exact gB.sub b o q
      · obtain ⟨F2, acc, ys1, ys2, g2, fD, hD2, t2, er, ey, hacc⟩ := p
        simp only [List.drop_length] at er
        cases er
        rw [List.append_nil] at ey
        subst ey
        exact h _ F2 H' (g1.trans g2) ⟨D, acc, rfl, g1.hp.free hD, fD, hD2, t2⟩
end
end PP
set_option Elab.async false
set_option linter.all false
set_option autoImplicit false
set_option maxRecDepth 100000
set_option maxHeartbeats 1000000
namespace PP
open PySem L2
section
variable {X : Cx} {E : EX} {C : Nat → List R → Rs R} {t : Tg} {it : It} {xe xc : Ex} {elt tg iter cnd : Expr} {scope : Scope} {own : List (Str × Nat)} {pos : Pos}
theorem tLc_of : ∀ σ H Q, tOf X.K E (ev C (.lc t it xe)) σ H Q → tLc (tOfI X.K E (evI C it)) (gNames X.K t) tYes (tOf X.K E0 (ev C xe)) t.own σ H Q := by
  rintro σ H Q ⟨ρ, F, R, h⟩
  rw [ev.eq_20] at h
  exact lc_of (c := fun _ => .ok true) tYes (fun ρ1 σ1 F H k Q R e h => by cases e; exact h F H (Grow.refl R.sub)) 0 σ H Q ⟨ρ, F, R, h⟩
theorem tLcf_of : ∀ σ H Q, tOf X.K E (ev C (.lcf t it xc xe)) σ H Q → tLc (tOfI X.K E (evI C it)) (gNames X.K t) (tOfT X.K E0 (evT C xc)) (tOf X.K E0 (ev C xe)) t.own σ H Q := by
  rintro σ H Q ⟨ρ, F, R, h⟩
  rw [ev.eq_21] at h
  exact lc_of (c := evT C xc) (tOfT X.K E0 (evT C xc)) (fun ρ1 σ1 F H k Q R e h => ⟨ρ1, F, R, by rw [e]; exact h⟩) 0 σ H Q ⟨ρ, F, R, h⟩
theorem q_lc (hc : X.calm = true) (hN : X.N.Nodup) (hi : PI X tg iter (tOfI X.K E (evI C it))) (ok : BlkOk X.N X.env.scope scope own) (ho : own.map (·.2) = t.own)
    (hg : ∀ (s : Shared) (H : Hp) (C : Addr) (cl : List (Str × Addr)) (fp : List Addr), PG (X.blk s H scope (compEnvC scope cl C X.env) fp) tg (gNames X.K t))
    (he : ∀ (s : Shared) (H : Hp) (A : Addr) (cl : List (Str × Addr)) (fp : List Addr), PE (X.blk s H scope (compEnvC scope cl A X.env) fp) elt (tOf X.K E0 (ev C xe))) (hs : ∀ x, foldedSetIterable iter X.env x = pure x) :
    PE X (.ListComp elt [⟨tg, iter, [], 0⟩] scope pos) (tOf X.K E (ev C (.lc t it xe))) := by
  refine pe_of (pe_lc hc hN hi ok hg (fun _ _ _ _ _ => pts_nil) he hs) fun σ H Q h => ?_
  rw [ho]
  exact tLc_of σ H Q h
theorem q_lcf (hc : X.calm = true) (hN : X.N.Nodup) (hi : PI X tg iter (tOfI X.K E (evI C it))) (ok : BlkOk X.N X.env.scope scope own) (ho : own.map (·.2) = t.own)
    (hg : ∀ (s : Shared) (H : Hp) (C : Addr) (cl : List (Str × Addr)) (fp : List Addr), PG (X.blk s H scope (compEnvC scope cl C X.env) fp) tg (gNames X.K t))
    (hcn : ∀ (s : Shared) (H : Hp) (A : Addr) (cl : List (Str × Addr)) (fp : List Addr), PT (X.blk s H scope (compEnvC scope cl A X.env) fp) cnd (tOfT X.K E0 (evT C xc)))
    (he : ∀ (s : Shared) (H : Hp) (A : Addr) (cl : List (Str × Addr)) (fp : List Addr), PE (X.blk s H scope (compEnvC scope cl A X.env) fp) elt (tOf X.K E0 (ev C xe))) (hs : ∀ x, foldedSetIterable iter X.env x = pure x) :
    PE X (.ListComp elt [⟨tg, iter, [cnd], 0⟩] scope pos) (tOf X.K E (ev C (.lcf t it xc xe))) := by
  refine pe_of (pe_lc hc hN hi ok hg (fun s H A cl fp => pts_one (hcn s H A cl fp)) he hs) fun σ H Q h => ?_
  rw [ho]
  exact tLcf_of σ H Q h
theorem ps_of {st : Stmt} {t t' : TS} (h : PS X st t) (w : ∀ D σ H, t' D σ H → t D σ H) : PS X st t' := ⟨fun pins s σ H D I q => h.run pins s σ H D I (w D σ H q)⟩
theorem pss_of {st : List Stmt} {t t' : TS} (h : PSs X st t) (w : ∀ D σ H, t' D σ H → t D σ H) : PSs X st t' := ⟨fun pins s σ H D I q => h.run pins s σ H D I (w D σ H q)⟩
/-- y = [..] -/
theorem q_setLc {i : Nat} {y : Str} {py spos : Pos} (hc : X.calm = true) (hN : X.N.Nodup) (hy : X.N[i]? = some y) (hyl : X.env.scope.names.lookup y = some .local) (hsw : swapsWith (.ListComp elt [⟨tg, iter, [], 0⟩] scope pos) (some (.Name y py)) spos.line X.env = pure true)
    (hi : PI X tg iter (tOfI X.K E (evI C it))) (ok : BlkOk X.N X.env.scope scope own) (ho : own.map (·.2) = t.own)
    (hg : ∀ (s : Shared) (H : Hp) (C : Addr) (cl : List (Str × Addr)) (fp : List Addr), PG (X.blk s H scope (compEnvC scope cl C X.env) fp) tg (gNames X.K t))
    (he : ∀ (s : Shared) (H : Hp) (A : Addr) (cl : List (Str × Addr)) (fp : List Addr), PE (X.blk s H scope (compEnvC scope cl A X.env) fp) elt (tOf X.K E0 (ev C xe))) (hs : ∀ x, foldedSetIterable iter X.env x = pure x) :
    PS X (.Assign [.Name y py] (.ListComp elt [⟨tg, iter, [], 0⟩] scope pos) spos) (tAsg (tOf X.K E (ev C (.lc t it xe))) (gName i)) := by
  refine ps_of (ps_setLc hc hN hy hyl hsw hi ok hg (fun _ _ _ _ _ => pts_nil) he hs) fun D σ H h => ?_
  rw [ho]
  exact tLc_of σ H _ h
theorem q_setLcf {i : Nat} {y : Str} {py spos : Pos} (hc : X.calm = true) (hN : X.N.Nodup) (hy : X.N[i]? = some y) (hyl : X.env.scope.names.lookup y = some .local) (hsw : swapsWith (.ListComp elt [⟨tg, iter, [cnd], 0⟩] scope pos) (some (.Name y py)) spos.line X.env = pure true)
    (hi : PI X tg iter (tOfI X.K E (evI C it))) (ok : BlkOk X.N X.env.scope scope own) (ho : own.map (·.2) = t.own)
    (hg : ∀ (s : Shared) (H : Hp) (C : Addr) (cl : List (Str × Addr)) (fp : List Addr), PG (X.blk s H scope (compEnvC scope cl C X.env) fp) tg (gNames X.K t))
    (hcn : ∀ (s : Shared) (H : Hp) (A : Addr) (cl : List (Str × Addr)) (fp : List Addr), PT (X.blk s H scope (compEnvC scope cl A X.env) fp) cnd (tOfT X.K E0 (evT C xc)))
    (he : ∀ (s : Shared) (H : Hp) (A : Addr) (cl : List (Str × Addr)) (fp : List Addr), PE (X.blk s H scope (compEnvC scope cl A X.env) fp) elt (tOf X.K E0 (ev C xe))) (hs : ∀ x, foldedSetIterable iter X.env x = pure x) :
    PS X (.Assign [.Name y py] (.ListComp elt [⟨tg, iter, [cnd], 0⟩] scope pos) spos) (tAsg (tOf X.K E (ev C (.lcf t it xc xe))) (gName i)) := by
  refine ps_of (ps_setLc hc hN hy hyl hsw hi ok hg (fun s H A cl fp => pts_one (hcn s H A cl fp)) he hs) fun D σ H h => ?_
  rw [ho]
  exact tLcf_of σ H _ h
end
structure RelS (K : PySem.W.Frag) (B F0 : Hp) (ρ : Sto) (σ : L2.St) (F H : Hp) : Prop where
  rel : Rel K ρ σ F H
  grow : Grow F0 B F H
  own : ∀ (i : Nat) r a, ρ[i]? = some (some r) → r.isOwn = true → σ[i]? = some (some (.ref a)) → B a = none
def AnsS (K : PySem.W.Frag) (E : EX) (m : Rs Out) (F0 B : Hp) (D : Ends) : Prop :=
  match m with
  | .bad => False
  | .err c => ∀ F' H', Grow F0 B F' H' → E c H'
  | .ok (.nx ρ) => ∀ σ F H, RelS K B F0 ρ σ F H → D.nx σ H
  | .ok (.rt r) => ∀ v F H, Grow F0 B F H → Den K B F H v r → D.rt v H
def tOfS (K : PySem.W.Frag) (E : EX) (f : Sto → Rs Out) : TS := fun D σ H => ∃ ρ F B F0, RelS K B F0 ρ σ F H ∧ AnsS K E (f ρ) F0 B D
section
variable {K : PySem.W.Frag} {E : EX} {B F0 F H F' H' : Hp} {ρ : Sto} {σ : L2.St} {D : Ends}
theorem RelS.more (R : RelS K B F0 ρ σ F H) (g : Grow F H F' H') : RelS K B F0 ρ σ F' H' := ⟨R.rel.grow g, R.grow.trans g, R.own⟩
theorem AnsS.bindE {m : Rs R} {k : R → Rs Out} {Q1 : VK} (h : AnsS K E (m >>= k) F0 B D) (g : Grow F0 B F H)
    (hk : ∀ x, AnsS K E (k x) F0 B D → ∀ v F1 H1, Grow F H F1 H1 → Den K H F1 H1 v x → Q1 v H1) : Ans K E m F H Q1 := by
  cases m with
  | bad => exact h
  | err c => exact fun F' H' g' => h F' H' (g.trans g')
  | ok r => exact hk r h
theorem AnsS.bindT {m : Rs Bool} {k : Bool → Rs Out} {Q1 : Bool → Hp → Prop} (h : AnsS K E (m >>= k) F0 B D) (g : Grow F0 B F H)
    (hk : ∀ x, AnsS K E (k x) F0 B D → ∀ F1 H1, Grow F H F1 H1 → Q1 x H1) : AnsT E m F H Q1 := by
  cases m with
  | bad => exact h
  | err c => exact fun F' H' g' => h F' H' (g.trans g')
  | ok r => exact hk r h
theorem AnsS.bindA {m : Rs (List R)} {k : List R → Rs Out} {Q1 : List V → Hp → Prop} (h : AnsS K E (m >>= k) F0 B D) (g : Grow F0 B F H)
    (hk : ∀ x, AnsS K E (k x) F0 B D → ∀ vs F1 H1, Grow F H F1 H1 → DenAll K H F1 H1 vs x → Q1 vs H1) : AnsA K E m F H Q1 := by
  cases m with
  | bad => exact h
  | err c => exact fun F' H' g' => h F' H' (g.trans g')
  | ok r => exact hk r h
theorem AnsS.bindI {m : Rs (List PP.D)} {k : List PP.D → Rs Out} {Q1 : L2.It → Hp → Prop} (h : AnsS K E (m >>= k) F0 B D) (g : Grow F0 B F H)
    (hk : ∀ x, AnsS K E (k x) F0 B D → ∀ J F1 H1, Grow F H F1 H1 → ItD K F1 J x → Q1 J H1) : AnsI K E m F H Q1 := by
  cases m with
  | bad => exact h
  | err c => exact fun F' H' g' => h F' H' (g.trans g')
  | ok r => exact hk r h
theorem AnsS.okD {α : Type} {m : Rs α} {k : α → Rs Out} (h : AnsS K E (m >>= k) F0 B D) (ne : ∀ c, m ≠ .err c) : ∃ x, m = .ok x ∧ AnsS K E (k x) F0 B D := by
  cases m with
  | bad => exact h.elim
  | err c => exact absurd rfl (ne c)
  | ok x => exact ⟨x, rfl, h⟩
theorem frz_ne (r : R) (c : Nat) : r.frz ≠ .err c := by cases r <;> intro e <;> cases e
theorem setT_ne (t : Tg) (x : PP.D) (ρ : Sto) (c : Nat) : setT t x ρ ≠ .err c := by
  cases t with
  | nm i => intro e; cases e
  | tp is =>
    cases x with
    | tuple xs =>
      intro e
      replace e : (if xs.length = is.length then Rs.ok (setAll is xs ρ) else Rs.bad) = Rs.err c := e
      split at e <;> cases e
    | _ => intro e; cases e
theorem own_setR {i : Nat} {x : R} (hx : x.isOwn = false) (R : ∀ (i : Nat) r a, ρ[i]? = some (some r) → r.isOwn = true → σ[i]? = some (some (.ref a)) → B a = none) (v : V) : ∀ (j : Nat) r a, (ρ.set i (some x))[j]? = some (some r) → r.isOwn = true → (σ.set i (some v))[j]? = some (some (.ref a)) → B a = none := by
  intro j xs a e1 o1 e2
  rcases get_set_some e1 with ⟨_, q⟩ | ⟨hj, e1⟩
  · subst q; rw [hx] at o1; cases o1
  · rw [List.getElem?_set_ne (Ne.symm hj)] at e2
    exact R j xs a e1 o1 e2
theorem own_set {i : Nat} {x : PP.D} (R : ∀ (i : Nat) r a, ρ[i]? = some (some r) → r.isOwn = true → σ[i]? = some (some (.ref a)) → B a = none) (v : V) : ∀ (j : Nat) r a, (ρ.set i (some (.d x)))[j]? = some (some r) → r.isOwn = true → (σ.set i (some v))[j]? = some (some (.ref a)) → B a = none := own_setR rfl R v
theorem own_setAll : ∀ {is : List Nat} {vs : List V} {xs : List PP.D} {ρ : Sto} {σ : L2.St}, vs.length = xs.length → (∀ (i : Nat) r a, ρ[i]? = some (some r) → r.isOwn = true → σ[i]? = some (some (.ref a)) → B a = none) →
    ∀ (j : Nat) r a, (setAll is xs ρ)[j]? = some (some r) → r.isOwn = true → (setV is vs σ)[j]? = some (some (.ref a)) → B a = none
  | [], vs, xs, ρ, σ, _, R => by unfold setAll setV; exact R
  | i :: is, [], [], ρ, σ, _, R => by unfold setAll setV; exact R
  | i :: is, v :: vs, x :: xs, ρ, σ, hl, R => by
    unfold setAll setV
    exact own_setAll (by simpa using hl) (own_set R v)
  | i :: is, [], x :: xs, ρ, σ, hl, R => by cases hl
  | i :: is, v :: vs, [], ρ, σ, hl, R => by cases hl
/-- a target takes a datum, between statements -/
theorem gs_names {t : Tg} {x : V} {d : PP.D} {ρ1 : Sto} {Q : L2.St → Hp → Prop} (R : RelS K B F0 ρ σ F H) (dn : Dn K F x d) (e : setT t d ρ = .ok ρ1) (k : ∀ σ1, RelS K B F0 ρ1 σ1 F H → Q σ1 H) : gNames K t x σ H Q := by
  cases t with
  | nm i =>
    cases e
    exact k _ ⟨R.rel.setD dn, R.grow, own_set R.own x⟩
  | tp is =>
    cases d with
    | tuple xs =>
      replace e : (if xs.length = is.length then Rs.ok (PP.setAll is xs ρ) else Rs.bad) = Rs.ok ρ1 := e
      by_cases hx : xs.length = is.length
      · rw [if_pos hx] at e
        cases e
        cases dn with
        | tup r t => exact ⟨_, _, rfl, same_t R.rel.sub r, t.length.trans hx, k _ ⟨R.rel.setAll t, R.grow, own_setAll t.length R.own⟩⟩
      · rw [if_neg hx] at e; cases e
    | _ => cases e
/-- what an own thing is made of -/
def OwnOk (K : PySem.W.Frag) (F : Hp) : R → HO → Prop
  | .l xs, o => ∃ vs, o = .lst vs ∧ DnAll K F vs xs
  | .n kvs, o => ∃ ps, o = .dT ps ∧ KD K F ps kvs
  | _, _ => False
theorem OwnOk.own {r : R} {o : HO} (h : OwnOk K F r o) : r.isOwn = true := by
  cases r <;> first | rfl | exact h.elim
theorem OwnOk.sl {r : R} {o : HO} {a : Addr} (h : OwnOk K F r o) (hf : F a = none) (hh : H a = some o) : SlOk K F H r (.ref a) := by
  cases r with
  | l xs => obtain ⟨vs, rfl, t⟩ := h; exact ⟨a, vs, rfl, hf, hh, t⟩
  | n xs => obtain ⟨vs, rfl, t⟩ := h; exact ⟨a, vs, rfl, hf, hh, t⟩
  | _ => exact h.elim
theorem SlOk.ownAt {r : R} {v : V} (h : SlOk K F H r v) (ho : r.isOwn = true) : ∃ a o, v = .ref a ∧ F a = none ∧ H a = some o ∧ OwnOk K F r o := by
  cases r with
  | l xs => obtain ⟨a, vs, e, hf, hh, t⟩ := h; exact ⟨a, _, e, hf, hh, vs, rfl, t⟩
  | n xs => obtain ⟨a, vs, e, hf, hh, t⟩ := h; exact ⟨a, _, e, hf, hh, vs, rfl, t⟩
  | _ => cases ho
theorem SlOk.still {r : R} {v : V} (h : SlOk K F H r v) (ho : r.isOwn = false) : SlOk K F H' r v := by
  cases r with
  | l xs => cases ho
  | n xs => cases ho
  | _ => exact h
theorem OwnOk.mono (e : Same F F') {r : R} {o : HO} (h : OwnOk K F r o) : OwnOk K F' r o := by
  cases r with
  | l xs => obtain ⟨vs, rfl, t⟩ := h; exact ⟨vs, rfl, t.mono e⟩
  | n xs => obtain ⟨vs, rfl, t⟩ := h; exact ⟨vs, rfl, t.mono e⟩
  | _ => exact h.elim
theorem SlOk.monoF {r : R} {v : V} (s : Same F F') (h : SlOk K F H r v) (ho : r.isOwn = false) : SlOk K F' H r v := by
  cases r with
  | d x => exact Dn.mono s h
  | l xs => cases ho
  | n xs => cases ho
  | b xs => exact h
  | q => exact h
  | o us => exact h
  | s us => obtain ⟨b, vs2, rfl, h2, t2⟩ := h; exact ⟨b, vs2, rfl, same_l s h2, t2.mono s⟩
  | m us => obtain ⟨b, vs2, rfl, h2, t2⟩ := h; exact ⟨b, vs2, rfl, s _ _ h2, t2.mono s⟩
  | t us => obtain ⟨b, vs2, rfl, h2, t2⟩ := h; exact ⟨b, vs2, rfl, s _ _ h2, t2.mono s⟩
/-- a slot gets a thing of its own -/
theorem RelS.setO {i : Nat} {a : Addr} {x : R} {o : HO} (R : RelS K B F0 ρ σ F H) (hb : B a = none) (hf : F a = none) (hh : H a = some o) (t : OwnOk K F x o)
    (hne : ∀ (j : Nat) r, j ≠ i → ρ[j]? = some (some r) → r.isOwn = true → σ[j]? ≠ some (some (.ref a))) : RelS K B F0 (ρ.set i (some x)) (σ.set i (some (.ref a))) F H := by
  have hl := R.rel.len
  by_cases hi : i < ρ.length
  rotate_left
  · rw [List.set_eq_of_length_le (by omega), List.set_eq_of_length_le (by omega)]
    exact R
  refine ⟨⟨by rw [List.length_set, List.length_set]; exact hl, R.rel.sub, fun j r e => ?_, fun j k b ys zs e1 e2 o1 o2 e3 e4 => ?_⟩, R.grow, fun j ys b e1 o1 e2 => ?_⟩
  · rcases get_set_some e with ⟨rfl, rfl⟩ | ⟨hj, e⟩
    · exact ⟨.ref a, List.getElem?_set_self (by omega), t.sl hf hh⟩
    · obtain ⟨w, q1, q2⟩ := R.rel.slot j r e
      exact ⟨w, by rw [List.getElem?_set_ne (Ne.symm hj)]; exact q1, q2⟩
  · rcases get_set_some e1 with ⟨rfl, _⟩ | ⟨hj, f1⟩
    · rcases get_set_some e2 with ⟨rfl, _⟩ | ⟨hk, e2⟩
      · rfl
      · rw [List.getElem?_set_self (by omega)] at e3
        rw [List.getElem?_set_ne (Ne.symm hk)] at e4
        cases e3
        exact absurd e4 (hne k zs hk e2 o2)
    · rcases get_set_some e2 with ⟨rfl, _⟩ | ⟨hk, e2⟩
      · rw [List.getElem?_set_self (by omega)] at e4
        rw [List.getElem?_set_ne (Ne.symm hj)] at e3
        cases e4
        exact absurd e3 (hne j ys hj f1 o1)
      · rw [List.getElem?_set_ne (Ne.symm hj)] at e3
        rw [List.getElem?_set_ne (Ne.symm hk)] at e4
        exact R.rel.apart j k b ys zs f1 e2 o1 o2 e3 e4
  · rcases get_set_some e1 with ⟨rfl, _⟩ | ⟨hj, e1⟩
    · rw [List.getElem?_set_self (by omega)] at e2
      cases e2
      exact hb
    · rw [List.getElem?_set_ne (Ne.symm hj)] at e2
      exact R.own j ys b e1 o1 e2
theorem RelS.setL {i : Nat} {a : Addr} {vs : List V} {xs : List PP.D} (R : RelS K B F0 ρ σ F H) (hb : B a = none) (hf : F a = none) (hh : H a = some (.lst vs)) (t : DnAll K F vs xs)
    (hne : ∀ (j : Nat) r, j ≠ i → ρ[j]? = some (some r) → r.isOwn = true → σ[j]? ≠ some (some (.ref a))) : RelS K B F0 (ρ.set i (some (.l xs))) (σ.set i (some (.ref a))) F H :=
  R.setO hb hf hh (x := .l xs) ⟨vs, rfl, t⟩ hne
/-- an own thing changes -/
theorem RelS.mutO {i : Nat} {a : Addr} {o : HO} {x y : R} (R : RelS K B F0 ρ σ F H) (e : ρ[i]? = some (some x)) (ox : x.isOwn = true) (es : σ[i]? = some (some (.ref a))) (hf : F a = none) (t : OwnOk K F y o) :
    RelS K B F0 (ρ.set i (some y)) σ F (upd H a o) := by
  have hb := R.own i x a e ox es
  have sub : Same F (upd H a o) := fun b o q => by rw [upd_ne (fun z => by rw [z, hf] at q; cases q)]; exact R.rel.sub b o q
  have hi : i < ρ.length := (List.getElem?_eq_some_iff.mp e).1
  refine ⟨⟨by rw [List.length_set]; exact R.rel.len, sub, fun j r ej => ?_, fun j k b us zs e1 e2 o1 o2 e3 e4 => ?_⟩, ⟨R.grow.fr, fun b o q => by rw [upd_ne (fun z => by rw [z, hb] at q; cases q)]; exact R.grow.hp b o q, sub, R.grow.old⟩, fun j us b e1 o1 e2 => ?_⟩
  · rcases get_set_some ej with ⟨rfl, rfl⟩ | ⟨hj, ej⟩
    · exact ⟨.ref a, es, t.sl hf upd_same⟩
    · obtain ⟨w, q1, q2⟩ := R.rel.slot j r ej
      refine ⟨w, q1, ?_⟩
      cases or : r.isOwn with
      | false => exact q2.still or
      | true =>
        obtain ⟨b, o2, rfl, f2, h2, t2⟩ := q2.ownAt or
        have ne : b ≠ a := fun z => by subst z; exact hj (R.rel.apart j i b r x ej e or ox q1 es)
        exact t2.sl f2 (by rw [upd_ne ne]; exact h2)
  · have g1 : ∃ us', ρ[j]? = some (some us') ∧ us'.isOwn = true := by
      rcases get_set_some e1 with ⟨rfl, _⟩ | ⟨_, q⟩
      · exact ⟨x, e, ox⟩
      · exact ⟨us, q, o1⟩
    have g2 : ∃ zs', ρ[k]? = some (some zs') ∧ zs'.isOwn = true := by
      rcases get_set_some e2 with ⟨rfl, _⟩ | ⟨_, q⟩
      · exact ⟨x, e, ox⟩
      · exact ⟨zs, q, o2⟩
    obtain ⟨_, g1, p1⟩ := g1
    obtain ⟨_, g2, p2⟩ := g2
    exact R.rel.apart j k b _ _ g1 g2 p1 p2 e3 e4
  · rcases get_set_some e1 with ⟨rfl, _⟩ | ⟨_, q⟩
    · exact R.own j x b e ox e2
    · exact R.own j us b q o1 e2
theorem RelS.mut {i : Nat} {a : Addr} {vs ws : List V} {xs ys : List PP.D} (R : RelS K B F0 ρ σ F H) (e : ρ[i]? = some (some (.l xs))) (es : σ[i]? = some (some (.ref a))) (hf : F a = none) (hh : H a = some (.lst vs)) (t : DnAll K F ws ys) :
    RelS K B F0 (ρ.set i (some (.l ys))) σ F (upd H a (.lst ws)) := R.mutO e rfl es hf (y := .l ys) ⟨ws, rfl, t⟩
/-- an own thing is frozen -/
theorem RelS.freezeO {i : Nat} {x y : R} (R : RelS K B F0 ρ σ F H) (e : ρ[i]? = some (some x)) (ox : x.isOwn = true) (oy : y.isOwn = false)
    (hy : ∀ (F' : Hp) a o, Same F F' → F' a = some o → OwnOk K F x o → SlOk K F' H y (.ref a)) : ∃ F', RelS K B F0 (ρ.set i (some y)) σ F' H := by
  obtain ⟨v, es, q0⟩ := R.rel.slot i _ e
  obtain ⟨a, o, rfl, hf, hh, t⟩ := q0.ownAt ox
  have hb := R.own i x a e ox es
  have g : Grow F0 B (upd F a o) H := R.grow.freeze hb hf hh
  have s : Same F (upd F a o) := same_new hf
  refine ⟨upd F a o, ⟨by rw [List.length_set]; exact R.rel.len, g.sub, fun j r ej => ?_, fun j k b us zs e1 e2 o1 o2 e3 e4 => ?_⟩, g, fun j us b e1 o1 e2 => ?_⟩
  · rcases get_set_some ej with ⟨rfl, rfl⟩ | ⟨hj, ej⟩
    · exact ⟨.ref a, es, hy _ a o s upd_same t⟩
    · obtain ⟨w, q1, q2⟩ := R.rel.slot j r ej
      refine ⟨w, q1, ?_⟩
      cases or : r.isOwn with
      | false => exact q2.monoF s or
      | true =>
        obtain ⟨b, o2, rfl, f2, h2, t2⟩ := q2.ownAt or
        have ne : b ≠ a := fun z => by subst z; exact hj (R.rel.apart j i b r x ej e or ox q1 es)
        exact (t2.mono s).sl (by rw [upd_ne ne]; exact f2) h2
  · rcases get_set_some e1 with ⟨rfl, q⟩ | ⟨_, q1⟩
    · subst q; rw [oy] at o1; cases o1
    · rcases get_set_some e2 with ⟨rfl, q⟩ | ⟨_, q2⟩
      · subst q; rw [oy] at o2; cases o2
      · exact R.rel.apart j k b us zs q1 q2 o1 o2 e3 e4
  · rcases get_set_some e1 with ⟨rfl, q⟩ | ⟨_, q⟩
    · subst q; rw [oy] at o1; cases o1
    · exact R.own j us b q o1 e2
theorem RelS.freeze {i : Nat} {xs : List PP.D} (R : RelS K B F0 ρ σ F H) (e : ρ[i]? = some (some (.l xs))) : ∃ F', RelS K B F0 (ρ.set i (some (.d (.list xs)))) σ F' H :=
  R.freezeO e rfl rfl fun F' a o s h t => by obtain ⟨vs, rfl, t⟩ := t; exact .lst h (t.mono s)
end
end PP
set_option Elab.async false
set_option linter.all false
set_option autoImplicit false
set_option maxRecDepth 100000
set_option maxHeartbeats 1000000
namespace PP
open PySem L2
section
variable {X : Cx} {E : EX} {C : Nat → List R → Rs R} {t : Tg} {it : It} {x xc : Ex} {pos : Pos} {st : Stmt}
theorem s_asg {g : TG} (h : PS X st (tAsg (tOf X.K E (ev C x)) g)) (hg : ∀ v σ H Q, gNames X.K t v σ H Q → g v σ H Q) : PS X st (tOfS X.K E (x1 C (.asg t x))) := by
  refine ps_of h fun D σ H h => ?_
  obtain ⟨ρ, F, B, F0, R, h⟩ := h
  rw [x1.eq_1] at h
  refine ⟨ρ, F, R.rel, AnsS.bindE h R.grow fun r hr v F1 H1 g1 d1 => ?_⟩
  obtain ⟨d, e1, h⟩ := AnsS.okD hr (frz_ne r)
  obtain ⟨ρ1, e2, h⟩ := AnsS.okD h (setT_ne t d ρ)
  obtain ⟨F2, g2, s2, dn⟩ := frz1 g1 (Same.refl F1) d1 e1
  exact hg v σ H1 _ (gs_names (R.more g2) dn e2 fun σ1 R1 => h σ1 F2 H1 R1)
theorem s_own {i : Nat} (h : PS X st (tAsg (tOf X.K E (ev C x)) (gName i))) : PS X st (tOfS X.K E (x1 C (.own i x))) := by
  refine ps_of h fun D σ H h => ?_
  obtain ⟨ρ, F, B, F0, R, h⟩ := h
  rw [x1.eq_2] at h
  refine ⟨ρ, F, R.rel, AnsS.bindE h R.grow fun r hr v F1 H1 g1 d1 => ?_⟩
  unfold ownS at hr
  split at hr
  · obtain ⟨a, vs, rfl, h0, hf, hh, t⟩ := d1
    refine hr _ F1 H1 ((R.more g1).setL (R.grow.hp.free h0) hf hh t fun j ys _ ej oj es => ?_)
    obtain ⟨w, q1, qq⟩ := R.rel.slot j _ ej
    obtain ⟨b, o2, rfl, f2, h2, t2⟩ := qq.ownAt oj
    rw [q1] at es
    cases es
    rw [h2] at h0
    cases h0
  · exact hr.elim
theorem frzAll_ne : ∀ (rs : List R) (c : Nat), frzAll rs ≠ .err c
  | [], c => by intro e; cases e
  | r :: rs, c => by
    intro e
    unfold frzAll mapR at e
    have ih := frzAll_ne rs
    unfold frzAll at ih
    cases q : mapR R.frz rs with
    | err d => exact ih d q
    | bad => cases r <;> simp [R.frz, q] at e
    | ok ys => cases r <;> simp [R.frz, q] at e
/-- a, b = e1, e2 -/
theorem s_par2 {i j : Nat} {y : Ex} (h : PS X st (tPar i j (tOfA X.K E (evs C (.cons x (.cons y .nil)))))) : PS X st (tOfS X.K E (x1 C (.par i j x y))) := by
  refine ps_of h fun D σ H h => ?_
  obtain ⟨ρ, F, B, F0, R, h⟩ := h
  rw [x1.eq_3] at h
  have ee : evs C (.cons x (.cons y .nil)) ρ = (ev C x ρ >>= fun a => ev C y ρ >>= fun b => .ok [a, b]) := by
    rw [evs.eq_2, evs.eq_2, evs.eq_1]
    cases ev C x ρ with
    | bad => rfl
    | err c => rfl
    | ok a => cases ev C y ρ <;> rfl
  rw [← ee] at h
  refine ⟨ρ, F, R.rel, AnsS.bindA h R.grow fun rs hr vs F1 H1 g1 d1 => ?_⟩
  obtain ⟨ds, e1, h⟩ := AnsS.okD hr (frzAll_ne rs)
  obtain ⟨F2, g2, s2, dn⟩ := frzN g1 (Same.refl F1) d1 e1
  split at h
  · rename_i hlen
    have R2 := R.more g2
    have hl : vs.length = 2 := dn.length.trans hlen
    match vs, hl with
    | [v, w], _ =>
      refine ⟨v, w, rfl, ?_⟩
      have := h _ F2 H1 ⟨R2.rel.setAll (is := [i, j]) dn, R2.grow, own_setAll dn.length R2.own⟩
      unfold setV setV setV at this
      exact this
  · exact h.elim
theorem slot_own {K : PySem.W.Frag} {B F0 F H : Hp} {ρ : Sto} {σ : L2.St} {i : Nat} {xs : List PP.D} (R : RelS K B F0 ρ σ F H) (e : ρ[i]? = some (some (.l xs))) : ∃ a vs, σ[i]? = some (some (.ref a)) ∧ F a = none ∧ H a = some (.lst vs) ∧ DnAll K F vs xs := by
  obtain ⟨v, es, a, vs, rfl, hf, hh, t⟩ := R.rel.slot i _ e
  exact ⟨a, vs, es, hf, hh, t⟩
theorem ownX_get {ρ : Sto} {i : Nat} {k : List PP.D → Rs Out} {K : PySem.W.Frag} {F0 B : Hp} {D : Ends} (h : AnsS K E (ownX ρ i k) F0 B D) : ∃ xs, ρ[i]? = some (some (.l xs)) ∧ AnsS K E (k xs) F0 B D := by
  unfold ownX at h
  split at h
  · rename_i xs e; exact ⟨xs, e, h⟩
  · exact h.elim
theorem AnsS.fit {n : Nat} {m : Rs Out} {K : PySem.W.Frag} {F0 B : Hp} {D : Ends} (h : AnsS K E (PP.fit n m) F0 B D) : n ≤ lim ∧ AnsS K E m F0 B D := fit_of (P := fun m => AnsS K E m F0 B D) h id
theorem lim_lt : lim < sizeLine := by decide
theorem s_app {i : Nat} (h : PS X st (tDrop (tBM X.K "list" rAppend (tVar i) (tCons (tOf X.K E (ev C x)) tNil)))) : PS X st (tOfS X.K E (x1 C (.app i x))) := by
  refine ps_of h fun D σ H h => ?_
  obtain ⟨ρ, F, B, F0, R, h⟩ := h
  rw [x1.eq_4] at h
  obtain ⟨xs, e, h⟩ := ownX_get h
  obtain ⟨a, vs, es, hf, hh, t⟩ := slot_own R e
  refine ⟨_, es, .inl ⟨rfl, _, .inl (.inl hh)⟩, ρ, F, R.rel, AnsS.bindE h R.grow fun r hr v F1 H1 g1 d1 => ?_⟩
  obtain ⟨d, e1, h⟩ := AnsS.okD hr (frz_ne r)
  obtain ⟨F2, g2, s2, dn⟩ := frz1 g1 (Same.refl F1) d1 e1
  obtain ⟨hz, h⟩ := AnsS.fit h
  refine ⟨a, _, _, rfl, rfl, g2.hp _ _ hh, ?_, h σ F2 _ ((R.more g2).mut e es ((g2.old a _ hh).trans hf) (g2.hp _ _ hh) ((t.mono g2.fr).append (.cons dn .nil)))⟩
  rw [t.length]
  have := lim_lt
  simp at hz
  omega
theorem s_popf {i j : Nat} (hij : i ≠ j) (h : PS X st (tAsg (tBM X.K "list" rPopAt (tVar i) (tCons (tC (.int 0)) tNil)) (gName j))) : PS X st (tOfS X.K E (x1 C (.popf j i))) := by
  refine ps_of h fun D σ H h => ?_
  obtain ⟨ρ, F, B, F0, R, h⟩ := h
  rw [x1.eq_22] at h
  obtain ⟨xs, e, h⟩ := ownX_get h
  obtain ⟨a, vs, es, hf, hh, t⟩ := slot_own R e
  unfold popS at h
  split at h
  · rename_i x ys
    cases t with
    | @cons v vs' _ _ r t =>
      refine ⟨_, es, .inl ⟨rfl, _, .inl (.inl hh)⟩, a, v :: vs', 0, 0, v, rfl, rfl, hh, by decide, by decide, ?_, rfl, ?_⟩
      · simp [seqIndex?]
      · have R1 := R.mut e es hf hh (ws := vs') (ys := ys) t
        exact h _ F _ ⟨R1.rel.setD r, R1.grow, own_set R1.own v⟩
  · exact h.elim
theorem s_ext {i : Nat} (h : PS X st (tDrop (tBM X.K "list" rExtend (tVar i) (tCons (tOf X.K E (ev C x)) tNil)))) : PS X st (tOfS X.K E (x1 C (.ext i x))) := by
  refine ps_of h fun D σ H h => ?_
  obtain ⟨ρ, F, B, F0, R, h⟩ := h
  rw [x1.eq_5] at h
  obtain ⟨xs, e, h⟩ := ownX_get h
  obtain ⟨a, vs, es, hf, hh, t⟩ := slot_own R e
  refine ⟨_, es, .inl ⟨rfl, _, .inl (.inl hh)⟩, ρ, F, R.rel, AnsS.bindE h R.grow fun r hr v F1 H1 g1 d1 => ?_⟩
  split at hr
  · rename_i ys ey
    obtain ⟨hz, h⟩ := AnsS.fit hr
    obtain ⟨b, ws, rfl, hb, tb⟩ := d1.lst g1.sub ey
    refine ⟨a, b, _, _, rfl, rfl, g1.hp _ _ hh, hb, ?_, h σ F1 _ ((R.more g1).mut e es ((g1.old a _ hh).trans hf) (g1.hp _ _ hh) ((t.mono g1.fr).append tb))⟩
    rw [t.length, tb.length]
    have := lim_lt
    omega
  · exact hr.elim
theorem dn_set {K : PySem.W.Frag} {F : Hp} {v : V} {d : PP.D} : ∀ {vs : List V} {ds : List PP.D}, DnAll K F vs ds → Dn K F v d → ∀ n, DnAll K F (vs.set n v) (ds.set n d)
  | _, _, .nil, _, _ => .nil
  | _, _, .cons r t, q, 0 => .cons q t
  | _, _, .cons r t, q, n + 1 => .cons r (dn_set t q n)
theorem s_put {i : Nat} {xk : Ex} (h : PS X st (tAsg (tOf X.K E (ev C x)) (gSub (tVar i) (tOf X.K E (ev C xk)) rSetL))) : PS X st (tOfS X.K E (x1 C (.put i xk x))) := by
  refine ps_of h fun D σ H h => ?_
  obtain ⟨ρ, F, B, F0, R, h⟩ := h
  rw [x1.eq_6] at h
  obtain ⟨xs, e, h⟩ := ownX_get h
  obtain ⟨a, vs, es, hf, hh, t⟩ := slot_own R e
  refine ⟨ρ, F, R.rel, AnsS.bindE h R.grow fun r hr v F1 H1 g1 d1 => ?_⟩
  obtain ⟨d, e1, h⟩ := AnsS.okD hr (frz_ne r)
  obtain ⟨F2, g2, s2, dn⟩ := frz1 g1 (Same.refl F1) d1 e1
  have R2 := R.more g2
  refine ⟨_, es, ρ, F2, R2.rel, AnsS.bindE h R2.grow fun k hk w F3 H3 g3 d3 => ?_⟩
  unfold putS at hk
  split at hk
  · split at hk
    · rename_i hj
      have gA := g2.trans g3
      cases d3
      have hlen : vs.length = xs.length := t.length
      refine ⟨a, vs, _, _, rfl, rfl, gA.hp _ _ hh, by unfold ixN; rw [if_pos hj.1, if_pos (by rw [hlen]; exact hj.2)], hk σ F3 _ ((R2.more g3).mut e es ((gA.old a _ hh).trans hf) (gA.hp _ _ hh) ?_)⟩
      exact dn_set (t.mono gA.fr) (dn.mono g3.fr) _
    · exact hk.elim
  · exact hk.elim
variable {ss : Sms} {s : Sm} {rest : List Stmt}
theorem b_nil : PSs X [] (tOfS X.K E (xs C .nil)) := by
  refine pss_of pss_nil fun D σ H h => ?_
  obtain ⟨ρ, F, B, F0, R, h⟩ := h
  rw [xs.eq_1] at h
  exact h σ F H R
theorem AnsS.bindS {K : PySem.W.Frag} {m : Rs Out} {k : Sto → Rs Out} {F0 B : Hp} {D : Ends} (h : AnsS K E (m >>= fun o => match o with | .nx ρ1 => k ρ1 | .rt r => .ok (.rt r)) F0 B D) {N : L2.St → Hp → Prop}
    (hn : ∀ ρ1, AnsS K E (k ρ1) F0 B D → ∀ σ F H, RelS K B F0 ρ1 σ F H → N σ H) : AnsS K E m F0 B { D with nx := N } := by
  cases m with
  | bad => exact h
  | err c => exact h
  | ok o =>
    cases o with
    | nx ρ1 => exact hn ρ1 h
    | rt r => exact h
theorem b_cons (h1 : PS X st (tOfS X.K E (x1 C s))) (h2 : PSs X rest (tOfS X.K E (xs C ss))) : PSs X (st :: rest) (tOfS X.K E (xs C (.cons s ss))) := by
  refine pss_of (pss_cons h1 h2) fun D σ H h => ?_
  obtain ⟨ρ, F, B, F0, R, h⟩ := h
  rw [xs.eq_2] at h
  exact ⟨ρ, F, B, F0, R, AnsS.bindS h fun ρ1 h1 σ1 F1 H1 R1 => ⟨ρ1, F1, B, F0, R1, h1⟩⟩
theorem b_frz {i : Nat} (h2 : PSs X rest (tOfS X.K E (xs C ss))) : PSs X rest (tOfS X.K E (xs C (.cons (.frz i) ss))) := by
  refine pss_of h2 fun D σ H h => ?_
  obtain ⟨ρ, F, B, F0, R, h⟩ := h
  rw [xs.eq_2, x1.eq_7] at h
  unfold frzS at h
  split at h
  · rename_i ys e
    obtain ⟨F', R'⟩ := R.freeze e
    exact ⟨_, F', B, F0, R', h⟩
  · exact h.elim
theorem s_if {c : Expr} {p q : List Stmt} {sp sq : Sms} (hc : PT X c (tOfT X.K E (evT C xc))) (hp : PSs X p (tOfS X.K E (xs C sp))) (hq : PSs X q (tOfS X.K E (xs C sq))) : PS X (.If c p q pos) (tOfS X.K E (x1 C (.ifs xc sp sq))) := by
  refine ps_of (ps_if hc hp hq) fun D σ H h => ?_
  obtain ⟨ρ, F, B, F0, R, h⟩ := h
  rw [x1.eq_8] at h
  refine ⟨ρ, F, R.rel, AnsS.bindT h R.grow fun k hk F1 H1 g1 => ?_⟩
  cases k with
  | true => exact ⟨ρ, F1, B, F0, R.more g1, hk⟩
  | false => exact ⟨ρ, F1, B, F0, R.more g1, hk⟩
theorem s_ret {a : Expr} (ha : PE X a (tOf X.K E (ev C x))) : PS X (.Return (some a) pos) (tOfS X.K E (x1 C (.ret x))) := by
  refine ps_of (ps_ret ha) fun D σ H h => ?_
  obtain ⟨ρ, F, B, F0, R, h⟩ := h
  rw [x1.eq_11] at h
  refine ⟨ρ, F, R.rel, AnsS.bindE h R.grow fun r hr v F1 H1 g1 d1 => ?_⟩
  unfold retR at hr
  split at hr
  · exact hr.elim
  · exact hr.elim
  · exact hr.elim
  · exact hr.elim
  · exact hr v F1 H1 (R.grow.trans g1) (d1.back R.grow.hp)
theorem s_rtl {i : Nat} {a : Expr} (ha : PE X a (tVar i)) : PS X (.Return (some a) pos) (tOfS X.K E (x1 C (.rtl i))) := by
  refine ps_of (ps_ret ha) fun D σ H h => ?_
  obtain ⟨ρ, F, B, F0, R, h⟩ := h
  rw [x1.eq_12] at h
  unfold rtlS at h
  split at h
  · rename_i ys e
    obtain ⟨a, vs, es, hf, hh, t⟩ := slot_own R e
    exact ⟨_, es, h _ F H R.grow ⟨a, vs, rfl, R.own i _ a e rfl es, hf, hh, t⟩⟩
  · exact h.elim
theorem s_pass : PS X (.Pass pos) (tOfS X.K E (x1 C .pas)) := by
  refine ps_of ps_pass fun D σ H h => ?_
  obtain ⟨ρ, F, B, F0, R, h⟩ := h
  rw [x1.eq_14] at h
  exact h σ F H R
theorem Grow.debase {F0 B F1 H1 F H : Hp} (g : Grow F0 B F1 H1) (k : Grow F1 B F H) : Grow F0 B F H := ⟨g.fr.trans k.fr, k.hp, k.sub, fun a o e => (k.old a o e).trans (g.old a o e)⟩
theorem RelS.rebase {K : PySem.W.Frag} {B F0 F H : Hp} {ρ : Sto} {σ : L2.St} (R : RelS K B F0 ρ σ F H) : RelS K B F ρ σ F H := ⟨R.rel, ⟨Same.refl F, R.grow.hp, R.grow.sub, fun _ _ _ => rfl⟩, R.own⟩
theorem RelS.debase {K : PySem.W.Frag} {B F0 F1 H1 F H : Hp} {ρ : Sto} {σ : L2.St} (g : Grow F0 B F1 H1) (R : RelS K B F1 ρ σ F H) : RelS K B F0 ρ σ F H := ⟨R.rel, Grow.debase g R.grow, R.own⟩
theorem AnsS.imp {K : PySem.W.Frag} {F0 B F1 H1 : Hp} {m : Rs Out} {D : Ends} {N : L2.St → Hp → Prop} (g : Grow F0 B F1 H1) (h : AnsS K E (m >>= fun o => match o with | .nx ρ1 => .ok (.nx ρ1) | .rt r => .ok (.rt r)) F0 B D) (hn : ∀ ρ1, m = .ok (.nx ρ1) → ∀ σ F H, RelS K B F1 ρ1 σ F H → N σ H) :
    AnsS K E m F1 B { D with nx := N, ct := N, bk := D.nx } := by
  cases m with
  | bad => exact h
  | err c => exact fun F' H' k => h F' H' (Grow.debase g k)
  | ok o =>
    cases o with
    | nx ρ1 => exact hn ρ1 rfl
    | rt r => exact fun v F H k => h v F H (Grow.debase g k)
theorem s_for {tg iter : Expr} {body : List Stmt} {sb : Sms} (hp : PassesOwn (model X.prog X.w) X.A X.env X.xe) (hc : X.calm = true) (hi : PI X tg iter (tOfI X.K E (evI C it))) (hg : PG X tg (gNames X.K t)) (hb : PSs X body (tOfS X.K E (xs C sb)))
    (hs : ∀ x, foldedSetIterable iter X.env x = pure x) : PS X (.For tg iter body [] pos) (tOfS X.K E (x1 C (.for_ t it sb))) := by
  refine ps_of (ps_for hp hc hi hg hb hs) fun D σ H h => ?_
  obtain ⟨ρ, F, B, F0, R, h⟩ := h
  rw [x1.eq_9] at h
  refine ⟨ρ, F, R.rel, AnsS.bindI h R.grow fun ds hd J F1 H1 g1 itd => ?_⟩
  refine for_it itd (fun i σ1 H2 => ∃ ρ1 F2, RelS X.K B F0 ρ1 σ1 F2 H2 ∧ Same F1 F2 ∧ AnsS X.K E (forL t (fun ρ1 => xs C sb ρ1) (ds.drop i) ρ1) F0 B D) ?_ ?_ ?_ ?_
  · exact ⟨ρ, F1, R.more g1, Same.refl F1, hd⟩
  · rintro i σ1 H2 _ ⟨ρ1, F2, R2, s2, _⟩
    exact s2.trans R2.rel.sub
  · rintro i x σ1 H2 H3 hi ⟨ρ1, F2, R2, s2, h2⟩ ⟨d, ed, hy⟩
    obtain ⟨F3, g3, dn⟩ := hy F2 s2 R2.rel.sub
    have edrop : ds.drop i = d :: ds.drop (i + 1) := by
      obtain ⟨hi', e'⟩ := List.getElem?_eq_some_iff.mp ed
      rw [List.drop_eq_getElem_cons hi', e']
    rw [edrop] at h2
    unfold forL at h2
    obtain ⟨ρ2, e2, h2⟩ := AnsS.okD h2 (setT_ne t d ρ1)
    refine gs_names (R2.more g3) dn e2 fun σ2 R3 => ?_
    refine ⟨ρ2, F3, B, F3, R3.rebase, ?_⟩
    have s3 : Same F1 F3 := s2.trans g3.fr
    cases e3 : xs C sb ρ2 with
    | bad => simp only [e3, bind_bad] at h2; exact h2
    | err c => simp only [e3, bind_err] at h2; exact fun F' H' k => h2 F' H' (Grow.debase R3.grow k)
    | ok o =>
      simp only [e3, bind_ok] at h2
      cases o with
      | rt r => exact fun v F' H' k => h2 v F' H' (Grow.debase R3.grow k)
      | nx ρ3 =>
        intro σ3 F4 H4 R4
        exact ⟨ρ3, F4, R4.debase R3.grow, s3.trans R4.grow.fr, h2⟩
  · rintro σ1 H2 ⟨ρ1, F2, R2, s2, h2⟩
    rw [List.drop_length] at h2
    unfold forL at h2
    exact h2 σ1 F2 H2 R2
theorem s_while {c : Expr} {body : List Stmt} {sb : Sms} (hp : PassesOwn (model X.prog X.w) X.A X.env X.xe) (hc : PT X c (tOfT X.K E (evT C xc))) (hb : PSs X body (tOfS X.K E (xs C sb))) : PS X (.While c body [] pos) (tOfS X.K E (x1 C (.whl xc sb))) := by
  refine ps_of (ps_while hp hc hb) fun D σ H h => ?_
  obtain ⟨ρ, F, B, F0, R, h⟩ := h
  rw [x1.eq_10] at h
  refine ⟨fun m σ1 H1 => ∃ ρ1 F1, RelS X.K B F0 ρ1 σ1 F1 H1 ∧ AnsS X.K E (whlL (fun ρ1 => evT C xc ρ1) (fun ρ1 => xs C sb ρ1) m ρ1) F0 B D, ⟨5000, ρ, F, R, h⟩, ?_⟩
  rintro m σ1 H1 ⟨ρ1, F1, R1, h1⟩
  cases m with
  | zero => unfold whlL at h1; exact h1.elim
  | succ m =>
    unfold whlL at h1
    refine ⟨ρ1, F1, R1.rel, AnsS.bindT h1 R1.grow fun k hk F2 H2 g2 => ?_⟩
    cases k with
    | false => exact hk σ1 F2 H2 (R1.more g2)
    | true =>
      simp only [if_true] at hk ⊢
      refine ⟨fun σ' H' => ∃ ρ1 F1, RelS X.K B F0 ρ1 σ' F1 H' ∧ AnsS X.K E (whlL (fun ρ1 => evT C xc ρ1) (fun ρ1 => xs C sb ρ1) m ρ1) F0 B D, fun σ' H' q => ⟨m, Nat.lt_succ_self m, q⟩, ?_⟩
      refine ⟨ρ1, F2, B, F0, R1.more g2, ?_⟩
      cases e3 : xs C sb ρ1 with
      | bad => simp only [e3, bind_bad] at hk; exact hk
      | err c => simp only [e3, bind_err] at hk; exact hk
      | ok o =>
        simp only [e3, bind_ok] at hk
        cases o with
        | rt r => exact hk
        | nx ρ3 => exact fun σ3 F4 H4 R4 => ⟨ρ3, F4, R4, hk⟩
end
end PP
set_option Elab.async false
set_option linter.all false
set_option autoImplicit false
set_option maxRecDepth 100000
set_option maxHeartbeats 1000000
namespace PP
open PySem L2
theorem enumNewT (l : Addr) (items : Array Value) :
    Meets (Builtin.«enumerate.__new__» ⟨[.type "enumerate", .ref l], []⟩) (fun _ R s => s.heap.IsTuple l items ∧
      R (.ok (.ret (.ref (s.heap.push { cls := .type "tuple_iterator", data := .fields #[.ref l, .int 0 0] }).objs.size)))
        { s with heap := (s.heap.push { cls := .type "tuple_iterator", data := .fields #[.ref l, .int 0 0] }).push { cls := .type "enumerate", data := .fields #[.none, .bool false, .ref s.heap.objs.size, rawInt 0, .none, .none] } }) :=
  .of_wp fun prog w A R s h => by
    obtain ⟨hp, g, d, tk, os⟩ := s; obtain ⟨h1, h⟩ := h
    have hsub := sub_enumerate
    have q1 : ∀ {A' : Around} {E : Value → Shared → Prop} {Q : Value → Shared → Prop}, Q (.ref hp.objs.size) ⟨hp.push { cls := .type "tuple_iterator", data := .fields #[.ref l, .int 0 0] }, g, d, tk, os⟩ → wpAny (model prog w) A' (pyIter (.ref l)) Q E ⟨hp, g, d, tk, os⟩ :=
      fun q => (begins_tuple l items).iter prog w _ _ ⟨hp, g, d, tk, os⟩ _ h1 q
    wp_walk using q1
    refine wpAny_stack_any fun st => wpAny_pure ?_
    split
    · rename_i c _ _ _ _ _
      cases (c == Value.type "enumerate")
      · wp_walk using q1
        exact ⟨_, rfl, h⟩
      · wp_walk using q1
        exact ⟨_, rfl, h⟩
    · wp_walk using q1
      exact ⟨_, rfl, h⟩
section
variable {prog : Program} {w : World} {A : Around} {E : Value → Shared → Prop} {s : Shared}
theorem callEnumT {l : Addr} {items : Array Value} {Q : Value → Shared → Prop} (hL : s.heap.IsTuple l items)
    (h : ∀ h', IsEnum h' (s.heap.objs.size + 1) s.heap.objs.size 0 .none → h'.IsTupleIter s.heap.objs.size l 0 → h'.objs.size = s.heap.objs.size + 2 →
      (∀ b o, s.heap.get? b = some o → h'.get? b = some o) → Q (.ref (s.heap.objs.size + 1)) { s with heap := h' }) :
    wpAny (model prog w) A (PySem.call (.type "enumerate") [.ref l]) Q E s := by
  refine callType_new F.called_enumerate (by decide) (F.typeCall_enumerate_1 _) (F.newCall_enumerate_1 _) (fun obj => F.args_object_init_2 obj _) F.entry_enumerate_new
    (enumNewT l items) ⟨hL, ?_⟩
  have hz : (s.heap.push { cls := .type "tuple_iterator", data := .fields #[.ref l, .int 0 0] }).objs.size = s.heap.objs.size + 1 := Heap.size_push ..
  show _ ∧ _
  rw [hz]
  have he : IsEnum ((s.heap.push { cls := .type "tuple_iterator", data := .fields #[.ref l, .int 0 0] }).push
      { cls := .type "enumerate", data := .fields #[.none, .bool false, .ref s.heap.objs.size, rawInt 0, .none, .none] }) (s.heap.objs.size + 1) s.heap.objs.size 0 .none := by
    have := Heap.get?_push_size (s.heap.push { cls := .type "tuple_iterator", data := .fields #[.ref l, .int 0 0] })
      (o := { cls := .type "enumerate", data := .fields #[.none, .bool false, .ref s.heap.objs.size, rawInt 0, .none, .none] }) rfl
    rw [hz] at this; exact this
  refine ⟨⟨_, he, rfl⟩, h _ he ⟨_, Heap.get?_push_of_some _ (Heap.get?_push_size _ rfl), rfl, rfl⟩ (by rw [Heap.size_push, hz]) fun b o x => Heap.get?_push_of_some _ (Heap.get?_push_of_some _ x)⟩
end
/-- the tuple at a, each item in a new pair -/
def IteT (K : PySem.W.Frag) (a : Addr) : L2.It :=
  ⟨fun i H => ∃ (xs : List V) (x : V), SqT K H a xs ∧ xs[i]? = some x, fun i H v H' => ∃ T x, v = .ref T ∧ H T = none ∧ H' = upd H T (.tup [.int (i : Nat), x]) ∧ ∀ xs, SqT K H a xs → xs[i]? = some x, fun i H => ∃ xs : List V, SqT K H a xs ∧ xs.length ≤ i⟩
theorem turn_enumT {P : Program} {w : World} {K : PySem.W.Frag} {elts : List Expr} {kk : Nat} {tpos : Pos} (a e it : Addr) (hai : a ≠ it) (hae : a ≠ e) :
    Turn P w K (.Tuple elts kk tpos) (IteT K a) [e, it] e (fun i h => (∃ old, IsEnum h e it ((i : Nat) : Int) old) ∧ h.IsTupleIter it a i ∧ e ≠ it) where
  mem := by simp
  obj := fun i h st b hb => by
    obtain ⟨⟨old, he⟩, ⟨o, ho, hc, hd⟩, _⟩ := st
    have e' : b = e ∨ b = it := by simpa using hb
    rcases e' with z | z
    · rw [z]; exact ⟨_, he, fun v q => nomatch q⟩
    · rw [z]; exact ⟨o, ho, fun v q => by rw [hd] at q; cases q⟩
  keep := fun i h h' st k => let ⟨⟨old, he⟩, hi, hne⟩ := st; ⟨⟨old, k e (by simp) _ he⟩, hi.at fun o q => k it (by simp) o q, hne⟩
  item := by
    intro X hP hw hK hc i pins s σ H E I hf st hg
    subst hP hw hK
    obtain ⟨⟨old, he⟩, hit, hne⟩ := st
    obtain ⟨xs, x, hq, hx⟩ := hg
    obtain ⟨its, rv, p, hz⟩ := I.tuple hq
    obtain ⟨u, hu, ru⟩ := rv.get hx
    have hel : e < s.heap.objs.size := Heap.lt_size he
    have hil : it < s.heap.objs.size := by obtain ⟨_, q, _⟩ := hit; exact Heap.lt_size q
    have hui : its.toArray[i]? = some u := by simpa using hu
    have hlt : i < its.toArray.size := by
      rcases Nat.lt_or_ge i its.toArray.size with z | z
      · exact z
      · rw [Array.getElem?_eq_none z] at hui; cases hui
    refine wpAny_pyNext_enum_itemD (Draws.tuple (A := X.A.in1) (I.ok.hd hc) it a hai its.toArray) he ⟨hit, (show s.heap.IsTuple a its.toArray from p)⟩ hlt hne (by simp; exact ⟨hne, Ne.symm hae⟩) fun u' h' tk hP ho hst hT hsz hk => ?_
    obtain rfl : u = u' := by rw [hui] at hP; exact Option.some.inj hP
    refine ⟨_, rfl, wpAny_letOwnedTupleGo_enum (s := { s with heap := h', toks := tk + 1 }) ho fun h'' he' sb => ?_⟩
    have hT2 : h''.get? s.heap.objs.size = some { cls := .type "tuple", data := .seq #[.int i tk, u] } := (sb.2 _ (Nat.ne_of_gt hel)).trans hT
    have new : ObjOk X.prog X.w (upd H s.heap.objs.size (.tup [.int (i : Nat), x])) h'' s.heap.objs.size (.tup [.int (i : Nat), x]) :=
      ⟨by show 2 ≤ sizeLine; decide, [.int i tk, u], .cons ⟨_, rfl⟩ (.cons ru .nil), ⟨_, hT2, rfl, _, rfl⟩⟩
    have I1 : Inv X pins σ (upd H s.heap.objs.size (.tup [.int (i : Nat), x])) { s with heap := h'', toks := tk + 1 } :=
      I.turnedNew (ch := [e, it]) (fun b ob hb q => (sb.2 b (fun z => hb (by simp [z]))).trans (hk b ob (fun z => hb (by simp [z])) (fun z => hb (by simp [z])) q)) hf (Nat.le_refl _) new
    refine ⟨.ref s.heap.objs.size, _, I1, rfl, ⟨_, x, rfl, I.hok.fresh (Nat.le_refl _), rfl, fun ys hy => by rw [I.tuple_inj hy hq]; exact hx⟩, ⟨⟨u, ?_⟩, hst.1.at fun o q => (sb.2 it (Ne.symm hne)).trans q, hne⟩, fun b hb => ?_⟩
    · have e1 : ((i + 1 : Nat) : Int) = (i : Int) + 1 := by omega
      rw [e1]; exact he'
    · have hb' : b < s.heap.objs.size := by
        have e' : b = e ∨ b = it := by simpa using hb
        rcases e' with z | z
        · rw [z]; exact hel
        · rw [z]; exact hil
      rw [upd_ne (Nat.ne_of_lt hb')]
      exact (hf b hb).1
  done := by
    intro X hP hw hK hc i pins s σ H E I hf st hg
    subst hP hw hK
    obtain ⟨⟨old, he⟩, hit, hne⟩ := st
    obtain ⟨xs, hq, hx⟩ := hg
    obtain ⟨its, rv, p, hz⟩ := I.tuple hq
    obtain ⟨f0, f1, f2, f3, f4, f5⟩ := hf it (by simp)
    have hl := rv.length
    have hT : s.TypeIs (.ref e) "enumerate" := ⟨_, he, rfl⟩
    unfold pyNext
    refine wpAny_bind (wpAny_attempt (wpAny_callSpecial?_slot (name := Str.ofString "__next__") hT F.slot_enumerate_next
      (wpAny_call_entry F.slot_enumerate_next hT F.entry_enumerate_next ?_ (F.args_enumerate_next_1 _))))
    show wpAny _ _ (field (.ref e) 2 >>= _) _ _ _
    refine wpAny_bind (wpAny_field he rfl (x := .ref it) rfl ?_)
    refine wpAny_bind (wpAny_nextOf_tuple_end (I.ok.hd hc) hit (show s.heap.IsTuple a its.toArray from p) (by simp; omega) fun h' x he' hx' => ?_)
    obtain ⟨o, ho, hc⟩ := hx'
    refine wpAny_bind (wpAny_isInstance (T := "StopIteration") (b := true) ⟨o, ho, hc⟩ isSubtype_stop ?_)
    exact wpAny_pure ⟨rfl, I.turned (t' := s.toks) (fun b o hb q => he' b o hb q) f0 f1 f3 f4 f5⟩
  self := fun A i s Q E st h => let ⟨⟨_, he⟩, _⟩ := st; wpAny_pyIter_enum he h
def iEnumT (K : PySem.W.Frag) (ta : TA) : TI := fun σ H R => ta σ H fun vs H1 => ∃ a xs, vs = [.ref a] ∧ SqT K H1 a xs ∧ R (IteT K a) H1
theorem pi_enumT {X : Cx} {e : Expr} {ta : TA} {p pos tpos : Pos} {elts : List Expr} {kk : Nat} (hg : Gl X "enumerate") (hm : X.mg "enumerate" = none) (ha : PA X [e] ta) (hs : starEach [e] X.env = [(false, eval e X.env)]) :
    PI X (.Tuple elts kk tpos) (.Call (.Name "enumerate" p) [e] [] pos) (iEnumT X.K ta) := by
  refine ⟨fun pins s σ H R I h => ?_⟩
  refine PyProof.Rows.Call_ (ld_blt I hg hm PyProof.Rows.boot_enumerate (PyProof.Rows.callWith_type1 (thn (ha.run pos pins s σ H _ I h) fun us s1 ⟨vs, H1, I1, r1, q1⟩ => ?_) hs rfl))
  obtain ⟨a, xs, ex, hq, q⟩ := q1
  subst ex
  cases r1 with
  | cons r rr =>
    cases rr
    cases r
    obtain ⟨its, rv, p', hz⟩ := I1.tuple hq
    obtain ⟨o1, ho1, _⟩ := id p'
    have hal := Heap.lt_size ho1
    refine callEnumT (show s1.heap.IsTuple a its.toArray from p') fun h' he hit hsz hk => wpAny_pyIter_enum he ?_
    have I2 : Inv X pins σ H1 { s1 with heap := h' } := I1.kept (t' := s1.toks) hk
    refine ⟨s1.heap.objs.size + 1, [s1.heap.objs.size + 1, s1.heap.objs.size], _, _, H1, rfl, I2, turn_enumT a (s1.heap.objs.size + 1) s1.heap.objs.size (Nat.ne_of_lt hal) (Nat.ne_of_lt (Nat.lt_succ_of_lt hal)), ⟨⟨.none, he⟩, hit, Nat.succ_ne_self _⟩, fun b hb => ?_, q⟩
    have e' : b = s1.heap.objs.size + 1 ∨ b = s1.heap.objs.size := by simpa using hb
    have hle : s1.heap.objs.size ≤ b := by
      rcases e' with z | z
      · rw [z]; exact Nat.le_add_right _ _
      · rw [z]; exact Nat.le_refl _
    exact I1.fpOk hle (I1.hok.fresh hle)
theorem walk_enumT {K : PySem.W.Frag} {a : Addr} {xs : List V} : Walk (IteT K a) xs.length (fun H => SqT K H a xs) (YPair (fun i => some (.int (i : Nat))) (fun i => xs[i]?)) := by
  refine ⟨fun i _ hi q => ⟨xs, xs[i], q, by simp [hi]⟩, fun _ q => ⟨xs, q, Nat.le_refl _⟩, fun i H v H' _ q y => ?_⟩
  obtain ⟨T, x, h1, h2, h3, h4⟩ := y
  exact ⟨T, .int (i : Nat), x, h1, h2, h3, rfl, h4 xs q⟩
end PP
set_option Elab.async false
set_option linter.all false
set_option autoImplicit false
set_option maxRecDepth 100000
set_option maxHeartbeats 1000000
namespace PP
open PySem L2
section
variable {X : Cx} {E : EX} {K : PySem.W.Frag} {C : Nat → List R → Rs R} {pos p : Pos} {tg a b : Expr} {xa xb : Ex} {F H : Hp}
theorem enumL_get : ∀ {xs : List D} {i n : Nat} {x : D}, xs[i]? = some x → (enumL n xs)[i]? = some (.tuple [.int ((n + i : Nat) : Int), x])
  | y :: ys, 0, n, x, e => by simp at e; subst e; simp [enumL]
  | y :: ys, i + 1, n, x, e => by
    have := enumL_get (xs := ys) (i := i) (n := n + 1) (x := x) (by simpa using e)
    rw [enumL, List.getElem?_cons_succ, this, show n + 1 + i = n + (i + 1) by omega]
theorem enumL_len : ∀ (n : Nat) (xs : List D), (enumL n xs).length = xs.length
  | _, [] => rfl
  | n, x :: xs => by simp [enumL, enumL_len (n + 1) xs]
theorem yenum_yd {G : Hp} {vs : List V} {ds : List D} (t : DnAll K G vs ds) {i : Nat} {H : Hp} {x : V} {H' : Hp} (y : YPair (fun i => some (.int (i : Nat))) (fun i => vs[i]?) i H x H') : YD K G (enumL 0 ds) i H x H' := by
  obtain ⟨T, x1, y1, rfl, e2, rfl, e4, e5⟩ := y
  cases e4
  obtain ⟨d2, q2, r2⟩ := t.get e5
  refine ⟨_, enumL_get q2, fun F s1 s2 => ⟨_, Grow.new s2 e2, ?_⟩⟩
  have g : Same F (upd F T (.tup [.int (i : Nat), y1])) := same_new (s2.free e2)
  have z : ((0 + i : Nat) : Int) = (i : Int) := by omega
  rw [z]
  exact .tup (.inl (.inl upd_same)) (.cons (.int _) (.cons (r2.mono (s1.trans g)) .nil))
theorem q_enum {elts : List Expr} {kk : Nat} {tpos : Pos} (hg : Gl X "enumerate") (hm : X.mg "enumerate" = none) (ha : PE X a (tOf X.K E (ev C xa))) (hs : starEach [a] X.env = [(false, eval a X.env)]) :
    PI X (.Tuple elts kk tpos) (.Call (.Name "enumerate" p) [a] [] pos) (tOfI X.K E (evI C (.enum xa))) := by
  refine ⟨fun pins s σ H R I h => ?_⟩
  obtain ⟨ρ, F, Rl, h⟩ := h
  rw [evI.eq_4] at h
  by_cases ht : ∃ ys, ev C xa ρ = .ok (.d (.tuple ys))
  · obtain ⟨ys, e⟩ := ht
    refine (pi_enumT hg hm (pa_cons ha pa_nil hs) hs).run pins s σ H R I ⟨ρ, F, Rl, ?_⟩
    rw [e] at h ⊢
    intro v F1 H1 g1 d1
    have h : AnsI X.K E (.ok (enumL 0 ys)) F H R := h
    obtain ⟨F2, l, vs, g2, rfl, t, q⟩ := itm_list (x := .d (.tuple ys)) (ds := ys) g1 d1 rfl
    rcases q with ⟨_, q⟩ | ⟨q, _⟩
    · exact absurd rfl (q ys)
    · refine ⟨l, vs, rfl, same_t g2.sub q, h _ F2 H1 g2 ?_⟩
      unfold ItD
      rw [enumL_len, ← t.length]
      exact walk_enumT.mono (fun H s => same_t s q) fun i H x H' hi s y => yenum_yd t y
  · refine (pi_enum hg hm (pa_cons ha pa_nil hs) hs).run pins s σ H R I ⟨ρ, F, Rl, ?_⟩
    cases e : ev C xa ρ with
    | bad => rw [e] at h; exact h
    | err c => rw [e] at h; exact h
    | ok x =>
      rw [e] at h
      intro v F1 H1 g1 d1
      have h : AnsI X.K E (x.itm >>= fun xs => .ok (enumL 0 xs)) F H R := h
      cases e2 : x.itm with
      | bad => rw [e2] at h; exact h.elim
      | err c => exfalso; cases x with
        | d y => cases y <;> cases e2
        | _ => cases e2
      | ok ds =>
        rw [e2] at h
        have h : AnsI X.K E (.ok (enumL 0 ds)) F H R := h
        obtain ⟨F2, l, vs, g2, rfl, t, q⟩ := itm_list g1 d1 e2
        rcases q with ⟨q, _⟩ | ⟨_, q⟩
        · refine ⟨l, vs, rfl, same_l g2.sub q, h _ F2 H1 g2 ?_⟩
          unfold ItD
          rw [enumL_len, ← t.length]
          exact walk_enum.mono (fun H s => same_l s q) fun i H x H' hi s y => yenum_yd t y
        · subst q; exact absurd ⟨_, e⟩ ht
end
section
variable {K : PySem.W.Frag} {F F' H : Hp}
theorem kI_inj : ∀ {a b : List Int}, kI a = kI b → a = b
  | [], [], _ => rfl
  | [], _ :: _, h => by cases h
  | _ :: _, [], h => by cases h
  | x :: xs, y :: ys, h => by
    unfold kI at h
    simp only [List.map_cons, List.cons.injEq, Sum.inl.injEq] at h
    rw [h.1, kI_inj (a := xs) (b := ys) h.2]
theorem kI_dec (a b : List Int) : decide (kI a = kI b) = decide (a = b) := by
  by_cases h : a = b
  · subst h; simp
  · have : ¬ kI a = kI b := fun e => h (kI_inj e)
    simp [h, this]
theorem kI_vals (ks : List Int) : (kI ks).map kV = ks.map V.int := by
  simp [kI, kV, Function.comp_def]
theorem KD.val {ps : List (List L2.Key × V)} {kvs : List (List Int × D)} (h : KD K F ps kvs) {k : List Int} {d : D} (e : valM kvs k = some d) : ∃ v, valV ps (kI k) = some v ∧ Dn K F v d := by
  induction h with
  | nil => cases e
  | @cons k' v' d' ps qs r t ih =>
    by_cases hk : k' = k
    · subst hk
      simp [valM] at e
      subst e
      exact ⟨v', valV_pos rfl, r⟩
    · have e2 : valM qs k = some d := by simpa [valM, List.find?_cons, hk] using e
      obtain ⟨v, q1, q2⟩ := ih e2
      exact ⟨v, by rw [valV_neg (fun z => hk (kI_inj z))]; exact q1, q2⟩
theorem KD.any {ps : List (List L2.Key × V)} {kvs : List (List Int × D)} (h : KD K F ps kvs) (k : List Int) : (ps.any fun kv => decide (kv.1 = kI k)) = kvs.any fun kv => decide (kv.1 = k) := by
  induction h with
  | nil => rfl
  | cons r t ih => rw [List.any_cons, List.any_cons, ih, kI_dec]
theorem KD.repl {ps : List (List L2.Key × V)} {kvs : List (List Int × D)} (h : KD K F ps kvs) (k : List Int) {v : V} {d : D} (r : Dn K F v d) :
    KD K F (ps.map fun kv => if kv.1 = kI k then (kv.1, v) else kv) (kvs.map fun kv => if kv.1 = k then (kv.1, d) else kv) := by
  induction h with
  | nil => exact .nil
  | @cons k' v' d' ps qs r' t ih =>
    rw [List.map_cons, List.map_cons]
    by_cases hk : k' = k
    · subst hk
      simp only [if_true]
      exact .cons r ih
    · rw [if_neg (show ¬ kI k' = kI k from fun z => hk (kI_inj z)), if_neg hk]
      exact .cons r' ih
theorem KD.app {ps : List (List L2.Key × V)} {kvs : List (List Int × D)} (h : KD K F ps kvs) (k : List Int) {v : V} {d : D} (r : Dn K F v d) : KD K F (ps ++ [(kI k, v)]) (kvs ++ [(k, d)]) := by
  induction h with
  | nil => exact .cons r .nil
  | cons r' t ih => exact .cons r' ih
theorem KD.put {ps : List (List L2.Key × V)} {kvs : List (List Int × D)} (h : KD K F ps kvs) (k : List Int) {v : V} {d : D} (r : Dn K F v d) : KD K F (putK ps (kI k) v) (putM kvs k d) := by
  unfold putK putM
  rw [h.any k]
  split
  · exact h.repl k r
  · exact h.app k r
theorem KD.len {ps : List (List L2.Key × V)} {kvs : List (List Int × D)} (h : KD K F ps kvs) : ps.length = kvs.length := by
  induction h with
  | nil => rfl
  | cons r t ih => simp [ih]
end
section
variable {X : Cx} {E : EX} {C : Nat → List R → Rs R} {pos p q : Pos} {es : List Expr} {xs : Exs} {x : Str} {i k : Nat}
theorem slotM_get {ρ : Sto} {σ : L2.St} {F H : Hp} {kvs : List (List Int × D)} (R : Rel X.K ρ σ F H) (e : slotM ρ i = some kvs) : ∃ a ps, σ[i]? = some (some (.ref a)) ∧ H a = some (.dT ps) ∧ KD X.K F ps kvs := by
  unfold slotM at e
  split at e
  · rename_i kvs' e'
    cases e
    obtain ⟨v, es, a, ps, rfl, hf, t⟩ := R.slot i _ e'
    exact ⟨a, ps, es, R.sub _ _ hf, t⟩
  · rename_i kvs' e'
    cases e
    obtain ⟨v, es, a, ps, rfl, hf, hh, t⟩ := R.slot i _ e'
    exact ⟨a, ps, es, hh, t⟩
  · cases e
theorem q_mget (hu : X.A.units + 1 < cLine) (hn : PE X (.Name x p) (tVar i)) (ha : PA X es (tOfA X.K E (evs C xs))) : PE X (.Subscript (.Name x p) (.Tuple es k q) pos) (tOf X.K E (ev C (.mget i xs))) := by
  refine pe_of (pe_dget hu hn (pe_tup ha) (fun _ _ => rfl)) fun σ H Q h => ?_
  obtain ⟨ρ, F, R, h⟩ := h
  rw [ev.eq_23] at h
  unfold slotX at h
  split at h
  · rename_i kvs em
    obtain ⟨a, ps, ea, hh, t⟩ := slotM_get R em
    refine ⟨_, ea, ρ, F, R, AnsA.bind h fun rs hrs vs F1 H1 g1 d1 => ?_⟩
    obtain ⟨ds, e, hk⟩ := Ans.frzAll hrs
    obtain ⟨hz, hk⟩ := hk.fit
    obtain ⟨F2, g2, s2, t2⟩ := frzN g1 (Same.refl F1) d1 e
    refine ⟨by rw [t2.length]; exact Nat.le_trans hz lim_le, fun p hp => ?_⟩
    unfold mgetR at hk
    split at hk
    · rename_i ks ek
      split at hk
      · rename_i d ed
        obtain ⟨v, q1, q2⟩ := t.val ed
        have hv := dn_ints (ints_of ek ▸ t2)
        have hne : H1 a = some (.dT ps) := g2.hp _ _ hh
        refine ⟨a, v, rfl, .inr ⟨ps, kI ks, p, .inl ?_, rfl, ?_, q1.symm⟩, ?_⟩
        · rw [upd_ne (ne_of_none hne hp)]; exact hne
        · rw [upd_same, kI_vals, hv]
        · exact hk v F2 _ ⟨g2.fr, g2.hp.trans (same_new hp), g2.sub.trans (same_new hp), g2.old⟩ (q2.mono g2.fr)
      · exact hk.elim
    · exact hk.elim
  · exact h.elim
end
section
variable {X : Cx} {E : EX} {C : Nat → List R → Rs R} {x : Ex} {st : Stmt} {pos p q : Pos} {e : Expr} {i : Nat}
theorem s_mnew (h : PS X st (tAsg tDNewT (gName i))) : PS X st (tOfS X.K E (x1 C (.mnew i))) := by
  refine ps_of h fun D σ H h => ?_
  obtain ⟨ρ, F, B, F0, R, h⟩ := h
  rw [x1.eq_17] at h
  intro p hp
  have g : Grow F H F (upd H p (.dT [])) := Grow.own R.rel.sub hp
  refine h _ F _ ((R.more g).setO (x := .n []) (o := .dT []) (R.grow.hp.free hp) (R.rel.sub.free hp) upd_same ⟨[], rfl, .nil⟩ fun j r _ ej oj es => ?_)
  obtain ⟨w, q1, qq⟩ := R.rel.slot j _ ej
  obtain ⟨b, o2, rfl, f2, h2, t2⟩ := qq.ownAt oj
  rw [q1] at es
  cases es
  rw [h2] at hp
  cases hp
theorem s_rtm {a : Expr} (ha : PE X a (tVar i)) : PS X (.Return (some a) pos) (tOfS X.K E (x1 C (.rtm i))) := by
  refine ps_of (ps_ret ha) fun D σ H h => ?_
  obtain ⟨ρ, F, B, F0, R, h⟩ := h
  rw [x1.eq_19] at h
  unfold rtmS at h
  split at h
  · rename_i ys e
    obtain ⟨v, es, a, ps, rfl, hf, hh, t⟩ := R.rel.slot i _ e
    have hb := R.own i _ a e rfl es
    have g : Grow F0 B (upd F a (.dT ps)) H := R.grow.freeze hb hf hh
    exact ⟨_, es, h _ _ H g ⟨a, ps, rfl, upd_same, t.mono (same_new hf)⟩⟩
  · exact h.elim
theorem s_mas (h : PS X st (tAsg (tOf X.K E (ev C x)) (gName i))) : PS X st (tOfS X.K E (x1 C (.mas i x))) := by
  refine ps_of h fun D σ H h => ?_
  obtain ⟨ρ, F, B, F0, R, h⟩ := h
  rw [x1.eq_20] at h
  refine ⟨ρ, F, R.rel, AnsS.bindE h R.grow fun r hr v F1 H1 g1 d1 => ?_⟩
  unfold masS at hr
  split at hr
  · rename_i kvs
    have R1 := R.more g1
    have hl := R1.rel.len
    refine hr _ F1 H1 ⟨⟨by rw [List.length_set, List.length_set]; exact hl, R1.rel.sub, fun j r e => ?_, fun j k a xs ys e1 e2 o1 o2 e3 e4 => ?_⟩, R1.grow, own_setR rfl R1.own v⟩
    · rcases get_set_some e with ⟨rfl, rfl⟩ | ⟨hj, e⟩
      · have hi : j < ρ.length := by
          have := (List.getElem?_eq_some_iff.mp e).1
          simpa using this
        exact ⟨v, List.getElem?_set_self (by omega), d1⟩
      · obtain ⟨w, q1, q2⟩ := R1.rel.slot j r e
        exact ⟨w, by rw [List.getElem?_set_ne (Ne.symm hj)]; exact q1, q2⟩
    · rcases get_set_some e1 with ⟨rfl, q⟩ | ⟨hj, e1⟩
      · subst q; cases o1
      · rcases get_set_some e2 with ⟨rfl, q⟩ | ⟨hk, e2⟩
        · subst q; cases o2
        · rw [List.getElem?_set_ne (Ne.symm hj)] at e3
          rw [List.getElem?_set_ne (Ne.symm hk)] at e4
          exact R1.rel.apart j k a xs ys e1 e2 o1 o2 e3 e4
  · rename_i kvs
    have R1 := R.more g1
    have hl := R1.rel.len
    refine hr _ F1 H1 ⟨⟨by rw [List.length_set, List.length_set]; exact hl, R1.rel.sub, fun j r e => ?_, fun j k a xs ys e1 e2 o1 o2 e3 e4 => ?_⟩, R1.grow, own_setR rfl R1.own v⟩
    · rcases get_set_some e with ⟨rfl, rfl⟩ | ⟨hj, e⟩
      · have hi : j < ρ.length := by
          have := (List.getElem?_eq_some_iff.mp e).1
          simpa using this
        exact ⟨v, List.getElem?_set_self (by omega), d1⟩
      · obtain ⟨w, q1, q2⟩ := R1.rel.slot j r e
        exact ⟨w, by rw [List.getElem?_set_ne (Ne.symm hj)]; exact q1, q2⟩
    · rcases get_set_some e1 with ⟨rfl, q⟩ | ⟨hj, e1⟩
      · subst q; cases o1
      · rcases get_set_some e2 with ⟨rfl, q⟩ | ⟨hk, e2⟩
        · subst q; cases o2
        · rw [List.getElem?_set_ne (Ne.symm hj)] at e3
          rw [List.getElem?_set_ne (Ne.symm hk)] at e4
          exact R1.rel.apart j k a xs ys e1 e2 o1 o2 e3 e4
  · exact hr.elim
theorem s_mput {es : List Expr} {ks : Exs} {k : Nat} {y : Str} {a : Expr} {q2 : Pos} (hu : X.A.units + 1 < cLine) (hn : PE X (.Name y p) (tVar i)) (ha : PA X es (tOfA X.K E (evs C ks))) (hv : PE X a (tOf X.K E (ev C x)))
    (hs : swapsWith a (some (.Subscript (.Name y p) (.Tuple es k q) q2)) pos.line X.env = pure false) : PS X (.Assign [.Subscript (.Name y p) (.Tuple es k q) q2] a pos) (tOfS X.K E (x1 C (.mput i ks x))) := by
  refine ps_of (ps_dput hu hn (pe_tup ha) hv hs) fun D σ H h => ?_
  obtain ⟨ρ, F, B, F0, R, h⟩ := h
  rw [x1.eq_18] at h
  unfold mapX at h
  split at h
  · rename_i kvs em
    obtain ⟨v0, es0, a0, ps, rfl, hf, hh, t⟩ := R.rel.slot i _ em
    refine ⟨ρ, F, R.rel, AnsS.bindE h R.grow fun r hr v F1 H1 g1 d1 => ?_⟩
    obtain ⟨d, e1, h⟩ := AnsS.okD hr (frz_ne r)
    obtain ⟨F2, g2, s2, dn⟩ := frz1 g1 (Same.refl F1) d1 e1
    have R2 := R.more g2
    refine ⟨_, es0, ρ, F2, R2.rel, AnsS.bindA h R2.grow fun rs hrs vs F3 H3 g3 d3 => ?_⟩
    obtain ⟨ds, e3, h⟩ := AnsS.okD hrs (frzAll_ne rs)
    obtain ⟨F4, g4, s4, t4⟩ := frzN g3 (Same.refl F3) d3 e3
    obtain ⟨hz, h⟩ := AnsS.fit h
    refine ⟨by rw [t4.length]; exact Nat.le_trans hz lim_le, fun p hp => ?_⟩
    unfold mputS at h
    split at h
    · rename_i kk ek
      obtain ⟨hz2, h⟩ := AnsS.fit h
      have hv := dn_ints (ints_of ek ▸ t4)
      have g5 : Grow F2 H1 F4 (upd H3 p (.tup vs)) := ⟨g4.fr, g4.hp.trans (same_new hp), g4.sub.trans (same_new hp), g4.old⟩
      have R5 := R2.more g5
      have hh1 : H1 a0 = some (.dT ps) := g2.hp _ _ hh
      have hh5 : upd H3 p (.tup vs) a0 = some (.dT ps) := g5.hp _ _ hh1
      have hf5 : F4 a0 = none := (g5.old a0 _ hh1).trans ((g2.old a0 _ hh).trans hf)
      refine ⟨a0, _, rfl, .inr ⟨ps, kI kk, p, hh5, rfl, ?_, ?_, rfl⟩, ?_⟩
      · rw [upd_same, kI_vals, hv]
      · have := lim_lt
        rw [t.len]; omega
      · exact h σ F4 _ (R5.mutO em rfl es0 hf5 (y := .n (putM kvs kk d)) ⟨_, rfl, ((t.mono g2.fr).mono g5.fr).put kk (dn.mono g5.fr)⟩)
    · exact h.elim
  · exact h.elim
theorem s_exp {a : Expr} (h : PS X st (tDrop (tOf X.K E (ev C x)))) : PS X st (tOfS X.K E (x1 C (.exp x))) := by
  refine ps_of h fun D σ H h => ?_
  obtain ⟨ρ, F, B, F0, R, h⟩ := h
  rw [x1.eq_16] at h
  exact ⟨ρ, F, R.rel, AnsS.bindE h R.grow fun r hr v F1 H1 g1 d1 => hr σ F1 H1 (R.more g1)⟩
end
end PP
set_option Elab.async false
set_option linter.all false
set_option autoImplicit false
set_option maxRecDepth 100000
set_option maxHeartbeats 1000000
namespace PP
open PySem L2
theorem icount_eq : ∀ (ks vs : List Int), vs.Nodup → (∀ v, v ∈ vs ↔ v ∈ ks) → vs.length = icount ks
  | [], vs, _, h => by
    have : vs = [] := List.eq_nil_iff_forall_not_mem.mpr fun v hv => by have := (h v).mp hv; cases this
    rw [this]; rfl
  | k :: ks, vs, nd, h => by
    unfold icount
    by_cases hk : k ∈ ks
    · rw [if_pos hk]
      refine icount_eq ks vs nd fun v => (h v).trans ⟨fun q => ?_, List.mem_cons_of_mem _⟩
      rcases List.mem_cons.mp q with e | q
      · rw [e]; exact hk
      · exact q
    · rw [if_neg hk]
      have hv : k ∈ vs := (h k).mpr List.mem_cons_self
      have ih := icount_eq ks (vs.erase k) (nd.erase k) fun v => by
        rw [nd.mem_erase_iff, h v, List.mem_cons]
        constructor
        · rintro ⟨q1, q2⟩; exact q2.resolve_left q1
        · exact fun q => ⟨fun e => hk (e ▸ q), .inr q⟩
      rw [List.length_erase_of_mem hv] at ih
      have : 0 < vs.length := List.length_pos_of_mem hv
      omega
theorem dedup_nd : ∀ (l ks : List Int), ks.Nodup → (l.foldl PyProof.Rows.step_dedup ks).Nodup
  | [], ks, h => h
  | a :: l, ks, h => by
    rw [List.foldl_cons, PySem.W.oss_step]
    refine dedup_nd l _ ?_
    by_cases m : a ∈ ks
    · rw [if_pos m]; exact h
    · rw [if_neg m]
      exact (List.perm_append_singleton a ks).nodup_iff.mpr (List.nodup_cons.mpr ⟨m, h⟩)
theorem oss_nodup (l : List Int) : (PySem.W.ossOf l).Nodup := dedup_nd l [] .nil
theorem oss_icount (l : List Int) : (PySem.W.ossOf l).length = icount l := icount_eq l _ (oss_nodup l) fun v => PySem.W.oss_has
def tLenI (K : PySem.W.Frag) (ta : TE) : TE := fun σ H Q => ta σ H fun x H1 => ∃ (l : Addr) (ns : List Int), x = .ref l ∧ SqL K H1 l (ns.map V.int) ∧ ns.length ≤ 4000 ∧ Q (.int (icount ns : Nat)) H1
theorem pe_lenI {X : Cx} {a : Expr} {ta : TE} {p p2 q pos : Pos} (hc : X.calm = true) (hg : Gl X "len") (hm : X.mg "len" = none) (hg2 : Gl X "set") (hm2 : X.mg "set" = none) (ha : PE X a ta)
    (na : starEach [a] X.env = (false, eval a X.env) :: starEach [] X.env) : PE X (.Call (.Name "len" p) [.Call (.Name "set" p2) [a] [] q] [] pos) (tLenI X.K ta) := by
  constructor
  intro pins s σ H Q I h
  refine PyProof.Rows.Call_ (ld_blt I hg hm boot_len (PyProof.Rows.callWith_builtin1 (PyProof.Rows.args_cons ?_ rfl) rfl rfl))
  refine PyProof.Rows.Call_ (ld_blt I hg2 hm2 PyProof.Rows.boot_set ?_)
  refine PyProof.Rows.callWith_type1 (PyProof.Rows.args_cons (thn (ha.run pins s σ H _ I h) ?_) na) na rfl
  rintro v s1 ⟨x, H1, I1, r1, q1⟩
  refine PyProof.Rows.args_nil ?_
  obtain ⟨l, ns, rfl, hq, hl, q1⟩ := q1
  cases r1
  obtain ⟨its, r, pl, hz⟩ := I1.list hq
  have hln : its.toArray.size = ns.length := by rw [List.size_toArray, ← r.length, List.length_map]
  refine PySem.call_set_list (I1.ok.hd hc) pl.isList (by simpa using RZ.intsAre_vals r) (by rw [hln]; unfold scanBound; omega) ?_
  intro h' tk hS hk
  refine PyProof.Rows.args_nil ?_
  rw [hln, PySem.W.oss_met] at hS
  obtain ⟨o, es, ep, t, ho, hex, hd, _, _, _, hf, hn⟩ := hS
  have I2 : Inv X pins σ H1 { s1 with heap := h', toks := tk } := I1.kept fun b o e => hk b o (Heap.lt_size e) e
  have hle : (PySem.W.ossOf ns).length ≤ ns.length := PySem.W.oss_len ns
  exact call_len_set ho hex hd hf (by rw [hn]; omega) ⟨.int (icount ns : Nat), H1, I2.tok _, ⟨_, by rw [hn, oss_icount]⟩, q1⟩
theorem q_lensi {X : Cx} {E : EX} {C : Nat → List R → Rs R} {a : Expr} {xa : Ex} {p p2 q pos : Pos} (hc : X.calm = true) (hg : Gl X "len") (hm : X.mg "len" = none) (hg2 : Gl X "set") (hm2 : X.mg "set" = none) (ha : PE X a (tOf X.K E (ev C xa)))
    (hs : starEach [a] X.env = (false, eval a X.env) :: starEach [] X.env) : PE X (.Call (.Name "len" p) [.Call (.Name "set" p2) [a] [] q] [] pos) (tOf X.K E (ev C (.lensi xa))) := by
  refine pe_of (pe_lenI hc hg hm hg2 hm2 ha hs) fun σ H Q h => ?_
  obtain ⟨ρ, F, R, h⟩ := h
  rw [ev] at h
  refine ⟨ρ, F, R, h.bind fun x hx v F1 H1 g1 d1 => ?_⟩
  have hx : Ans X.K E (match x.lst? with
    | some xs => match ints? xs with
      | some ks => if ks.length < 64 then .ok (.d (.int (icount ks : Nat))) else .bad
      | none => .bad
    | none => .bad) F1 H1 Q := hx.grow g1
  cases e1 : x.lst? with
  | none => rw [e1] at hx; exact hx.elim
  | some xs =>
    simp only [e1] at hx
    cases e2 : ints? xs with
    | none => rw [e2] at hx; exact hx.elim
    | some ks =>
      simp only [e2] at hx
      split at hx
      · rename_i hz
        obtain ⟨l, vs, rfl, q, t⟩ := d1.lst g1.sub e1
        rw [ints_of e2] at t
        rw [dn_ints t] at q
        exact ⟨l, ks, rfl, .inl (.inl q), by omega, hx _ F1 H1 (Grow.refl g1.sub) (.int _)⟩
      · exact hx.elim
end PP
set_option Elab.async false
set_option linter.all false
set_option autoImplicit false
set_option maxRecDepth 100000
set_option maxHeartbeats 1000000
namespace PP
open PySem L2
section
open PyProof.Rows PySem.SeqAt
variable {prog : Program} {w : World} {A : Around} {E : Value → Shared → Prop} {s : Shared}
theorem applied_rev {sl : Addr} {vs : Value} {n : Nat} {Q : Int × Int × Nat → Shared → Prop} (hs : s.heap.IsSliceOf sl .none .none vs) (p : IsPart vs (some (-1)))
    (h : Q ((n : Int) - 1, -1, n) s) : wpAny (model prog w) A (Builtin.Slice.sliceApplied (.ref sl) (pure (n : Int))) Q E s := by
  obtain ⟨os, hos, hcs, hds⟩ := id hs
  unfold Builtin.Slice.sliceApplied Builtin.Slice.sliceFields
  refine wpAny_bind (wpAny_bind (wpAny_field hos hds (x := .none) rfl (wpAny_bind (wpAny_field hos hds (x := .none) rfl (wpAny_bind (wpAny_field hos hds (x := vs) rfl (wpAny_pure ?_)))))))
  refine wpAny_bind (HT.slicePart_ p ?_)
  show wpAny _ _ (if ((-1 : Int) == 0) = true then _ else _) _ _ s
  rw [if_neg (by decide)]
  refine wpAny_bind (HT.slicePart_ .none (wpAny_bind (HT.slicePart_ .none (wpAny_bind (wpAny_pure ?_)))))
  show wpAny _ _ (pure ((n : Int) - 1, (-1 : Int), Builtin.Slice.slicePlaces ((n : Int) - 1) (-1) (-1))) _ _ s
  have e : Builtin.Slice.slicePlaces ((n : Int) - 1) (-1) (-1) = n := by
    unfold Builtin.Slice.slicePlaces
    rw [if_neg (by decide)]
    by_cases hn : n = 0
    · subst hn; rfl
    · rw [if_pos (by omega), show -(-1 : Int) = 1 by decide, Int.ediv_one]; omega
  rw [e]
  exact wpAny_pure h
theorem fm_congr {α β : Type} {f g : α → Option β} : ∀ {l : List α}, (∀ x ∈ l, f x = g x) → l.filterMap f = l.filterMap g
  | [], _ => rfl
  | a :: l, h => by
    rw [List.filterMap_cons, List.filterMap_cons, h a (List.mem_cons_self ..), fm_congr fun x hx => h x (List.mem_cons_of_mem _ hx)]
theorem pick_rev (xs : Array Value) : ((List.range xs.size).filterMap fun (m : Nat) => xs[((xs.size : Int) - 1 + (m : Int) * (-1)).toNat]?).toArray = xs.toList.reverse.toArray := by
  have e : (List.range xs.size).filterMap (fun (m : Nat) => xs[((xs.size : Int) - 1 + (m : Int) * (-1)).toNat]?) = ((List.range xs.size).map (fun k => xs.size - 1 - k)).filterMap (xs[·]?) := by
    rw [List.filterMap_map]
    refine fm_congr fun m hm => ?_
    have := List.mem_range.mp hm
    have q : ((xs.size : Int) - 1 + (m : Int) * (-1)).toNat = xs.size - 1 - m := by omega
    rw [q]; rfl
  rw [e, PySem.W.krv_range, List.filterMap_reverse, PySem.W.krv_all]
theorem getItem_tup_rev {t sl : Addr} {items : Array Value} {vs : Value} {Q : Value → Shared → Prop} (ht : IsTup s.heap t items) (hs : s.heap.IsSliceOf sl .none .none vs) (p : IsPart vs (some (-1)))
    (h : Q (.ref s.heap.objs.size) { s with heap := s.heap.push { cls := .type "tuple", data := .seq items.toList.reverse.toArray } })
    (hsz : items.size ≤ sizeLine) : wpAny (model prog w) A (getItem (.ref t) (.ref sl)) Q E s := by
  have hfit : sizeOk (.seq items.toList.reverse.toArray) := by
    show items.toList.reverse.toArray.size ≤ sizeLine
    rw [List.size_toArray, List.length_reverse, Array.length_toList]; exact hsz
  obtain ⟨os, hos, hcs, hds⟩ := id hs
  have hTs : s.TypeIs (.ref sl) "slice" := ⟨os, hos, hcs⟩
  unfold getItem
  try with_reducible refine wpAny_holding ?_
  first | refine wpAny_bind (wpAny_pure ?_) | skip
  refine wpAny_bind (wpAny_sequenceKey ht.typeIs (by decide) ?_)
  refine wpAny_bind (wpAny_callSpecial?_slot (name := Str.ofString "__getitem__") ht.typeIs PyProof.Rows.slot_tuple_getitem (wpAny_call_entry PyProof.Rows.slot_tuple_getitem ht.typeIs PyProof.Rows.entry_tuple_getitem ?_ (PyProof.Rows.args_tuple_getitem _ _)))
  show wpAny _ _ (Builtin.Tuple.tupleItemsOf (.ref t) >>= _) _ _ s
  refine wpAny_bind (PyProof.Rows.tupleItemsOf_ ht (wpAny_bind (wpAny_typeOf hTs ?_)))
  rw [if_pos (by decide)]
  refine wpAny_bind (applied_rev hs p ?_)
  show wpAny _ _ (if (((items.size : Int) - 1 == 0) && ((-1 : Int) == 1) && (items.size == items.size)) = true then _ else _) _ _ s
  rw [if_neg (by simp), pick_rev]
  first
    | exact wpAny_bind (m := Builtin.Tuple.tupleExact _) (wpAny_newObj_type (wpAny_pure ⟨_, rfl, wpAny_pure h⟩) hfit)
    | exact wpAny_bind (m := Builtin.Tuple.tupleExact _) (wpAny_newObj_type (wpAny_bind (wpAny_pure (wpAny_pure ⟨_, rfl, wpAny_pure h⟩))) hfit)
    | exact wpAny_bind (wpAny_bind (m := Builtin.Tuple.tupleExact _) (wpAny_newObj_type (wpAny_pure (wpAny_pure ⟨_, rfl, wpAny_pure h⟩)) hfit))
    | exact wpAny_bind (wpAny_bind (m := Builtin.Tuple.tupleExact _) (wpAny_newObj_type (wpAny_pure ⟨_, rfl, wpAny_pure h⟩) hfit))
end
def tRev (K : PySem.W.Frag) (te : TE) : TE := fun σ H Q => te σ H fun x H1 => ∃ a xs, x = .ref a ∧ ((SqL K H1 a xs ∧ ∀ p, H1 p = none → Q (.ref p) (upd H1 p (.lst xs.reverse))) ∨ (SqT K H1 a xs ∧ ∀ p, H1 p = none → Q (.ref p) (upd H1 p (.tup xs.reverse))))
theorem pe_rev {X : Cx} {e : Expr} {te : TE} {k : Nat} {p1 p2 p3 pos : Pos} (he : PE X e te) : PE X (.Subscript e (.Slice none none (some (.UnaryOp .USub (.Constant (.int 1) k p1) p2)) p3) pos) (tRev X.K te) := by
  constructor
  intro pins s σ H Q I h
  refine PyProof.Rows.Subscript_ (thn (he.run pins s σ H _ I h) ?_)
  rintro v s1 ⟨x, H1, I1, r1, a, xs, ex, q1⟩
  subst ex
  cases r1
  have hst : PO X (some (.UnaryOp .USub (.Constant (.int 1) k p1) p2)) (tPart (tUn (rU fun i => .int (-i)) (tC (.int 1)))) := po_some (pe_un un_neg pe_int)
  refine wpAny_Slice (thn (po_none.run pins s1 σ H1 (fun o H2 => o = none ∧ H2 = H1) I1 ⟨rfl, rfl⟩) ?_)
  rintro vl s2 ⟨l, H2, I2, pl, el, e2⟩
  subst el e2
  refine thn (po_none.run pins s2 σ H2 (fun o H3 => o = none ∧ H3 = H2) I2 ⟨rfl, rfl⟩) ?_
  rintro vu s3 ⟨u, H3, I3, pu, eu, e3⟩
  subst eu e3
  refine thn (hst.run pins s3 σ H3 (fun o H4 => o = some (-1) ∧ H4 = H3) I3 ⟨1, rfl, -1, rfl, rfl, rfl⟩) ?_
  rintro vs s4 ⟨o, H4, I4, ps, eo, e4⟩
  subst eo e4
  have I5 : Inv X pins σ H4 { s4 with heap := s4.heap.push { cls := .type "slice", data := .fields #[vl, vu, vs] } } := I4.kept (t' := s4.toks) fun b ob q => Heap.get?_push_of_some _ q
  show wpAny (model X.prog X.w) X.A (PyProof.Rows.subscriptTail e (.Slice none none (some (.UnaryOp .USub (.Constant (.int 1) k p1) p2)) p3) (.ref a) (.ref s4.heap.objs.size)) (EP X pins σ Q) X.xe { s4 with heap := s4.heap.push { cls := .type "slice", data := .fields #[vl, vu, vs] } }
  rcases q1 with ⟨hx, q⟩ | ⟨hx, q⟩
  · obtain ⟨its, r, ht, hz⟩ := I5.list hx
    have hlen := r.length
    refine PyProof.Rows.tail_any (ops := [.ref a, .ref s4.heap.objs.size]) ht.isList.typeIs (PySem.slot_list_getitem.lookup) ?_ (by with_unfolding_all rfl)
    refine wpAny_getItem_list_slice ht.isList (Heap.IsSliceOf.new _ vl vu vs) pl pu ps (by decide) ?_ (by rw [List.size_toArray]; omega)
    rw [PySem.W.krv_pick]
    refine ⟨.ref _, _, I5.laid (t' := s4.toks) (o := .lst xs.reverse) (fun b ob q => Heap.get?_push_of_some _ q) (Nat.le_refl _) ?_, rfl, q _ (I5.hok.fresh (Nat.le_refl _))⟩
    exact ⟨by rw [List.length_reverse]; exact hz, _, 0, r.reverse, Heap.get?_push_size _ rfl⟩
  · obtain ⟨its, r, ht, hz⟩ := I5.tuple hx
    have hlen := r.length
    have el : vl = .none := by cases pl; rfl
    have eu : vu = .none := by cases pu; rfl
    subst el eu
    refine PyProof.Rows.tail_any (ops := [.ref a, .ref s4.heap.objs.size]) ht.typeIs PyProof.Rows.slot_tuple_getitem.lookup ?_ (by with_unfolding_all rfl)
    refine getItem_tup_rev ht (Heap.IsSliceOf.new _ .none .none vs) ps ?_ (by rw [List.size_toArray]; omega)
    refine ⟨.ref _, _, I5.laid (t' := s4.toks) (o := .tup xs.reverse) (fun b ob q => Heap.get?_push_of_some _ q) (Nat.le_refl _) ?_, rfl, q _ (I5.hok.fresh (Nat.le_refl _))⟩
    exact ⟨by rw [List.length_reverse]; exact hz, _, r.reverse, PyProof.Rows.IsTup.new _ _⟩
theorem q_rev {X : Cx} {E : EX} {C : Nat → List R → Rs R} {a : Expr} {xa : Ex} {k : Nat} {p1 p2 p3 pos : Pos} (ha : PE X a (tOf X.K E (ev C xa))) :
    PE X (.Subscript a (.Slice none none (some (.UnaryOp .USub (.Constant (.int 1) k p1) p2)) p3) pos) (tOf X.K E (ev C (.rev xa))) := by
  refine pe_of (pe_rev ha) fun σ H Q h => ?_
  obtain ⟨ρ, F, R, h⟩ := h
  rw [ev] at h
  refine ⟨ρ, F, R, h.bind fun x hx v F1 H1 g1 d1 => ?_⟩
  have hx := hx.grow g1
  unfold revR at hx
  split at hx
  · rename_i xs
    cases d1 with
    | tup r t =>
      refine ⟨_, _, rfl, .inr ⟨same_t g1.sub r, fun p hp => ?_⟩⟩
      exact hx (.ref p) _ _ (Grow.new g1.sub hp) (.tup (.inl (.inl upd_same)) (t.reverse.mono (same_new (g1.sub.free hp))))
  · split at hx
    · rename_i xs e
      obtain ⟨l, vs, rfl, q, t⟩ := d1.lst g1.sub e
      exact ⟨l, vs, rfl, .inl ⟨.inl (.inl q), fun p hp => Ans.newL hx g1.sub hp t.reverse⟩⟩
    · exact hx.elim
end PP
set_option Elab.async false
set_option linter.all false
set_option autoImplicit false
set_option maxRecDepth 100000
set_option maxHeartbeats 1000000
namespace PP
open PySem L2
section
variable {X : Cx} {E : EX} {C : Nat → List R → Rs R} {b : Expr} {xb : Ex} {x : Str} {d : Addr} {p pos : Pos} {kvs : List (Str × D)}
def DctK (K : PySem.W.Frag) (w : World) (d : Addr) (kvs : List (Str × D)) : Prop :=
  ∃ es n, K.lookup d = some ⟨.type "dict", none, .dict es n, #[]⟩ ∧ PySem.W.KeysLit w.params es.toList ∧ (d == sysModules) = false ∧ (es.size = kvs.length ∧ ∀ (i : Nat) x dv, kvs[i]? = some (x, dv) → ∃ (en : DictEntry) (t : Tok), es[i]? = some en ∧ en.key = Value.str x t) ∧ ∀ z, ∃ r, PySem.W.nsIn K d z = some r ∧ r.isSome = (kvs.lookup z).isSome ∧ ∀ dv, kvs.lookup z = some dv → ∃ u v, r = some u ∧ RelV v u ∧ ∀ F, Dn K F v dv
theorem q_dget (hn : PE X (.Name x p) (tC (.ref d))) (hk : DctK X.K X.w d kvs) (hb : PE X b (tOf X.K E (ev C xb))) (hs : PlainIx b) : PE X (.Subscript (.Name x p) b pos) (tOf X.K E (ev C (.dget kvs xb))) := by
  refine pe_of (pe_ix ix_kdict hn hb hs) fun σ H Q h => ?_
  obtain ⟨ρ, F, R, h⟩ := h
  rw [ev] at h
  refine ⟨ρ, F, R, h.bind fun y hy v F1 H1 g1 d1 => ?_⟩
  have hy := hy.grow g1
  cases y with
  | d y =>
    cases y with
    | str z =>
      have hy : Ans X.K E (match kvs.lookup z with
        | some d => .ok (.d d)
        | none => .bad) F1 H1 Q := hy
      cases e : kvs.lookup z with
      | none => rw [e] at hy; exact hy.elim
      | some dv =>
        rw [e] at hy
        cases d1 with
        | str _ hz =>
          obtain ⟨es, n, h1, h2, _, _, h3⟩ := hk
          obtain ⟨r, r1, _, r3⟩ := h3 z
          obtain ⟨u, v, rfl, rv, dn⟩ := r3 dv e
          exact ⟨d, z, v, rfl, rfl, ⟨es, n, u, h1, h2, r1, rv⟩, hy.val g1.sub (dn F1)⟩
    | _ => exact hy.elim
  | _ => exact hy.elim
theorem lookup_zip {α : Type} : ∀ {ks : List Str} {vs : List α} {z : Str} {v : α}, (ks.zip vs).lookup z = some v → ∃ i : Nat, ks[i]? = some z ∧ vs[i]? = some v ∧ ∀ j, j < i → ks[j]? ≠ some z
  | [], _, _, _, e => by cases e
  | _ :: _, [], _, _, e => by cases e
  | k :: ks, w :: vs, z, v, e => by
    rw [List.zip_cons_cons, List.lookup_cons] at e
    by_cases q : z == k
    · rw [q] at e
      cases e
      exact ⟨0, by rw [beq_iff_eq.mp q]; rfl, rfl, fun j hj => absurd hj (Nat.not_lt_zero j)⟩
    · rw [Bool.eq_false_iff.mpr q] at e
      obtain ⟨i, h1, h2, h3⟩ := lookup_zip e
      refine ⟨i + 1, by simpa using h1, by simpa using h2, fun j hj => ?_⟩
      cases j with
      | zero =>
        intro e
        simp at e
        exact q (beq_iff_eq.mpr e.symm)
      | succ j => simpa using h3 j (by omega)
theorem merge_nodup : ∀ (more acc : List (Key × V)), (more.map (·.1)).Nodup → (∀ kv ∈ more, ∀ a ∈ acc, ¬ a.1 = kv.1) → mergeK acc more = acc ++ more
  | [], acc, _, _ => by simp [mergeK]
  | kv :: more, acc, nd, h => by
    rw [List.map_cons, List.nodup_cons] at nd
    have e : putK acc kv.1 kv.2 = acc ++ [kv] := by
      unfold putK
      rw [if_neg]
      rw [List.any_eq_true]
      rintro ⟨a, ha, q⟩
      exact h kv (List.mem_cons_self ..) a ha (of_decide_eq_true q)
    show mergeK (putK acc kv.1 kv.2) more = _
    rw [e, merge_nodup more (acc ++ [kv]) nd.2 (fun x hx a ha => ?_)]
    · simp
    · rcases List.mem_append.mp ha with q | q
      · exact h x (List.mem_cons_of_mem _ hx) a q
      · simp at q
        subst q
        exact fun z => nd.1 (by rw [z]; exact List.mem_map.mpr ⟨x, hx, rfl⟩)
theorem valV_zip : ∀ {ks : List Str} {vs : List V} {i : Nat} {z : Str} {v : V}, ks[i]? = some z → vs[i]? = some v → (∀ j, j < i → ks[j]? ≠ some z) → valV ((ks.map Sum.inr : List Key).zip vs) (.inr z) = some v
  | [], _, _, _, _, e, _, _ => by simp at e
  | _ :: _, [], _, _, _, _, e, _ => by simp at e
  | k :: ks, w :: vs, 0, z, v, e1, e2, _ => by
    simp at e1 e2
    subst e1; subst e2
    rw [List.map_cons, List.zip_cons_cons]
    exact valV_pos rfl
  | k :: ks, w :: vs, i + 1, z, v, e1, e2, h => by
    have hne : ¬ k = z := fun e => h 0 (by omega) (by rw [e]; rfl)
    rw [List.map_cons, List.zip_cons_cons]
    rw [valV_neg (fun e => hne (by cases e; rfl))]
    exact valV_zip (i := i) (by simpa using e1) (by simpa using e2) (fun j hj => by have := h (j + 1) (by omega); simpa using this)
/-- pairs of written texts and values -/
def PairsOk (X : Cx) (E : EX) (C : Nat → List R → Rs R) (pos : Pos) (ks : List Str) (xs : Exs) (keys : List (Option Expr)) (values : List Expr) : Prop :=
  ∃ trs, PPs X pos keys values trs ∧ ∀ σ H Q, tOfA X.K E (evs C xs) σ H (fun vs H' => Q ((ks.map V.str).zip vs) H') → tPairs trs σ H Q
theorem pairs_nil {pos : Pos} : PairsOk X E C pos [] .nil [] [] := by
  refine ⟨[], pps_nil, fun σ H Q h => ?_⟩
  obtain ⟨ρ, F, R, h⟩ := h
  rw [evs] at h
  exact h [] F H (Grow.refl R.sub) trivial
theorem pairs_cons {pos kp : Pos} {k : Str} {kk : Nat} {v : Expr} {xv : Ex} {ks : List Str} {xs : Exs} {keys : List (Option Expr)} {values : List Expr} (hv : PE X v (tOf X.K E (ev C xv))) (hr : PairsOk X E C pos ks xs keys values) :
    PairsOk X E C pos (k :: ks) (.cons xv xs) (some (.Constant (.str k) kk kp) :: keys) (v :: values) := by
  obtain ⟨trs, h1, h2⟩ := hr
  refine ⟨_, pps_cons pe_str hv h1, fun σ H Q h => ?_⟩
  obtain ⟨ρ, F, R, h⟩ := h
  rw [evs] at h
  show tOf X.K E (ev C xv) σ H _
  refine ⟨ρ, F, R, Ans.bindA h fun x hx v F1 H1 g1 d1 => ?_⟩
  refine h2 σ H1 _ ⟨ρ, F1, R.grow g1, ?_⟩
  cases q : evs C xs ρ with
  | bad => rw [q] at hx; exact hx
  | err c => rw [q] at hx; exact fun F' H' g => hx F' H' (g1.trans g)
  | ok rs => rw [q] at hx; exact fun vs F2 H2 g2 d2 => hx (v :: vs) F2 H2 (g1.trans g2) ⟨d1.grow g2, d2.back g1.hp⟩
theorem zip_fst {α β : Type} : ∀ (l : List α) (r : List β), (l.zip r).map (·.1) = l.take r.length
  | [], _ => by simp
  | _ :: _, [] => by simp
  | a :: l, b :: r => by
    rw [List.zip_cons_cons, List.map_cons, zip_fst l r]; rfl
theorem zip_kV : ∀ (ks : List Str) (vs : List V), (ks.map V.str).zip vs = ((ks.map Sum.inr : List Key).zip vs).map (fun kv => (kV kv.1, kv.2))
  | [], _ => rfl
  | _ :: _, [] => rfl
  | k :: ks, v :: vs => by
    rw [List.map_cons, List.zip_cons_cons, zip_kV ks vs, List.map_cons, List.zip_cons_cons]; rfl
theorem q_dsel {ks : List Str} {xs : Exs} {keys : List (Option Expr)} {values : List Expr} {dp : Pos} (hu : X.A.units + 1 < cLine) (hp : PairsOk X E C dp ks xs keys values) (hall : keys.all (·.isSome) = true) (hl : keys.length = values.length) (h0 : keys ≠ []) (h15 : keys.length ≤ 15)
    (nd : ks.Nodup) (hk15 : ks.length ≤ 15) (hb : PE X b (tOf X.K E (ev C xb))) (hs : NoSl b) : PE X (.Subscript (.Dict keys values dp) b pos) (tOf X.K E (ev C (.dsel ks xs xb))) := by
  obtain ⟨trs, pp, hq⟩ := hp
  refine pe_of (pe_dget hu (pe_disp pp hall hl h0 h15) hb hs) fun σ H Q h => ?_
  obtain ⟨ρ, F, R, h⟩ := h
  rw [ev] at h
  intro p hp
  have g0 : Grow F H F (upd H p (.dK [])) := Grow.own R.sub hp
  refine hq σ _ _ ⟨ρ, F, R.grow g0, ?_⟩
  cases q : evs C xs ρ with
  | bad => rw [q] at h; exact h.elim
  | err c => rw [q] at h; exact fun F' H' g => h F' H' (g0.trans g)
  | ok rs =>
    rw [q] at h
    intro vs F1 H1 g1 d1
    obtain ⟨ds, e, hk⟩ := Ans.frzAll h
    obtain ⟨F2, g2, s2, t2⟩ := frzN g1 (Same.refl F1) d1 e
    have hF2 : F2 p = none := (g2.old p _ upd_same).trans (R.sub.free hp)
    have hH1 : H1 p = some (.dK []) := g2.hp _ _ upd_same
    refine ⟨hH1, (ks.map Sum.inr : List Key).zip vs, zip_kV ks vs, ?_, ?_⟩
    · rw [List.length_zip, List.length_map]; omega
    · have em : mergeK [] ((ks.map Sum.inr : List Key).zip vs) = (ks.map Sum.inr : List Key).zip vs := by
        have hnd : (((ks.map Sum.inr : List Key).zip vs).map (·.1)).Nodup := by
          have hm : ((ks.map Sum.inr : List Key).zip vs).map (·.1) = (ks.map Sum.inr : List Key).take vs.length := by
            exact zip_fst _ _
          rw [hm]
          refine List.Pairwise.sublist (List.take_sublist _ _) ?_
          exact List.pairwise_map.mpr (nd.imp fun a e => a (by cases e; rfl))
        rw [merge_nodup _ [] hnd (fun _ _ a ha => by cases ha), List.nil_append]
      rw [em]
      have g3 : Grow F H F2 (upd H1 p (.dK ((ks.map Sum.inr : List Key).zip vs))) := by
        refine ⟨g2.fr, fun a o ea => ?_, fun a o ea => ?_, (g0.trans g2).old⟩
        · have hne : a ≠ p := fun z => by rw [z, hp] at ea; cases ea
          rw [upd_ne hne]
          exact (g0.trans g2).hp a o ea
        · have hne : a ≠ p := fun z => by rw [z, hF2] at ea; cases ea
          rw [upd_ne hne]
          exact g2.sub a o ea
      refine ⟨ρ, F2, R.grow g3, (hk.grow g3).bind fun y hy v F4 H4 g4 d4 => ?_⟩
      have hy := hy.grow g4
      cases y with
      | d y =>
        cases y with
        | str z =>
          have hy : Ans X.K E (match (ks.zip ds).lookup z with
            | some d => .ok (.d d)
            | none => .bad) F4 H4 Q := hy
          cases ez : (ks.zip ds).lookup z with
          | none => rw [ez] at hy; exact hy.elim
          | some dv =>
            rw [ez] at hy
            obtain ⟨i, i1, i2, i3⟩ := lookup_zip ez
            obtain ⟨w, w1, w2⟩ := t2.getD i2
            cases d4 with
            | str _ hz =>
              exact ⟨p, w, rfl, .inl ⟨_, .inr z, .inl (g4.hp _ _ upd_same), rfl, (valV_zip i1 w1 i3).symm⟩, hy.val g4.sub (w2.mono g4.fr)⟩
        | _ => exact hy.elim
      | _ => exact hy.elim
theorem q_tdsp {ks : List Str} {xs : Exs} {keys : List (Option Expr)} {values : List Expr} {dp : Pos} (hp : PairsOk X E C dp ks xs keys values) (hall : keys.all (·.isSome) = true) (hl : keys.length = values.length) (h0 : keys ≠ []) (h15 : keys.length ≤ 15)
    (nd : ks.Nodup) (hk15 : ks.length ≤ 15) : PE X (.Dict keys values dp) (tOf X.K E (ev C (.tdsp ks xs))) := by
  obtain ⟨trs, pp, hq⟩ := hp
  refine pe_of (pe_disp pp hall hl h0 h15) fun σ H Q h => ?_
  obtain ⟨ρ, F, R, h⟩ := h
  rw [ev] at h
  intro p hp
  have g0 : Grow F H F (upd H p (.dK [])) := Grow.own R.sub hp
  refine hq σ _ _ ⟨ρ, F, R.grow g0, ?_⟩
  cases q : evs C xs ρ with
  | bad => rw [q] at h; exact h.elim
  | err c => rw [q] at h; exact fun F' H' g => h F' H' (g0.trans g)
  | ok rs =>
    rw [q] at h
    intro vs F1 H1 g1 d1
    obtain ⟨ds, e, hk⟩ := Ans.frzAll h
    obtain ⟨F2, g2, s2, t2⟩ := frzN g1 (Same.refl F1) d1 e
    have hF2 : F2 p = none := (g2.old p _ upd_same).trans (R.sub.free hp)
    have hH1 : H1 p = some (.dK []) := g2.hp _ _ upd_same
    refine ⟨hH1, (ks.map Sum.inr : List Key).zip vs, zip_kV ks vs, ?_, ?_⟩
    · rw [List.length_zip, List.length_map]; omega
    · have em : mergeK [] ((ks.map Sum.inr : List Key).zip vs) = (ks.map Sum.inr : List Key).zip vs := by
        have hnd : (((ks.map Sum.inr : List Key).zip vs).map (·.1)).Nodup := by
          rw [zip_fst]
          refine List.Pairwise.sublist (List.take_sublist _ _) ?_
          exact List.pairwise_map.mpr (nd.imp fun a e => a (by cases e; rfl))
        rw [merge_nodup _ [] hnd (fun _ _ a ha => by cases ha), List.nil_append]
      rw [em]
      refine hk (.ref p) (upd F2 p (.dK ((ks.map Sum.inr : List Key).zip vs))) _ ⟨fun a o ea => ?_, fun a o ea => ?_, fun a o ea => ?_, fun a o ea => ?_⟩ ⟨p, _, rfl, upd_same, ks, vs, ds, rfl, rfl, t2.mono (same_new hF2)⟩
      · have hne : a ≠ p := fun z => by rw [z, R.sub.free hp] at ea; cases ea
        rw [upd_ne hne]; exact g2.fr a o ea
      · have hne : a ≠ p := fun z => by rw [z, hp] at ea; cases ea
        rw [upd_ne hne]; exact (g0.trans g2).hp a o ea
      · by_cases hne : a = p
        · subst hne; rw [upd_same] at ea ⊢; exact ea
        · rw [upd_ne hne] at ea ⊢; exact g2.sub a o ea
      · have hne : a ≠ p := fun z => by rw [z, hp] at ea; cases ea
        rw [upd_ne hne]; exact (g0.trans g2).old a o ea
theorem q_tget {i : Nat} {y : Str} {p2 : Pos} (hu : X.A.units + 1 < cLine) (hn : PE X (.Name y p2) (tVar i)) (hb : PE X b (tOf X.K E (ev C xb))) (hs : NoSl b) : PE X (.Subscript (.Name y p2) b pos) (tOf X.K E (ev C (.tget i xb))) := by
  refine pe_of (pe_dget hu hn hb hs) fun σ H Q h => ?_
  obtain ⟨ρ, F, R, h⟩ := h
  rw [ev, slotTX, slotT] at h
  match e : ρ[i]? with
  | none => rw [e] at h; exact h.elim
  | some none => rw [e] at h; exact h.elim
  | some (some (.d _)) => rw [e] at h; exact h.elim
  | some (some (.l _)) => rw [e] at h; exact h.elim
  | some (some (.b _)) => rw [e] at h; exact h.elim
  | some (some (.s _)) => rw [e] at h; exact h.elim
  | some (some (.m _)) => rw [e] at h; exact h.elim
  | some (some (.n _)) => rw [e] at h; exact h.elim
  | some (some .q) => rw [e] at h; exact h.elim
  | some (some (.o _)) => rw [e] at h; exact h.elim
  | some (some (.t kvs)) =>
    rw [e] at h
    obtain ⟨v, e1, a, ps, rfl, hf, ks, vs, ds, rfl, rfl, t⟩ := R.slot i _ e
    have h : Ans X.K E (ev C xb ρ >>= fun x => dgetR (ks.zip ds) x) F H Q := h
    refine ⟨_, e1, ρ, F, R, h.bind fun y hy v F4 H4 g4 d4 => ?_⟩
    have hy := hy.grow g4
    cases y with
    | d y =>
      cases y with
      | str z =>
        have hy : Ans X.K E (match (ks.zip ds).lookup z with
          | some d => .ok (.d d)
          | none => .bad) F4 H4 Q := hy
        cases ez : (ks.zip ds).lookup z with
        | none => rw [ez] at hy; exact hy.elim
        | some dv =>
          rw [ez] at hy
          obtain ⟨i, i1, i2, i3⟩ := lookup_zip ez
          obtain ⟨w, w1, w2⟩ := t.getD i2
          cases d4 with
          | str _ hz =>
            exact ⟨a, w, rfl, .inl ⟨_, .inr z, .inl (g4.sub _ _ (g4.fr _ _ hf)), rfl, (valV_zip i1 w1 i3).symm⟩, hy.val g4.sub (w2.mono g4.fr)⟩
      | _ => exact hy.elim
    | _ => exact hy.elim
def Itw (ks : List Str) : L2.It := ⟨fun i _ => i < ks.length, fun i H x H' => H' = H ∧ ∃ k, ks[i]? = some k ∧ x = .str k, fun i _ => ks.length ≤ i⟩
theorem turn_w {P : Program} {w : World} {K : PySem.W.Frag} {tg : Expr} {d : Addr} {es : Array DictEntry} {ep : Nat} {ks : List Str} (it : Addr) (hl : K.lookup d = some ⟨.type "dict", none, .dict es ep, #[]⟩) (hsz : es.size = ks.length)
    (hk : ∀ (i : Nat) k, ks[i]? = some k → ∃ en t, es[i]? = some en ∧ en.key = Value.str k t) : Turn P w K tg (Itw ks) [it] it (fun i h => h.IsKeyIter it d i ks.length ep) where
  mem := by simp
  obj := by
    intro i h st b hb
    have e : b = it := by simpa using hb
    subst e
    obtain ⟨oi, e, c, dd⟩ := st
    exact ⟨oi, e, fun v z => by rw [dd] at z; cases z⟩
  keep := fun i h h' st k => st.at fun oi e => k it (by simp) oi e
  item := by
    intro X hP hw hK hc i pins s σ H E I hf st hi
    subst hP hw hK
    have hi : i < ks.length := hi
    obtain ⟨f0, f1, f2, f3, f4, f5⟩ := hf it (by simp)
    obtain ⟨en, t, e1, e2⟩ := hk i ks[i] (List.getElem?_eq_getElem hi)
    refine next_key_item st (I.kIn _ _ hl) rfl hsz e1 ?_
    intro h' st' sb
    have I1 : Inv X pins σ H { s with heap := h' } := I.turned (t' := s.toks) (fun b ob hb e => (sb.2 b hb).trans e) f0 f1 f3 f4 f5
    obtain ⟨oi, e, c, dd⟩ := id st'
    exact ⟨en.key, rfl, go_of (s := { s with heap := h' }) e c dd (by decide) ⟨.str ks[i], H, I1, ⟨t, e2⟩, ⟨rfl, ks[i], List.getElem?_eq_getElem hi, rfl⟩, st', fun b hb => (hf b hb).1⟩⟩
  done := by
    intro X hP hw hK hc i pins s σ H E I hf st hi
    subst hP hw hK
    obtain ⟨f0, f1, f2, f3, f4, f5⟩ := hf it (by simp)
    exact next_key_end (I.ok.hd hc) st (I.kIn _ _ hl) rfl hsz hi fun h' eb => ⟨rfl, I.turned (t' := s.toks) (fun b ob hb e => eb b ob hb e) f0 f1 f3 f4 f5⟩
  self := fun A i s Q E st h => wpAny_pyIter_keyiter st h
theorem itd_w {K : PySem.W.Frag} {G : Hp} {kvs : List (Str × D)} (ok : kvs.all (fun p => PyData.strOk p.1) = true) : ItD K G (Itw (kvs.map (·.1))) (kvs.map fun p => PyData.str p.1) := by
  unfold ItD
  rw [List.length_map]
  refine ⟨fun i H hi _ => by show i < (kvs.map (·.1)).length; rw [List.length_map]; exact hi, fun H _ => by show (kvs.map (·.1)).length ≤ _; rw [List.length_map]; exact Nat.le_refl _, fun i H x H' hi hG y => ?_⟩
  obtain ⟨rfl, k, e, rfl⟩ := y
  rw [List.getElem?_map] at e
  cases q : kvs[i]? with
  | none => rw [q] at e; cases e
  | some p =>
    rw [q] at e
    cases e
    refine ⟨.str p.1, by rw [List.getElem?_map, q]; rfl, fun F s1 s2 => ⟨F, Grow.refl s2, .str _ ?_⟩⟩
    exact List.all_eq_true.mp ok p (List.mem_of_getElem? q)
theorem q_dks {tg : Expr} (hn : PE X (.Name x p) (tC (.ref d))) (hk : DctK X.K X.w d kvs) (ok : kvs.all (fun p => PyData.strOk p.1) = true) : PI X tg (.Name x p) (tOfI X.K E (evI C (.dks kvs))) := by
  constructor
  intro pins s σ H Q I h
  obtain ⟨ρ, F, R, h⟩ := h
  rw [evI] at h
  obtain ⟨es, n, h1, h2, low, ⟨h4, h5⟩, h3⟩ := hk
  have hq := h (Itw (kvs.map (·.1))) F H (Grow.refl R.sub) (itd_w ok)
  refine thn (hn.run pins s σ H (fun v H' => v = .ref d ∧ H' = H) I ⟨rfl, rfl⟩) ?_
  rintro u s1 ⟨y, H1, I1, rx, ey, eH⟩
  subst ey
  subst eH
  obtain rfl : u = Value.ref d := rx
  refine iter_keys low (I1.kIn _ _ h1) ⟨rfl, rfl, rfl⟩ rfl (pi_one (tk := s1.toks) I1 _ (turn_w _ h1 (by rw [List.length_map]; exact h4) ?_) ⟨_, Heap.get?_push_size _ rfl, rfl, ?_⟩ hq)
  · intro i k e
    rw [List.getElem?_map] at e
    cases q : kvs[i]? with
    | none => rw [q] at e; cases e
    | some p =>
      rw [q] at e
      cases e
      obtain ⟨y, dv⟩ := p
      exact h5 i y dv q
  · rw [List.length_map, ← h4]; rfl
end
end PP
set_option Elab.async false
set_option linter.all false
set_option autoImplicit false
set_option maxRecDepth 100000
set_option maxHeartbeats 1000000
namespace PP
open PySem L2
section
variable {X : Cx} {E : EX} {C : Nat → List R → Rs R} {a : Expr} {xa : Ex}
theorem upp_eq {x : Str} (h : (x.cps.all fun c => decide (c < 128)) = true) : Txt.upper x = ⟨x.cps.map up1⟩ := by
  rw [PyProof.Rows.upper_ascii (fun c hc => by
    have := Array.all_eq_true'.mp h c (by simpa using hc)
    exact of_decide_eq_true this)]
  rfl
theorem upp_ok {x : Str} (h : (x.cps.all fun c => decide (c < 128)) = true) : PyData.strOk ⟨x.cps.map up1⟩ = true := by
  unfold PyData.strOk
  rw [Array.all_eq_true'] at h ⊢
  intro c hc
  obtain ⟨d, hd, rfl⟩ := Array.mem_map.mp hc
  have := of_decide_eq_true (h d hd)
  unfold up1
  split <;> exact decide_eq_true (by omega)
theorem q_upp {ap cp : Pos} (hb : attributeBase a "upper" X.env (eval a X.env) = eval a X.env) (hp : (ap.endLine == cp.line) = true) (ha : PE X a (tOf X.K E (ev C xa))) : PE X (.Call (.Attribute a "upper" ap) [] [] cp) (tOf X.K E (ev C (.upp xa))) := by
  refine pe_of (pe_bm0 PySem.F.plainAttrs_str PySem.F.slot_str_upper PySem.F.type_str_upper mt_upper ha hb hp) fun σ H Q h => ?_
  obtain ⟨ρ, F, R, h⟩ := h
  rw [ev] at h
  refine ⟨ρ, F, R, h.bind fun x hx v F1 H1 g1 d1 => ?_⟩
  have hx := hx.grow g1
  unfold uppR at hx
  split at hx
  · split at hx
    · rename_i hz
      obtain ⟨hl, hx⟩ := hx.fit
      cases d1 with
      | str _ _ =>
        refine ⟨rfl, _, rfl, rfl, Nat.le_trans hl (by unfold lim; decide), ?_⟩
        rw [upp_eq hz]
        exact hx.val g1.sub (.str _ (upp_ok hz))
    · exact hx.elim
  · exact hx.elim
theorem q_fnd {z : Str} {k : Nat} {p ap cp : Pos} (hp : (ap.endLine == cp.line) = true) (hs : starEach [a] X.env = (false, eval a X.env) :: starEach [] X.env) (ha : PE X a (tOf X.K E (ev C xa))) : PE X (.Call (.Attribute (.Constant (.str z) k p) "find" ap) [a] [] cp) (tOf X.K E (ev C (.fnd z xa))) := by
  refine pe_of (pe_bm PySem.F.plainAttrs_str PySem.F.slot_str_find PySem.F.type_str_find mt_find pe_str (pa_cons ha pa_nil hs) rfl (by rw [hs]; rfl) hp hs rfl) fun σ H Q h => ?_
  obtain ⟨ρ, F, R, h⟩ := h
  rw [ev] at h
  refine ⟨rfl, ρ, F, R, h.bind fun x hx v F1 H1 g1 d1 => ?_⟩
  have hx := hx.grow g1
  unfold fndR at hx
  split at hx
  · cases d1 with
    | str _ _ => exact ⟨z, _, rfl, rfl, hx.val g1.sub (.int _)⟩
  · exact hx.elim
theorem strs_of : ∀ {xs : List D} {ys : List Str}, strs? xs = some ys → xs = ys.map PyData.str
  | [], ys, h => by cases h; rfl
  | x :: xs, ys, h => by
    cases x with
    | str i =>
      unfold strs? at h
      split at h
      · rename_i l e
        cases h
        rw [strs_of e]
        rfl
      · cases h
    | _ => cases h
theorem dn_strs {K : PySem.W.Frag} {F : Hp} : ∀ {vs : List V} {ns : List Str}, DnAll K F vs (ns.map PyData.str) → vs = ns.map V.str ∧ ∀ z ∈ ns, PyData.strOk z = true
  | [], [], _ => ⟨rfl, fun z hz => by cases hz⟩
  | [], _ :: _, h => by cases h
  | _ :: _, [], h => by cases h
  | v :: vs, n :: ns, h => by
    cases h with
    | cons r t =>
      cases r with
      | str _ hn =>
        obtain ⟨e, q⟩ := dn_strs t
        rw [e]
        exact ⟨rfl, fun z hz => by
          rcases List.mem_cons.mp hz with rfl | hz
          · exact hn
          · exact q z hz⟩
theorem strOk_join {y : Str} (hy : PyData.strOk y = true) : ∀ ys : List Str, (∀ z ∈ ys, PyData.strOk z = true) → PyData.strOk (Str.join y ys) = true
  | [], _ => (by decide +kernel : PyData.strOk ⟨#[]⟩ = true)
  | [x], h => h x (List.mem_cons_self ..)
  | x :: z :: r, h => strOk_append (strOk_append (h x (List.mem_cons_self ..)) hy) (strOk_join hy (z :: r) fun w hw => h w (List.mem_cons_of_mem _ hw))
theorem q_jn {z : Str} {k : Nat} {p ap cp : Pos} (hz : PyData.strOk z = true) (hp : (ap.endLine == cp.line) = true) (hs : starEach [a] X.env = (false, eval a X.env) :: starEach [] X.env) (ha : PE X a (tOf X.K E (ev C xa))) : PE X (.Call (.Attribute (.Constant (.str z) k p) "join" ap) [a] [] cp) (tOf X.K E (ev C (.jn z xa))) := by
  refine pe_of (pe_bm PySem.F.plainAttrs_str PySem.F.slot_str_join PySem.F.type_str_join mt_join pe_str (pa_cons ha pa_nil hs) rfl (by rw [hs]; rfl) hp hs rfl) fun σ H Q h => ?_
  obtain ⟨ρ, F, R, h⟩ := h
  rw [ev] at h
  refine ⟨rfl, ρ, F, R, h.bind fun x hx v F1 H1 g1 d1 => ?_⟩
  have hx := hx.grow g1
  unfold jnR at hx
  cases e1 : x.lst? with
  | none => rw [e1] at hx; exact hx.elim
  | some xs =>
    simp only [e1] at hx
    cases e2 : strs? xs with
    | none => rw [e2] at hx; exact hx.elim
    | some ys =>
      simp only [e2] at hx
      split at hx
      · rename_i hl
        obtain ⟨l, vs, rfl, q, t⟩ := d1.lst g1.sub e1
        rw [strs_of e2] at t
        obtain ⟨ev, ok⟩ := dn_strs t
        rw [ev] at q
        refine ⟨z, l, ys, rfl, rfl, .inl (.inl (.inl q)), ?_, hx.val g1.sub (.str _ ?_)⟩
        · have : lim ≤ 16777216 := by decide
          omega
        · rw [TL.join_eq]; exact strOk_join hz ys ok
      · exact hx.elim
theorem q_sidx {z : Str} {k : Nat} {p ap cp : Pos} (hp : (ap.endLine == cp.line) = true) (hs : starEach [a] X.env = (false, eval a X.env) :: starEach [] X.env) (ha : PE X a (tOf X.K E (ev C xa))) : PE X (.Call (.Attribute (.Constant (.str z) k p) "index" ap) [a] [] cp) (tOf X.K E (ev C (.sidx z xa))) := by
  refine pe_of (pe_bm PySem.F.plainAttrs_str PySem.F.slot_str_index PySem.F.type_str_index mt_sindex pe_str (pa_cons ha pa_nil hs) rfl (by rw [hs]; rfl) hp hs rfl) fun σ H Q h => ?_
  obtain ⟨ρ, F, R, h⟩ := h
  rw [ev] at h
  refine ⟨rfl, ρ, F, R, h.bind fun x hx v F1 H1 g1 d1 => ?_⟩
  have hx := hx.grow g1
  unfold sidxR at hx
  split at hx
  · split at hx
    · rename_i e
      cases d1 with
      | str _ _ => exact ⟨z, _, _, _, rfl, rfl, e, hx.val g1.sub (.int _)⟩
    · exact hx.elim
  · exact hx.elim
theorem q_scnt {z : Str} {k : Nat} {p ap cp : Pos} (hb : attributeBase a "count" X.env (eval a X.env) = eval a X.env) (hp : (ap.endLine == cp.line) = true) (ha : PE X a (tOf X.K E (ev C xa))) : PE X (.Call (.Attribute a "count" ap) [.Constant (.str z) k p] [] cp) (tOf X.K E (ev C (.scnt xa z))) := by
  refine pe_of (pe_bm PySem.F.plainAttrs_str PySem.F.slot_str_count PySem.F.type_str_count mt_count ha (pa_cons pe_str pa_nil rfl) hb rfl hp rfl rfl) fun σ H Q h => ?_
  obtain ⟨ρ, F, R, h⟩ := h
  rw [ev] at h
  refine ⟨ρ, F, R, h.bind fun x hx v F1 H1 g1 d1 => ?_⟩
  have hx := hx.grow g1
  unfold scntR at hx
  split at hx
  · cases d1 with
    | str _ _ => exact ⟨rfl, _, _, rfl, rfl, hx.val g1.sub (.int _)⟩
  · exact hx.elim
end
end PP
set_option Elab.async false
set_option linter.all false
set_option autoImplicit false
set_option maxRecDepth 100000
set_option maxHeartbeats 1000000
namespace PP
open PySem L2
section
open PyProof.Rows PySem.SeqAt
variable {prog : Program} {w : World} {A : Around} {E : Value → Shared → Prop} {s : Shared}
theorem applied_stp {sl : Addr} {vs : Value} {n k : Nat} {Q : Int × Int × Nat → Shared → Prop} (hs : s.heap.IsSliceOf sl .none .none vs) (p : IsPart vs (some (k : Int))) (hk : 0 < k)
    (h : Q (0, (k : Int), (n + k - 1) / k) s) : wpAny (model prog w) A (Builtin.Slice.sliceApplied (.ref sl) (pure (n : Int))) Q E s := by
  obtain ⟨os, hos, hcs, hds⟩ := id hs
  unfold Builtin.Slice.sliceApplied Builtin.Slice.sliceFields
  refine wpAny_bind (wpAny_bind (wpAny_field hos hds (x := .none) rfl (wpAny_bind (wpAny_field hos hds (x := .none) rfl (wpAny_bind (wpAny_field hos hds (x := vs) rfl (wpAny_pure ?_)))))))
  refine wpAny_bind (HT.slicePart_ p ?_)
  show wpAny _ _ (if ((k : Int) == 0) = true then _ else _) _ _ s
  rw [if_neg (by simp; omega)]
  refine wpAny_bind (HT.slicePart_ .none (wpAny_bind (HT.slicePart_ .none (wpAny_bind (wpAny_pure ?_)))))
  have e0 : Builtin.Slice.sliceAdjust none none (k : Int) (n : Int) = (0, (n : Int)) := by
    unfold Builtin.Slice.sliceAdjust
    have : ¬ (k : Int) < 0 := by omega
    simp [this]
  show wpAny _ _ (pure ((Builtin.Slice.sliceAdjust none none (k : Int) (n : Int)).1, (k : Int), Builtin.Slice.slicePlaces (Builtin.Slice.sliceAdjust none none (k : Int) (n : Int)).1 (Builtin.Slice.sliceAdjust none none (k : Int) (n : Int)).2 (k : Int))) _ _ s
  rw [e0]
  have e : Builtin.Slice.slicePlaces 0 (n : Int) (k : Int) = (n + k - 1) / k := by
    unfold Builtin.Slice.slicePlaces
    rw [if_pos (by omega)]
    by_cases hn : n = 0
    · subst hn
      rw [if_neg (by omega)]
      have : (0 + k - 1) / k = 0 := Nat.div_eq_of_lt (by omega)
      rw [this]; rfl
    · rw [if_pos (by omega)]
      have e1 : ((n : Int) - 0 - 1) = ((n - 1 : Nat) : Int) := by omega
      rw [e1]
      have e2 : (((n - 1 : Nat) : Int) / (k : Int)) = (((n - 1) / k : Nat) : Int) := (Int.natCast_ediv _ _).symm
      rw [e2]
      have e3 : (n + k - 1) / k = (n - 1) / k + 1 := by
        rw [show n + k - 1 = (n - 1) + k by omega, Nat.add_div_right _ hk]
      rw [e3]
      have e4 : (((n - 1) / k : Nat) : Int) + 1 = (((n - 1) / k + 1 : Nat) : Int) := by omega
      rw [e4]; rfl
  show wpAny _ _ (pure ((0 : Int), (k : Int), Builtin.Slice.slicePlaces 0 (n : Int) (k : Int))) _ _ s
  rw [e]
  exact wpAny_pure h
theorem pick_stp (xs : Array Value) (k : Nat) : ((List.range ((xs.size + k - 1) / k)).filterMap fun (m : Nat) => xs[((0 : Int) + (m : Int) * (k : Int)).toNat]?).toArray = (stpL k xs.toList).toArray := by
  unfold stpL
  rw [Array.length_toList]
  congr 1
  refine fm_congr fun m hm => ?_
  have q : ((0 : Int) + (m : Int) * (k : Int)).toNat = m * k := by
    rw [Int.zero_add, ← Int.natCast_mul]; exact Int.toNat_natCast _
  rw [q, Array.getElem?_toList]
theorem stp_len {α : Type} (k : Nat) (xs : List α) (hk : 0 < k) : (stpL k xs).length ≤ xs.length := by
  unfold stpL
  refine Nat.le_trans (List.length_filterMap_le _ _) ?_
  rw [List.length_range]
  rcases Nat.eq_zero_or_pos xs.length with h | h
  · rw [h]
    have : (0 + k - 1) / k = 0 := Nat.div_eq_of_lt (by omega)
    omega
  · have : (xs.length + k - 1) / k ≤ xs.length := by
      rw [Nat.div_le_iff_le_mul_add_pred hk]
      have : xs.length ≤ k * xs.length := Nat.le_mul_of_pos_left _ hk
      omega
    exact this
theorem getItem_tup_stp {t sl : Addr} {items : Array Value} {vs : Value} {k : Nat} {Q : Value → Shared → Prop} (ht : IsTup s.heap t items) (hs : s.heap.IsSliceOf sl .none .none vs) (p : IsPart vs (some (k : Int))) (hk : 0 < k)
    (h1 : k = 1 → Q (.ref t) s) (h2 : k ≠ 1 → Q (.ref s.heap.objs.size) { s with heap := s.heap.push { cls := .type "tuple", data := .seq (stpL k items.toList).toArray } })
    (hsz : items.size ≤ sizeLine) : wpAny (model prog w) A (getItem (.ref t) (.ref sl)) Q E s := by
  have hfit : sizeOk (.seq (stpL k items.toList).toArray) := by
    show (stpL k items.toList).toArray.size ≤ sizeLine
    rw [List.size_toArray]
    exact Nat.le_trans (stp_len k _ hk) (by rw [Array.length_toList]; exact hsz)
  obtain ⟨os, hos, hcs, hds⟩ := id hs
  have hTs : s.TypeIs (.ref sl) "slice" := ⟨os, hos, hcs⟩
  unfold getItem
  try with_reducible refine wpAny_holding ?_
  first | refine wpAny_bind (wpAny_pure ?_) | skip
  refine wpAny_bind (wpAny_sequenceKey ht.typeIs (by decide) ?_)
  refine wpAny_bind (wpAny_callSpecial?_slot (name := Str.ofString "__getitem__") ht.typeIs PyProof.Rows.slot_tuple_getitem (wpAny_call_entry PyProof.Rows.slot_tuple_getitem ht.typeIs PyProof.Rows.entry_tuple_getitem ?_ (PyProof.Rows.args_tuple_getitem _ _)))
  show wpAny _ _ (Builtin.Tuple.tupleItemsOf (.ref t) >>= _) _ _ s
  refine wpAny_bind (PyProof.Rows.tupleItemsOf_ ht (wpAny_bind (wpAny_typeOf hTs ?_)))
  rw [if_pos (by decide)]
  refine wpAny_bind (applied_stp hs p hk ?_)
  show wpAny _ _ (if (((0 : Int) == 0) && ((k : Int) == 1) && ((items.size + k - 1) / k == items.size)) = true then _ else _) _ _ s
  by_cases hk1 : k = 1
  · subst hk1
    rw [if_pos (by simp)]
    refine wpAny_bind ?_
    unfold Builtin.Tuple.tupleIsExact
    refine wpAny_bind (wpAny_typeOf ht.typeIs (wpAny_pure ?_))
    rw [if_pos (by decide)]
    first
      | exact wpAny_pure ⟨_, rfl, wpAny_pure (h1 rfl)⟩
      | exact wpAny_bind (wpAny_pure (wpAny_pure ⟨_, rfl, wpAny_pure (h1 rfl)⟩))
      | exact wpAny_bind (wpAny_rule (wpAny_pure ⟨_, rfl, wpAny_pure (h1 rfl)⟩))
      | exact wpAny_rule (wpAny_pure ⟨_, rfl, wpAny_pure (h1 rfl)⟩)
  · rw [if_neg (by simp; omega), pick_stp]
    have h := h2 hk1
    first
      | exact wpAny_bind (m := Builtin.Tuple.tupleExact _) (wpAny_newObj_type (wpAny_pure ⟨_, rfl, wpAny_pure h⟩) hfit)
      | exact wpAny_bind (m := Builtin.Tuple.tupleExact _) (wpAny_newObj_type (wpAny_bind (wpAny_pure (wpAny_pure ⟨_, rfl, wpAny_pure h⟩))) hfit)
      | exact wpAny_bind (wpAny_bind (m := Builtin.Tuple.tupleExact _) (wpAny_newObj_type (wpAny_pure (wpAny_pure ⟨_, rfl, wpAny_pure h⟩)) hfit))
      | exact wpAny_bind (wpAny_bind (m := Builtin.Tuple.tupleExact _) (wpAny_newObj_type (wpAny_pure ⟨_, rfl, wpAny_pure h⟩) hfit))
end
theorem pick_paired {α β : Type} {R : α → β → Prop} {xs : List α} {ys : List β} (h : Paired R xs ys) (f : Nat → Nat) : ∀ l : List Nat, Paired R (l.filterMap fun i => xs[f i]?) (l.filterMap fun i => ys[f i]?)
  | [] => .nil
  | i :: l => by
    have ih := pick_paired h f l
    have key : ∀ {xs : List α} {ys : List β}, Paired R xs ys → ∀ j : Nat, (xs[j]? = none ∧ ys[j]? = none) ∨ ∃ a b, xs[j]? = some a ∧ ys[j]? = some b ∧ R a b := by
      intro xs ys h
      induction h with
      | nil => intro j; exact .inl ⟨by simp, by simp⟩
      | @cons a b as bs r t ih =>
        intro j
        cases j with
        | zero => exact .inr ⟨a, b, by simp, by simp, r⟩
        | succ j => simpa using ih j
    rw [List.filterMap_cons, List.filterMap_cons]
    rcases key h (f i) with ⟨e1, e2⟩ | ⟨a, b, e1, e2, r⟩
    · rw [e1, e2]; exact ih
    · rw [e1, e2]; exact .cons r ih
theorem vals_stp {xs : List V} {its : List Value} (r : Vals xs its) (k : Nat) : Vals (stpL k xs) (stpL k its) := by
  unfold stpL
  rw [r.length]
  exact pick_paired r _ _
theorem DnAll.pick {K : PySem.W.Frag} {F : Hp} {vs : List V} {ds : List D} (h : DnAll K F vs ds) (f : Nat → Nat) : ∀ l : List Nat, DnAll K F (l.filterMap fun i => vs[f i]?) (l.filterMap fun i => ds[f i]?)
  | [] => .nil
  | i :: l => by
    have ih := h.pick f l
    rw [List.filterMap_cons, List.filterMap_cons]
    cases e : vs[f i]? with
    | none =>
      have : ds[f i]? = none := by
        rw [List.getElem?_eq_none_iff] at e ⊢
        rw [← h.length]; exact e
      rw [this]; exact ih
    | some v =>
      obtain ⟨d, e2, r⟩ := h.get e
      rw [e2]; exact .cons r ih
theorem DnAll.stp {K : PySem.W.Frag} {F : Hp} {vs : List V} {ds : List D} (h : DnAll K F vs ds) (k : Nat) : DnAll K F (stpL k vs) (stpL k ds) := by
  unfold stpL
  rw [h.length]
  exact h.pick _ _
theorem stp_one {α : Type} (xs : List α) : stpL 1 xs = xs := by
  unfold stpL
  rw [show (xs.length + 1 - 1) / 1 = xs.length by simp]
  apply List.ext_getElem?
  intro j
  have key : ∀ n, n ≤ xs.length → (List.range n).filterMap (fun i => xs[i * 1]?) = xs.take n := by
    intro n
    induction n with
    | zero => intro _; simp
    | succ n ih =>
      intro hn
      rw [List.range_succ, List.filterMap_append, ih (by omega)]
      have hx : n < xs.length := by omega
      simp only [List.filterMap_cons, Nat.mul_one, List.getElem?_eq_getElem hx, List.filterMap_nil]
      rw [List.take_succ, List.getElem?_eq_getElem hx]; rfl
  rw [key _ (Nat.le_refl _), List.take_length]
def tStp (K : PySem.W.Frag) (te ts : TE) : TE := fun σ H Q => te σ H fun x H1 => tPart ts σ H1 fun o H2 => ∃ (a : Addr) (xs : List V) (k : Nat), x = .ref a ∧ o = some (k : Int) ∧ SqT K H2 a xs ∧ 0 < k ∧ k < 1000000 ∧ (k = 1 → Q (.ref a) H2) ∧ (k ≠ 1 → ∀ p, H2 p = none → Q (.ref p) (upd H2 p (.tup (stpL k xs))))
theorem pe_stp {X : Cx} {e st : Expr} {te ts : TE} {p3 pos : Pos} (he : PE X e te) (hs : PE X st ts) : PE X (.Subscript e (.Slice none none (some st) p3) pos) (tStp X.K te ts) := by
  constructor
  intro pins s σ H Q I h
  refine PyProof.Rows.Subscript_ (thn (he.run pins s σ H _ I h) ?_)
  rintro v s1 ⟨x, H1, I1, r1, q1⟩
  have hst : PO X (some st) (tPart ts) := po_some hs
  refine wpAny_Slice (thn (po_none.run pins s1 σ H1 (fun o H2 => o = none ∧ H2 = H1) I1 ⟨rfl, rfl⟩) ?_)
  rintro vl s2 ⟨l, H2, I2, pl, el, e2⟩
  subst el e2
  refine thn (po_none.run pins s2 σ H2 (fun o H3 => o = none ∧ H3 = H2) I2 ⟨rfl, rfl⟩) ?_
  rintro vu s3 ⟨u, H3, I3, pu, eu, e3⟩
  subst eu e3
  refine thn (hst.run pins s3 σ H3 _ I3 q1) ?_
  rintro vs s4 ⟨o, H4, I4, ps, a, xs, k, ex, eo, hx, hk, hk2, qa, qb⟩
  subst eo ex
  cases r1
  have I5 : Inv X pins σ H4 { s4 with heap := s4.heap.push { cls := .type "slice", data := .fields #[vl, vu, vs] } } := I4.kept (t' := s4.toks) fun b ob q => Heap.get?_push_of_some _ q
  show wpAny (model X.prog X.w) X.A (PyProof.Rows.subscriptTail e (.Slice none none (some st) p3) (.ref a) (.ref s4.heap.objs.size)) (EP X pins σ Q) X.xe { s4 with heap := s4.heap.push { cls := .type "slice", data := .fields #[vl, vu, vs] } }
  obtain ⟨its, r, ht, hz⟩ := I5.tuple hx
  have hlen := r.length
  have el : vl = .none := by cases pl; rfl
  have eu : vu = .none := by cases pu; rfl
  subst el eu
  refine PyProof.Rows.tail_any (ops := [.ref a, .ref s4.heap.objs.size]) ht.typeIs PyProof.Rows.slot_tuple_getitem.lookup ?_ (by with_unfolding_all rfl)
  refine getItem_tup_stp ht (Heap.IsSliceOf.new _ .none .none vs) ps hk (fun hk1 => ?_) (fun hk1 => ?_) (by rw [List.size_toArray]; omega)
  · exact ⟨.ref a, H4, I5, rfl, qa hk1⟩
  · refine ⟨.ref _, _, I5.laid (t' := s4.toks) (o := .tup (stpL k xs)) (fun b ob q => Heap.get?_push_of_some _ q) (Nat.le_refl _) ?_, rfl, qb hk1 _ (I5.hok.fresh (Nat.le_refl _))⟩
    exact ⟨Nat.le_trans (stp_len k xs hk) (by omega), _, vals_stp r k, PyProof.Rows.IsTup.new _ _⟩
theorem q_stp {X : Cx} {E : EX} {C : Nat → List R → Rs R} {a b : Expr} {xa xb : Ex} {p3 pos : Pos} (ha : PE X a (tOf X.K E (ev C xa))) (hb : PE X b (tOf X.K E (ev C xb))) :
    PE X (.Subscript a (.Slice none none (some b) p3) pos) (tOf X.K E (ev C (.stp xa xb))) := by
  refine pe_of (pe_stp ha hb) fun σ H Q h => ?_
  obtain ⟨ρ, F, R, h⟩ := h
  rw [ev] at h
  refine ⟨ρ, F, R, h.bind fun x hx v F1 H1 g1 d1 => ?_⟩
  refine ⟨ρ, F1, R.grow g1, (hx.grow g1).bind fun y hy v2 F2 H2 g2 d2 => ?_⟩
  have hy := hy.grow g2
  unfold stpR at hy
  split at hy
  · split at hy
    · rename_i xs k _ hk
      have d1 := d1.grow g2
      cases d1 with
      | tup r t =>
        cases d2
        refine ⟨_, rfl, _, _, k.toNat, rfl, by rw [Int.toNat_of_nonneg (by omega)], same_t g2.sub r, by omega, by omega, fun hk1 => ?_, fun hk1 p hp => ?_⟩
        · rw [hk1, stp_one] at hy
          exact hy.val g2.sub (.tup r t)
        · exact hy.newT g2.sub hp (t.stp _)
    · exact hy.elim
  · exact hy.elim
end PP
set_option Elab.async false
set_option linter.all false
set_option autoImplicit false
namespace PPL
open PySem PySem.Spec PyProof.Rows L2
section
variable {P : Program} {w : World} {A : Around} {E : Value → Shared → Prop} {s : Shared}
/-- a new set -/
def nset (w : World) : Obj := { cls := .type "set", dict := none, data := .set #[] 0 (.fresh 0 0 (!w.params.followText "set-order")) }
set_option maxRecDepth 100000 in
set_option maxHeartbeats 3200000 in
theorem set_lstI {l : Addr} {items : Array Value} (ns : List Int) {Q : Value → Shared → Prop} (hh : A.handled = none) (hl : s.heap.IsList l items) (hit : IntsAre items.toList ns) (hb : ns.length + 1 < scanBound)
    (h : ∀ (h' : Heap) (tk c : Nat), SetR w h' s.heap.objs.size (fun j => decide (j ∈ ns)) c → c ≤ ns.length → (∀ b o, s.heap.get? b = some o → h'.get? b = some o) → Q (.ref s.heap.objs.size) { s with heap := h', toks := tk }) :
    wpAny (model P w) A (call (.type "set") [.ref l]) Q E s := by
  have hisz : items.size = ns.length := by
    have q := IntsAre.length hit
    rw [Array.length_toList] at q
    exact q
  obtain ⟨c, tl, hmro⟩ := F.called_set.mro
  have hmade := F.called_set.made
  have hsub := F.called_set.sub
  refine wpAny_call (codeAny_of_tree ?_)
  show wpAny _ _ (callAny (.type "set") _) _ _ _
  refine wpAny_pure ⟨Code.quiet_builtin _ (by decide +kernel), codeAny_builtin F.entry_type_call ?_⟩
  rw [Around.under_plain (weight_type_call_type "set" [.ref l] []) rfl]
  have h1 := F.called_set.notType
  have h2 := F.called_set.canCreate
  have hct := F.typeCall_set_1 (.ref l)
  repeat (any_goals (first | assumption | wp_step))
  refine codeAny_mono (code_set_led1 (.ref l) (E := E) (Q₁ := fun obj s₁ => obj = .ref s.heap.objs.size ∧ s₁ = { s with heap := s.heap.push (nset w) }) ⟨rfl, rfl⟩) fun r s₁ hr => ?_
  match r, hr with
  | .error e, hr => exact hr
  | .ok (.ret obj), hr =>
    obtain ⟨rfl, rfl⟩ := hr
    have hS : (s.heap.push (nset w)).get? s.heap.objs.size = some (nset w) := Heap.get?_push_size _ rfl
    have hT : Shared.TypeIs { s with heap := s.heap.push (nset w) } (.ref s.heap.objs.size) "set" := ⟨_, hS, rfl⟩
    have hli := F.called_set.init.lookup
    have hbi := F.called_set.init.bind (.ref s.heap.objs.size)
    repeat (any_goals (first | assumption | wp_step))
    refine codeAny_mono (codeAny_call_builtin (R := wants (fun r s₂ => r = .none ∧ ∃ h' tk c, s₂ = { s with heap := h', toks := tk } ∧ SetR w h' s.heap.objs.size (fun j => decide (j ∈ ns)) c ∧ c ≤ ns.length ∧
        (∀ b o, s.heap.get? b = some o → h'.get? b = some o)) E) F.called_set.init.plain F.entry_set_init (PySem.check_set_init_1 hT ?_)) fun r₂ s₂ hr₂ => ?_
    · obtain ⟨ol, hol, hcl, nl, hdl⟩ := hl
      obtain ⟨ocls, odict, odata, oslots⟩ := ol
      simp only at hcl hdl
      subst hcl; subst hdl
      have hol' : (s.heap.push (nset w)).get? l = some { cls := .type "list", dict := odict, data := .seq items nl, slots := oslots } := Heap.get?_push_of_some _ hol
      have hsls := F.sub_list_set
      have hslf := F.sub_list_frozenset
      have hne : (Value.type "list" == Value.type "dict") = false := by decide
      have hl1 : (s.heap.push (nset w)).IsList l items := ⟨_, hol', rfl, nl, rfl⟩
      unfold Builtin.«set.__init__» noKeywords Builtin.Frozenset.updateFrom
      generalize hPI : pyIter = PI
      wp_walk
      subst hPI
      refine wpAny_pyIter_list hl1 ?_
      refine wpAny_bind (wpAny_runValue ?_)
      have hlS : l < s.heap.objs.size := Heap.lt_size hol
      have hh3 : A.in1.in1.in1.handled = none := by simp [hh]
      have hz : (s.heap.push (nset w)).objs.size = s.heap.objs.size + 1 := Heap.size_push ..
      refine set_update_ints ((Walks.list hh3 _ l (by rw [hz]; exact Nat.ne_of_lt (Nat.lt_succ_of_lt hlS)) items).toS) s.heap.objs.size
        (by rw [hz]; simp only [List.mem_cons, List.not_mem_nil, or_false, not_or]; exact ⟨Nat.ne_of_lt (Nat.lt_succ_self _), Nat.ne_of_gt hlS⟩) ns hisz hb (fun i v hv => ?_) (items.size - 0) 0 _ (by omega) (Nat.zero_le _)
        ⟨⟨_, Heap.get?_push_size _ rfl, rfl, rfl⟩, (hl1.push _)⟩ ⟨0, Nat.le_refl 0, setR_new_at (Heap.get?_push_of_some _ hS)⟩ ?hR
      · have hi : i < ns.length := by rw [← hisz]; exact (Array.getElem?_eq_some_iff.mp hv).1
        obtain ⟨t, e⟩ := PyProof.Rows.IntsAre.int_at hit i v (by rw [Array.getElem?_toList]; exact hv)
        refine ⟨ns[i], t, List.getElem?_eq_getElem hi, ?_⟩
        rw [e, List.getD_eq_getElem?_getD, List.getElem?_eq_getElem hi] <;> rfl
      case hR =>
        intro s' c' hm hc' hS'
        obtain ⟨h', g2, d', tk', os'⟩ := s'
        have eg : g2 = s.gens := hm.gens
        have ed : d' = s.drawn := hm.drawn
        have eo : os' = s.os := hm.os
        subst eg; subst ed; subst eo
        show wpAny _ _ _ _ _ _
        refine wpAny_pure ?_
        show wpAny _ _ (ret Value.none) _ _ _
        refine wpAny_pure ⟨rfl, h', tk', c', rfl, hS', by omega, fun b o e => ?_⟩
        have hb0 : b < s.heap.objs.size := Heap.lt_size e
        exact hm.heap b o (by rw [hz]; simp only [List.mem_cons, List.not_mem_nil, or_false, not_or]; exact ⟨Nat.ne_of_lt hb0, Nat.ne_of_lt (Nat.lt_succ_of_lt hb0)⟩) (Heap.get?_push_of_some _ (Heap.get?_push_of_some _ e))
    · match r₂, hr₂ with
      | .error e, hr₂ => exact hr₂
      | .ok (.ret r), hr₂ =>
        obtain ⟨rfl, h', tk, c', rfl, hS', hc', hk'⟩ := hr₂
        repeat (any_goals (first | assumption | wp_step))
        exact h _ _ _ hS' hc' hk'
end
end PPL
set_option Elab.async false
set_option linter.all false
set_option autoImplicit false
set_option maxRecDepth 100000
set_option maxHeartbeats 1000000
namespace PP
open PySem L2
theorem mem_insI {k j : Int} : ∀ {xs : List Int}, j ∈ insI k xs ↔ j = k ∨ j ∈ xs
  | [] => by simp [insI]
  | x :: xs => by
    unfold insI
    by_cases h1 : k < x
    · rw [if_pos h1]; simp
    · rw [if_neg h1]
      by_cases h2 : k = x
      · rw [if_pos h2]; subst h2; simp
      · rw [if_neg h2, List.mem_cons, mem_insI, List.mem_cons]
        constructor
        · rintro (q | q | q)
          · exact .inr (.inl q)
          · exact .inl q
          · exact .inr (.inr q)
        · rintro (q | q | q)
          · exact .inr (.inl q)
          · exact .inl q
          · exact .inr (.inr q)
theorem insI_lt {k : Int} : ∀ {xs : List Int}, xs.Pairwise (· < ·) → (insI k xs).Pairwise (· < ·)
  | [], _ => by simp [insI]
  | x :: xs, h => by
    obtain ⟨h1, h2⟩ := List.pairwise_cons.mp h
    unfold insI
    by_cases q : k < x
    · rw [if_pos q]
      exact List.pairwise_cons.mpr ⟨fun y hy => by
        rcases List.mem_cons.mp hy with rfl | hy
        · exact q
        · have := h1 y hy; omega, h⟩
    · rw [if_neg q]
      by_cases q2 : k = x
      · rw [if_pos q2]; exact h
      · rw [if_neg q2]
        refine List.pairwise_cons.mpr ⟨fun y hy => ?_, insI_lt h2⟩
        rcases mem_insI.mp hy with rfl | hy
        · omega
        · exact h1 y hy
theorem ssI_lt : ∀ ns : List Int, (ssI ns).Pairwise (· < ·)
  | [] => .nil
  | n :: ns => insI_lt (ssI_lt ns)
theorem mem_ssI {j : Int} : ∀ {ns : List Int}, j ∈ ssI ns ↔ j ∈ ns
  | [] => Iff.rfl
  | n :: ns => by
    show j ∈ insI n (ssI ns) ↔ _
    rw [mem_insI, mem_ssI, List.mem_cons]
theorem lt_uniq : ∀ {xs ys : List Int}, xs.Pairwise (· < ·) → ys.Pairwise (· < ·) → (∀ k, k ∈ xs ↔ k ∈ ys) → xs = ys
  | [], [], _, _, _ => rfl
  | [], y :: ys, _, _, h => by have := (h y).mpr (List.mem_cons_self ..); cases this
  | x :: xs, [], _, _, h => by have := (h x).mp (List.mem_cons_self ..); cases this
  | x :: xs, y :: ys, h1, h2, h => by
    obtain ⟨a1, a2⟩ := List.pairwise_cons.mp h1
    obtain ⟨b1, b2⟩ := List.pairwise_cons.mp h2
    have e : x = y := by
      rcases List.mem_cons.mp ((h x).mp (List.mem_cons_self ..)) with q | q
      · exact q
      · rcases List.mem_cons.mp ((h y).mpr (List.mem_cons_self ..)) with q2 | q2
        · exact q2.symm
        · have := b1 x q; have := a1 y q2; omega
    subst e
    rw [lt_uniq a2 b2 fun k => ?_]
    constructor
    · intro q
      rcases List.mem_cons.mp ((h k).mp (List.mem_cons_of_mem _ q)) with z | z
      · have := a1 k q; omega
      · exact z
    · intro q
      rcases List.mem_cons.mp ((h k).mpr (List.mem_cons_of_mem _ q)) with z | z
      · have := b1 k q; omega
      · exact z
def tSSI (K : PySem.W.Frag) (ta : TE) : TE := fun σ H Q => ta σ H fun x H1 => ∃ (l : Addr) (ns : List Int), x = .ref l ∧ SqL K H1 l (ns.map V.int) ∧ ns.length < 64 ∧ ∀ p, H1 p = none → Q (.ref p) (upd H1 p (.lst ((ssI ns).map V.int)))
theorem pe_ssI {X : Cx} {a : Expr} {ta : TE} {p p2 q pos : Pos} (hc : X.calm = true) (hg : Gl X "sorted") (hm : X.mg "sorted" = none) (hg2 : Gl X "set") (hm2 : X.mg "set" = none) (ha : PE X a ta)
    (na : starEach [a] X.env = (false, eval a X.env) :: starEach [] X.env) : PE X (.Call (.Name "sorted" p) [.Call (.Name "set" p2) [a] [] q] [] pos) (tSSI X.K ta) := by
  constructor
  intro pins s σ H Q I h
  refine PyProof.Rows.Call_ (ld_blt I hg hm PyProof.Rows.boot_sorted (PyProof.Rows.callWith_builtin1 (PyProof.Rows.args_cons ?_ rfl) rfl rfl))
  refine PyProof.Rows.Call_ (ld_blt I hg2 hm2 PyProof.Rows.boot_set ?_)
  refine PyProof.Rows.callWith_type1 (PyProof.Rows.args_cons (thn (ha.run pins s σ H _ I h) ?_) na) na rfl
  rintro v s1 ⟨x, H1, I1, r1, q1⟩
  refine PyProof.Rows.args_nil ?_
  obtain ⟨l, ns, rfl, hq, hl, q1⟩ := q1
  cases r1
  obtain ⟨its, r, pl, hz⟩ := I1.list hq
  refine PPL.set_lstI ns (I1.ok.hd hc) pl.isList (by simpa using RZ.intsAre_vals r) (by unfold scanBound; omega) ?_
  intro h' tk c hS hcn hk
  refine PyProof.Rows.args_nil ?_
  have I2 : Inv X pins σ H1 { s1 with heap := h', toks := tk } := I1.kept hk
  refine sorted_set hS (I2.ok.hd hc) (by omega) fun s' p out c' ms k g o hp hg hi hs hm hl' => ?_
  have em : ms = ssI ns := lt_uniq hs (ssI_lt ns) fun j => by rw [hm j, mem_ssI, decide_eq_true_eq]
  subst em
  have hlen : ((ssI ns).map V.int).length ≤ sizeLine := by rw [List.length_map, hl', PySem.sizeLine_eq]; omega
  have hn : H1 p = none := I2.hok.fresh hp
  have J : Inv X pins σ (upd H1 p (.lst ((ssI ns).map V.int))) { ({ s1 with heap := h', toks := tk } : Shared) with heap := s'.heap, gens := s'.gens, drawn := s'.drawn, toks := s'.toks } :=
    I2.call (ch := []) (Un.laid k hp hn) (I2.hok.laid k hp ⟨hlen, out.toList, c', vals_of_ints hi, hg⟩) (by rw [g]; exact I2.bare) (fun _ z => nomatch z)
  have e : s' = { s1 with heap := s'.heap, gens := s'.gens, drawn := s'.drawn, toks := s'.toks } := by
    cases s'
    cases s1
    cases o
    rfl
  rw [e]
  exact ⟨.ref p, _, J, rfl, q1 p hn⟩
theorem dn_ofI {K : PySem.W.Frag} {F : Hp} : ∀ ns : List Int, DnAll K F (ns.map V.int) (ns.map PyData.int)
  | [] => .nil
  | n :: ns => .cons (.int n) (dn_ofI ns)
section
variable {X : Cx} {E : EX} {C : Nat → List R → Rs R} {a b : Expr} {xa xb : Ex} {p p2 q pos : Pos}
theorem q_ssi (hc : X.calm = true) (hg : Gl X "sorted") (hm : X.mg "sorted" = none) (hg2 : Gl X "set") (hm2 : X.mg "set" = none) (ha : PE X a (tOf X.K E (ev C xa)))
    (hs : starEach [a] X.env = (false, eval a X.env) :: starEach [] X.env) : PE X (.Call (.Name "sorted" p) [.Call (.Name "set" p2) [a] [] q] [] pos) (tOf X.K E (ev C (.ssi xa))) := by
  refine pe_of (pe_ssI hc hg hm hg2 hm2 ha hs) fun σ H Q h => ?_
  obtain ⟨ρ, F, R, h⟩ := h
  rw [ev] at h
  refine ⟨ρ, F, R, h.bind fun x hx v F1 H1 g1 d1 => ?_⟩
  have hx : Ans X.K E (match x.lst? with
    | some xs => match ints? xs with
      | some ks => if ks.length < 64 then .ok (.l ((ssI ks).map .int)) else .bad
      | none => .bad
    | none => .bad) F1 H1 Q := hx.grow g1
  cases e1 : x.lst? with
  | none => rw [e1] at hx; exact hx.elim
  | some xs =>
    simp only [e1] at hx
    cases e2 : ints? xs with
    | none => rw [e2] at hx; exact hx.elim
    | some ks =>
      simp only [e2] at hx
      split at hx
      · rename_i hz
        obtain ⟨l, vs, rfl, q, t⟩ := d1.lst g1.sub e1
        rw [ints_of e2] at t
        rw [dn_ints t] at q
        refine ⟨l, ks, rfl, .inl (.inl q), hz, fun p hp => ?_⟩
        have g2 : Grow F1 H1 F1 (upd H1 p (.lst ((ssI ks).map V.int))) := Grow.own g1.sub hp
        exact hx _ F1 _ g2 ⟨p, _, rfl, hp, g1.sub.free hp, upd_same, dn_ofI _⟩
      · exact hx.elim
theorem q_cnt {ap cp : Pos} (hb : attributeBase a "count" X.env (eval a X.env) = eval a X.env) (hp : (ap.endLine == cp.line) = true) (hs : starEach [b] X.env = (false, eval b X.env) :: starEach [] X.env)
    (ha : PE X a (tOf X.K E (ev C xa))) (hb2 : PE X b (tOf X.K E (ev C xb))) : PE X (.Call (.Attribute a "count" ap) [b] [] cp) (tOf X.K E (ev C (.cnt xa xb))) := by
  refine pe_of (pe_bm PySem.F.plainAttrs_list PySem.F.slot_list_count PySem.F.type_list_count mt_lcount ha (pa_cons hb2 pa_nil hs) hb (by rw [hs]; rfl) hp hs rfl) fun σ H Q h => ?_
  obtain ⟨ρ, F, R, h⟩ := h
  rw [ev] at h
  refine ⟨ρ, F, R, h.bind fun x hx v F1 H1 g1 d1 => ?_⟩
  have hx := hx.grow g1
  unfold cntL at hx
  cases e1 : x.lst? with
  | none => rw [e1] at hx; exact hx.elim
  | some xs =>
    rw [e1] at hx
    cases e2 : ints? xs with
    | none => simp only [e2] at hx; exact hx.elim
    | some ks =>
      simp only [e2] at hx
      have hx : Ans X.K E (ev C xb ρ >>= fun y => cntK ks y) F1 H1 Q := hx
      obtain ⟨l, vs, rfl, q, t⟩ := d1.lst g1.sub e1
      rw [ints_of e2] at t
      rw [dn_ints t] at q
      refine ⟨.inl ⟨rfl, _, .inl (.inl q)⟩, ρ, F1, R.grow g1, hx.bind fun y hy v2 F2 H2 g2 d2 => ?_⟩
      have hy := hy.grow g2
      unfold cntK at hy
      split at hy
      · cases d2 with
        | int _ => exact ⟨l, ks, _, rfl, rfl, .inl (.inl (g2.hp _ _ q)), hy.val g2.sub (.int _)⟩
      · exact hy.elim
def rMapN (K : PySem.W.Frag) : V → V → Hp → VK → Prop := fun x y H Q => ∃ (b a : Addr) (ps : List (List L2.Key × V)) (ks : List Int), x = .ref b ∧ SqT K H b (ks.map V.int) ∧ y = .ref a ∧ H a = some (.dT ps) ∧ Q (.bl (!(ps.any fun kv => decide (kv.1 = kI ks)))) H
theorem or_mapn (hu : X.A.units + 1 < cLine) : OpR X (compareOp .NotIn) (rMapN X.K) := by
  intro pins s σ H x y v u Q I rx ry h
  obtain ⟨b, d, ps, ks, rfl, hb, rfl, hd, q1⟩ := h
  cases rx
  cases ry
  obtain ⟨z, hs, xs, rel, dd⟩ := dt_of I.hok hd
  obtain ⟨its, r, ⟨o, h1, h2, n, h3⟩, _⟩ := I.tuple hb
  have hk : (tupleKind (mixKind X.prog X.w)).is s.heap (kI ks) b := ⟨o, its.toArray, n, h1, h2, h3, by
    rw [← kI_vals] at r
    simpa using items_are r⟩
  refine PyProof.Rows.wpAny_notIn_heap (tupleKind_room_in1 hu) hk hs dd ?_
  have qq := (rel.val (kI ks)).isSome_eq
  rw [Option.isSome_map] at qq
  rw [← qq, ← valV_any]
  exact ⟨.bl _, H, I.tok _, rfl, q1⟩
theorem q_mhas {i : Nat} {y : Str} (hu : X.A.units + 1 < cLine) (hn : PE X (.Name y p2) (tVar i)) (ha : PE X a (tOf X.K E (ev C xa))) : PT X (.Compare a [.NotIn] [.Name y p2] pos) (tOfT X.K E (evT C (.mhas i xa))) := by
  refine pt_of (pt_cmpR (or_mapn hu) ha hn rfl) fun σ H Q h => ?_
  obtain ⟨ρ, F, R, h⟩ := h
  rw [evT] at h
  unfold slotXB at h
  split at h
  · rename_i kvs em
    obtain ⟨d, ps, ea, hh, t⟩ := slotM_get R em
    refine ⟨ρ, F, R, Ans.bindT h fun x hx v F1 H1 g1 d1 => ?_⟩
    refine ⟨_, ea, ?_⟩
    have hx := hx.grow g1
    unfold mhasR at hx
    split at hx
    · rename_i ds
      split at hx
      · rename_i ks ek
        cases d1 with
        | tup q t2 =>
          rw [ints_of ek] at t2
          rw [dn_ints t2] at q
          refine ⟨_, d, ps, ks, rfl, same_t g1.sub q, rfl, g1.hp _ _ hh, ?_⟩
          rw [t.any ks]
          exact ⟨_, rfl, hx F1 H1 (Grow.refl g1.sub)⟩
      · exact hx.elim
    · exact hx.elim
  · exact h.elim
end
end PP
set_option Elab.async false
set_option linter.all false
set_option autoImplicit false
set_option maxRecDepth 100000
set_option maxHeartbeats 2000000
namespace PPG
open PySem PySem.Spec PyProof.Rows L2
abbrev NKey := NestedKey
section
variable {P : Program} {w : World}
abbrev IsN (P : Program) (w : World) (h : Heap) (k : NKey) (b : Addr) : Prop := (nestedKind P w).is h k b
/-- a loop over values each of which is asked a question that is answered no -/
theorem ask_all {n : Nat} {f : Value → Sem Bool} {A : Around} {E : Value → Shared → Prop} {s : Shared} {Q : Bool → Shared → Prop} (items : Array Value)
    (hf : ∀ v ∈ items.toList, ∀ Q : Bool → Shared → Prop, Q false s → wpAny (model P w) A (f v) Q E s) (h : Q false s) :
    wpAny (model P w) A (do
      for y in items do
        if ← f y then return true
      return false) Q E s := by
  refine wpAny_bind ?_
  show wpAny _ _ (forIn items _ _) _ _ s
  rw [← Array.forIn_toList]
  refine wpAny_forIn_list _ (fun rest r s' => r.1 = none ∧ s' = s ∧ ∀ v ∈ rest, v ∈ items.toList) _ ?_ ?_ _ _ ⟨rfl, rfl, fun v hv => hv⟩
  · rintro v rest r s' ⟨_, rfl, hall⟩
    refine wpAny_bind (hf v (hall v (List.mem_cons_self ..)) _ ?_)
    exact wpAny_pure ⟨rfl, rfl, fun u hu => hall u (List.mem_cons_of_mem _ hu)⟩
  · rintro ⟨r1, r2⟩ s' ⟨hr, rfl, _⟩
    cases hr
    exact wpAny_pure h
mutual
theorem cls_no : ∀ (k : NKey) (v : Value) (n : Nat) (s : Shared), NestedIs s.heap k v → k.depth ≤ n → ∀ (A : Around) (E : Value → Shared → Prop) (Q : Bool → Shared → Prop), Q false s → wpAny (model P w) A (ofAClassStatement n v) Q E s
  | .none, _, n, s, x, _, A, E, Q, h => by cases x; cases n <;> exact wpAny_pure h
  | .num _, _, n, s, x, _, A, E, Q, h => by cases x <;> cases n <;> exact wpAny_pure h
  | .text _, _, n, s, x, _, A, E, Q, h => by cases x; cases n <;> exact wpAny_pure h
  | .tup ks, _, 0, s, x, hd, A, E, Q, h => by simp [NestedKey.depth] at hd
  | .tup ks, _, n + 1, s, x, hd, A, E, Q, h => by
    cases x with
    | @tup a o vs _ _ h1 h2 h3 h4 =>
      rw [NestedKey.depth] at hd
      unfold ofAClassStatement
      refine wpAny_bind (wpAny_typeOf ⟨_, h1, h2⟩ ?_)
      have e : (("tuple" : String) == "tuple") = true := rfl
      dsimp only
      simp only [e, if_true]
      refine wpAny_bind (wpAny_pure ?_)
      show wpAny _ _ (seqItems? (.ref a) >>= _) _ _ s
      refine wpAny_bind (wpAny_seqItems h1 h3 ?_)
      exact ask_all (n := 0) vs (fun v hv Q h => cls_nos ks vs.toList n s h4 (by omega) v hv A E Q h) h
theorem cls_nos : ∀ (ks : List NKey) (vs : List Value) (n : Nat) (s : Shared), NestedAll s.heap ks vs → NestedKey.depthAll ks ≤ n → ∀ v ∈ vs, ∀ (A : Around) (E : Value → Shared → Prop) (Q : Bool → Shared → Prop), Q false s → wpAny (model P w) A (ofAClassStatement n v) Q E s
  | [], _, n, s, x, _, v, hv, A, E, Q, h => by cases x; cases hv
  | k :: ks, _, n, s, x, hd, v, hv, A, E, Q, h => by
    rw [NestedKey.depthAll] at hd
    cases x with
    | cons x1 x2 =>
      rcases List.mem_cons.mp hv with e | hv
      · rw [e]; exact cls_no k _ n s x1 (by omega) A E Q h
      · exact cls_nos ks _ n s x2 (by omega) v hv A E Q h
end
mutual
/-- whether its hash is by value: some answer -/
theorem hbv_any : ∀ (k : NKey) (v : Value) (n : Nat) (s : Shared), NestedIs s.heap k v → k.depth ≤ n → ∀ (A : Around) (E : Value → Shared → Prop) (Q : Bool → Shared → Prop), (∀ c, Q c s) → wpAny (model P w) A (hashByValue n v) Q E s
  | .none, _, n, s, x, _, A, E, Q, h => by cases x; cases n <;> exact wpAny_pure (h _)
  | .num _, _, n, s, x, _, A, E, Q, h => by cases x <;> cases n <;> exact wpAny_pure (h _)
  | .text _, _, n, s, x, _, A, E, Q, h => by cases x; cases n <;> exact wpAny_pure (h _)
  | .tup ks, _, 0, s, x, hd, A, E, Q, h => by simp [NestedKey.depth] at hd
  | .tup ks, _, n + 1, s, x, hd, A, E, Q, h => by
    cases x with
    | @tup a o vs _ _ h1 h2 h3 h4 =>
      rw [NestedKey.depth] at hd
      unfold hashByValue
      refine wpAny_bind (wpAny_specialOf (T := "tuple") ⟨_, h1, h2⟩ F.slot_tuple_hash.lookup ?_)
      show wpAny _ _ (seqItems? (.ref a) >>= _) _ _ s
      refine wpAny_bind (wpAny_seqItems h1 h3 ?_)
      refine wpAny_bind ?_
      show wpAny _ _ (forIn vs _ _) _ _ s
      rw [← Array.forIn_toList]
      refine wpAny_forIn_list _ (fun rest r s' => s' = s ∧ ∀ v ∈ rest, v ∈ vs.toList) _ ?_ ?_ _ _ ⟨rfl, fun v hv => hv⟩
      · rintro v rest r s' ⟨rfl, hall⟩
        refine wpAny_bind (hbv_anys ks vs.toList n s' h4 (by omega) v (hall v (List.mem_cons_self ..)) A _ _ fun c => ?_)
        cases c
        · exact wpAny_pure (wpAny_pure (h _))
        · exact wpAny_pure ⟨rfl, fun u hu => hall u (List.mem_cons_of_mem _ hu)⟩
      · rintro ⟨r1, r2⟩ s' ⟨rfl, _⟩
        cases r1
        · exact wpAny_pure (h _)
        · exact wpAny_pure (h _)
theorem hbv_anys : ∀ (ks : List NKey) (vs : List Value) (n : Nat) (s : Shared), NestedAll s.heap ks vs → NestedKey.depthAll ks ≤ n → ∀ v ∈ vs, ∀ (A : Around) (E : Value → Shared → Prop) (Q : Bool → Shared → Prop), (∀ c, Q c s) → wpAny (model P w) A (hashByValue n v) Q E s
  | [], _, n, s, x, _, v, hv, A, E, Q, h => by cases x; cases hv
  | k :: ks, _, n, s, x, hd, v, hv, A, E, Q, h => by
    rw [NestedKey.depthAll] at hd
    cases x with
    | cons x1 x2 =>
      rcases List.mem_cons.mp hv with e | hv
      · rw [e]; exact hbv_any k _ n s x1 (by omega) A E Q h
      · exact hbv_anys ks _ n s x2 (by omega) v hv A E Q h
end
variable {A : Around} {E : Value → Shared → Prop} {s : Shared}
/-- a search among such tuples shows nothing -/
theorem seenN {k : NKey} {b : Addr} {Q : Bool → Shared → Prop} (hk : IsN P w s.heap k b) {ys : List Value} (hy : ∀ y ∈ ys, ∃ k' c, y = .ref c ∧ IsN P w s.heap k' c) (h : Q false s) : wpAny (model P w) A (searchCouldBeSeen (.ref b) ys) Q E s := by
  unfold searchCouldBeSeen
  refine wpAny_bind ?_
  refine wpAny_forIn_list _ (fun rest r s' => r.1 = none ∧ s' = s ∧ ∀ v ∈ rest, v ∈ ys) _ ?_ ?_ _ _ ⟨rfl, rfl, fun v hv => hv⟩
  · rintro v rest r s' ⟨_, rfl, hall⟩
    have go : ∀ u ∈ rest, u ∈ ys := fun u hu => hall u (List.mem_cons_of_mem _ hu)
    obtain ⟨k', c, rfl, hc⟩ := hy v (hall v (List.mem_cons_self ..))
    dsimp only
    by_cases hv : (b == c || (carriedByValue (.ref b) && carriedByValue (.ref c))) = true
    · exact wp_if_pos hv (wpAny_pure ⟨rfl, rfl, go⟩)
    · refine wp_if_neg hv ?_
      refine wpAny_bind ((nestedKind P w).quiet hk (wpAny_bind ((nestedKind P w).quiet hc ?_)))
      refine wpAny_bind (cls_no k _ 8 s' hk.1 hk.2 _ _ _ (wpAny_bind (cls_no k' _ 8 s' hc.1 hc.2 _ _ _ ?_)))
      exact wpAny_pure ⟨rfl, rfl, go⟩
  · rintro ⟨r1, r2⟩ s' ⟨hr, rfl, _⟩
    cases hr
    exact wpAny_pure h
def nrows (w : World) (L : List (Addr × NKey)) : List (Int × Value) := L.map fun p => (p.2.hash w, .ref p.1)
structure SetN (P : Program) (w : World) (h : Heap) (a : Addr) (L : List (Addr × NKey)) (es : Array (Int × Value)) (ep : Nat) (t : SetTable) : Prop where
  obj : ∃ o, h.get? a = some o ∧ o.ExactSet ∧ o.data = .set es ep t
  row : es.toList = nrows w L
  tbl : TabOk t (L.map fun p => p.2.hash w)
  one : (L.map (·.2)).Nodup
  key : ∀ p ∈ L, IsN P w h p.2 p.1
  led : w.params.followText "set-order" = true ∨ t.led = true
  gap : L.length * 5 < t.mask * 3
  few : L.length < 64
variable {a : Addr} {L : List (Addr × NKey)} {es : Array (Int × Value)} {ep : Nat} {t : SetTable}
theorem nrows_size {es : Array (Int × Value)} {L : List (Addr × NKey)} (h : es.toList = nrows w L) : es.size = L.length := by
  rw [← Array.length_toList, h, nrows, List.length_map]
theorem nrows_at {es : Array (Int × Value)} {L : List (Addr × NKey)} (h : es.toList = nrows w L) {i : Nat} {p : Addr × NKey} (hp : L[i]? = some p) : es[i]? = some (p.2.hash w, .ref p.1) := by
  rw [← Array.getElem?_toList, h, nrows, List.getElem?_map, hp]; rfl
theorem SetN.fits (R : SetN P w s.heap a L es ep t) : t.fits es.size = true := by
  have h1 := R.tbl.sz
  have h2 := nrows_size R.row
  have h3 := R.gap
  rw [List.length_map] at h1
  simp only [SetTable.fits, SetTable.fill, R.tbl.dm, Bool.and_eq_true, beq_iff_eq, decide_eq_true_eq]
  exact ⟨by omega, by show t.place.size + 0 ≤ t.mask; omega⟩
theorem nth_calm (m : Nat) : ∀ (n : Nat) (p : SetTable.Probe), p.dummy = none → (nth m p n).dummy = none
  | 0, _, h => h
  | n + 1, p, h => nth_calm m n (adv m p) (by unfold adv; split <;> exact h)
abbrev pr (w : World) (t : SetTable) (k : NKey) (c : Nat) : SetTable.Probe := nth t.mask (runAt t.mask (SetTable.bits (k.hash w) % (t.mask + 1)) (SetTable.bits (k.hash w))) c
/-- the search, from the c-th step of its way on: no step behind was one of this key -/
theorem findN (R : SetN P w s.heap a L es ep t) {x : Addr} {k : NKey} (hx : IsN P w s.heap k x) (hu : A.units + 8 < cLine) {N : Nat} (hN : N < 10 * SetTable.turns t.mask) (hf : (pr w t k N).j ∉ t.place.toList) (hb : ∀ c, c < N → (pr w t k c).j ∈ t.place.toList)
    {Q : SetFound → Shared → Prop} (hin : k ∈ L.map (·.2) → Q (.there none) s) (hout : k ∉ L.map (·.2) → Q (.free (pr w t k N).j false) s) :
    ∀ (f c : Nat) (stand : Option SetTable.Probe), stand.getD (t.probeStart (k.hash w)) = pr w t k c → c ≤ N → N - c < f →
      (∀ (c' i : Nat) p, c' < c → t.place.toList[i]? = some (pr w t k c').j → L[i]? = some p → p.2 ≠ k) → wpAny (model P w) A (setSearchFrom a (.ref x) (k.hash w) true f stand) Q E s
  | 0, _, _, _, _, h, _ => absurd h (Nat.not_lt_zero _)
  | f + 1, c, stand, hs, hc, hl, hq => by
    obtain ⟨o, ho, hex, hd⟩ := R.obj
    have hL : ∀ (i j : Nat), t.place.toList[i]? = some j → ∃ p, L[i]? = some p := fun i j h => by
      have h1 : i < t.place.toList.length := (List.getElem?_eq_some_iff.mp h).1
      have h2 := R.tbl.sz
      rw [List.length_map] at h2
      rw [Array.length_toList, h2] at h1
      exact ⟨_, List.getElem?_eq_getElem h1⟩
    have hA : ∀ (i : Nat) p, L[i]? = some p → (fun i => (es[i]?.map (·.1)).getD 0) i = p.2.hash w := fun i p hp => by
      show (es[i]?.map (·.1)).getD 0 = _
      rw [nrows_at R.row hp]; rfl
    have sh : ∀ q, nth t.mask (pr w t k c) q = pr w t k (c + q) := fun q => (nth_add t.mask c _ q).symm
    have spec := go_spec t R.tbl.ris R.tbl.dm (fun i => (es[i]?.map (·.1)).getD 0) (k.hash w) (10 * SetTable.turns t.mask) (N - c) (pr w t k c) (nth_calm _ _ _ rfl) (by omega)
      (fun q hq => by rw [sh]; exact hb (c + q) (by omega)) (by rw [sh, show c + (N - c) = N by omega]; exact hf)
    rw [setSearchFrom_succ]
    refine wpAny_bind (wpAny_setState_of ho hd R.fits ?_)
    dsimp only
    refine wp_if_neg (by unfold SetTable.gaveWay; rw [mask_odd R.tbl.mok]; decide) ?_
    try refine wpAny_bind (wpAny_pure ?_)
    rw [hs]
    rcases spec with ⟨q, i, h1, h2, h3, h4, h5⟩ | ⟨h4, h5⟩
    · simp only [sh] at h2 h4 h5
      have h5' : t.probe (fun i => (es[i]?.map (·.1)).getD 0) (k.hash w) (pr w t k c) = some (.candidate (pr w t k (c + q)).j i (pr w t k (c + (q + 1)))) := h5
      rw [h5']
      dsimp only
      obtain ⟨p, hp⟩ := hL i _ h2
      have hpk := R.key p (List.mem_of_getElem? hp)
      have go : wpAny (model P w) A (searchRest a (.ref x) (k.hash w) true f es t (pr w t k (c + q)).j i (pr w t k (c + (q + 1)))) Q E s := by
        unfold searchRest
        rw [nrows_at R.row hp]
        dsimp only
        refine wpAny_bind (wpAny_holding ((nestedKind P w).eqBool hu hpk hx ?_))
        refine wpAny_bind (wpAny_setState_of ho hd R.fits ?_)
        dsimp only
        by_cases e : p.2 = k
        · refine wp_if_pos (by simp [e]) ?_
          exact wpAny_pure (hin (List.mem_map.mpr ⟨p, List.mem_of_getElem? hp, e⟩))
        · refine wp_if_neg (by simp [e]) ?_
          try refine wpAny_bind (wpAny_pure ?_)
          rw [sameMem]
          dsimp only
          have sl : t.slot (pr w t k (c + q)).j = .live i := slot_live R.tbl.ris h2
          simp only [if_true, sl, nrows_at R.row hp]
          refine wpAny_bind (wpAny_isSame_ref_self (wpAny_bind (wpAny_pure ?_)))
          simp only [if_true]
          refine wp_if_neg (by simp [e]) ?_
          refine findN R hx hu hN hf hb hin hout f (c + (q + 1)) (some _) rfl (by omega) (by omega) fun c' i' p' hc' hi' hp' z => ?_
          rcases Nat.lt_or_ge c' c with y | y
          · exact hq c' i' p' y hi' hp' z
          · rcases Nat.lt_or_ge c' (c + q) with y2 | y2
            · refine h4 (c' - c) i' (by omega) (by rw [show c + (c' - c) = c' by omega]; exact hi') ?_
              exact (hA i' p' hp').trans (by rw [z])
            · have ec : c' = c + q := by omega
              rw [ec] at hi'
              have s2 := slot_live R.tbl.ris hi'
              rw [sl] at s2
              cases s2
              rw [hp] at hp'
              cases hp'
              exact e z
      by_cases ld : t.led = true
      · refine wp_if_neg (by simp [ld]) ?_
        try refine wpAny_bind (wpAny_pure ?_)
        exact go
      · refine wp_if_pos (by simp [ld]) ?_
        refine wpAny_bind (seenN hx (fun y hy => ?_) ?_)
        · obtain ⟨e, he, rfl⟩ := List.mem_map.mp hy
          have he2 : e ∈ es.toList := by
            have : e ∈ es ∧ e.1 = k.hash w := by simpa using he
            simpa using this.1
          rw [R.row] at he2
          obtain ⟨p2, hp2, rfl⟩ := List.mem_map.mp he2
          exact ⟨p2.2, p2.1, rfl, R.key p2 hp2⟩
        · refine wp_if_neg (by decide) ?_
          try refine wpAny_bind (wpAny_pure ?_)
          exact go
    · simp only [sh] at h4 h5
      rw [show c + (N - c) = N by omega] at h5
      have h5' : t.probe (fun i => (es[i]?.map (·.1)).getD 0) (k.hash w) (pr w t k c) = some (.empty (pr w t k N).j none) := h5
      rw [h5']
      dsimp only
      refine wpAny_pure (hout fun hm => ?_)
      obtain ⟨p, hp, e⟩ := List.mem_map.mp hm
      obtain ⟨i, hi, ei⟩ := List.getElem_of_mem hp
      have hp' : L[i]? = some p := by rw [List.getElem?_eq_getElem hi, ei]
      have hlt : i < t.place.toList.length := by
        have h2 := R.tbl.sz
        rw [List.length_map] at h2
        rw [Array.length_toList, h2]; exact hi
      have hj := List.getElem?_eq_getElem hlt
      obtain ⟨c', hc', e'⟩ := R.tbl.before (h := k.hash w) hf (by rw [List.getElem?_map, hp', ← e]; rfl) hj
      have hj' : t.place.toList[i]? = some (pr w t k c').j := by rw [hj, ← e']
      rcases Nat.lt_or_ge c' c with y | y
      · exact hq c' i p y hj' hp' e
      · refine h4 (c' - c) i (by omega) (by rw [show c + (c' - c) = c' by omega]; exact hj') ?_
        exact (hA i p hp').trans (by rw [e])
theorem searchN (R : SetN P w s.heap a L es ep t) {x : Addr} {k : NKey} (hx : IsN P w s.heap k x) (hu : A.units + 8 < cLine) {Q : SetFound → Shared → Prop} (hin : k ∈ L.map (·.2) → Q (.there none) s)
    (hout : ∀ N, k ∉ L.map (·.2) → way t.mask (k.hash w) N ∉ t.place.toList → (∀ c, c < N → way t.mask (k.hash w) c ∈ t.place.toList) → Q (.free (way t.mask (k.hash w) N) false) s) : wpAny (model P w) A (setSearch a (.ref x) (k.hash w) true) Q E s := by
  have hg := R.gap
  obtain ⟨N, h1, h2, h3⟩ := R.tbl.first (by rw [List.length_map]; omega) (k.hash w)
  unfold setSearch
  refine findN R hx hu h1 h2 h3 hin (fun hn => hout N hn h2 h3) 100000 0 none rfl (Nat.zero_le _) ?_ fun c' i p hc' => absurd hc' (Nat.not_lt_zero _)
  have : SetTable.turns t.mask < 1000 := by
    unfold SetTable.turns
    rcases R.tbl.mok with e | e | e <;> omega
  omega
theorem isN_but {h h' : Heap} {k : NKey} {b : Addr} {o : Obj} {es : Array (Int × Value)} {ep : Nat} {t : SetTable} (x : IsN P w h k b) (ho : h.get? a = some o) (hd : o.data = .set es ep t) (hs : Heap.SameBut a h h') : IsN P w h' k b :=
  nestedKind_stays.stays (fun c u vs n e ed => (hs.2 c (fun z => by
    subst z
    rw [ho] at e
    cases e
    rw [hd] at ed
    cases ed)).trans e) x
theorem isN_keep {h h' : Heap} {k : NKey} {b : Addr} (x : IsN P w h k b) (hk : ∀ c o, h.get? c = some o → h'.get? c = some o) : IsN P w h' k b := nestedKind_stays.stays (fun c u _ _ e _ => hk c u e) x
theorem rangeL {α : Type} (L : List α) : (List.range L.length).filterMap (fun i => L[i]?) = L := by
  have : ∀ n, n ≤ L.length → (List.range n).filterMap (fun i => L[i]?) = L.take n := by
    intro n
    induction n with
    | zero => exact fun _ => rfl
    | succ n ih =>
      intro h
      rw [List.range_succ, List.filterMap_append, ih (by omega), take_next (List.getElem?_eq_getElem (show n < L.length by omega)), List.filterMap_cons_some (List.getElem?_eq_getElem (show n < L.length by omega))]
      rfl
  rw [this _ (Nat.le_refl _), List.take_length]
theorem orderN {order : Array Nat} (hr : es.toList = nrows w L) (hp : order.toList.Perm (List.range L.length)) :
    ∃ L2, (order.filterMap (es[·]?)).toList = nrows w L2 ∧ L2.Perm L ∧ (L2.map fun p => p.2.hash w) = order.toList.map fun i => (es.map (·.1)).getD i 0 := by
  have hin : ∀ i ∈ order.toList, i < L.length := fun i hi => List.mem_range.mp (hp.mem_iff.mp hi)
  have step : ∀ l : List Nat, (∀ i ∈ l, i < L.length) → l.filterMap (fun i => es[i]?) = nrows w (l.filterMap fun i => L[i]?) ∧ ((l.filterMap fun i => L[i]?).map fun p => p.2.hash w) = l.map fun i => (es.map (·.1)).getD i 0 := by
    intro l
    induction l with
    | nil => exact fun _ => ⟨rfl, rfl⟩
    | cons i l ih =>
      intro h
      obtain ⟨e1, e2⟩ := ih fun j hj => h j (List.mem_cons_of_mem _ hj)
      have hp := List.getElem?_eq_getElem (h i (List.mem_cons_self ..))
      have he := nrows_at hr hp
      rw [List.filterMap_cons_some he, List.filterMap_cons_some hp, e1, List.map_cons, e2, List.map_cons]
      refine ⟨rfl, ?_⟩
      have : (es.map (·.1)).getD i 0 = (L[i]'(h i (List.mem_cons_self ..))).2.hash w := by
        rw [Array.getD_eq_getD_getElem?, Array.getElem?_map, he]; rfl
      rw [this]
  obtain ⟨e1, e2⟩ := step order.toList hin
  refine ⟨_, by rw [Array.toList_filterMap]; exact e1, ?_, e2⟩
  have := hp.filterMap fun i => L[i]?
  rw [rangeL] at this
  exact this
theorem relayN {o : Obj} (ho : s.heap.get? a = some o) (hex : o.ExactSet) (hd : o.data = .set es ep t) (hrow : es.toList = nrows w L) (hsz : t.place.size = es.size) (hdm : t.dummies = #[]) (hfl : es.size ≤ t.mask)
    (one : (L.map (·.2)).Nodup) (key : ∀ p ∈ L, IsN P w s.heap p.2 p.1) (ld : w.params.followText "set-order" = true ∨ t.led = true) (few : L.length < 64) {wanted M : Nat}
    (hw : SetTable.sizeAbove wanted = M + 1) (hM : MaskOk M) (hn : L.length * 5 < M * 3) {Q : Unit → Shared → Prop}
    (hQ : ∀ h' L' es' ep' t', Heap.SameBut a s.heap h' → SetN P w h' a L' es' ep' t' → L'.Perm L → Q () { s with heap := h' }) : wpAny (model P w) A (setRelay a wanted) Q E s := by
  have hsl := nrows_size hrow
  have hfit : t.fits es.size = true := by
    simp only [SetTable.fits, SetTable.fill, hdm, Bool.and_eq_true, beq_iff_eq, decide_eq_true_eq]
    exact ⟨hsz, by show t.place.size + 0 ≤ t.mask; omega⟩
  have hM2 : M + 1 ≤ 128 := by rcases hM with e | e | e <;> omega
  obtain ⟨t', order, e, hp, T, em, el, ep', ed⟩ := relaid_ok t (hs := es.map (·.1)) (wanted := wanted) (by rw [hw]; rfl) hM (by rw [Array.size_map, hsl]; omega)
  rw [Array.size_map, hsl] at hp
  obtain ⟨L2, r1, r2, r3⟩ := orderN hrow hp
  rw [← r3] at T
  have hs2 : (order.filterMap (es[·]?)).size = es.size := by rw [nrows_size r1, r2.length_eq, hsl]
  rw [setRelay_eq]
  refine wpAny_bind (wpAny_setState_of ho hd hfit ?_)
  dsimp only
  refine wp_if_neg (by rw [sizeLine_eq, hw]; omega) ?_
  try refine wpAny_bind (wpAny_pure ?_)
  rw [e]
  dsimp only
  refine wpAny_bind ?_
  refine wp_if_neg (by rw [hs2]; simp) ?_
  try refine wpAny_bind (wpAny_pure ?_)
  refine wpAny_pure ?_
  dsimp only
  refine wpAny_storeSet_of ho hd ?_ (by rw [hs2, hsl, sizeLine_eq]; omega)
  have sb : Heap.SameBut a s.heap (s.heap.update a (Obj.putSet (order.filterMap (es[·]?)) t')) := Heap.SameBut.update ..
  refine hQ _ L2 _ (ep + 1) t' sb ⟨⟨_, store_at ho hd, ⟨hex.1, hex.2.1, hex.2.2⟩, rfl⟩, r1, T, (r2.map (·.2)).nodup_iff.mpr one, fun p h => isN_but (key p (r2.mem_iff.mp h)) ho hd sb, by rw [el]; exact ld, by rw [r2.length_eq, em]; exact hn, by rw [r2.length_eq]; exact few⟩ r2
theorem tab_plain {t : SetTable} {hs : List Int} {b : Bool} (T : TabOk t hs) : TabOk { t with plain := b } hs := ⟨T.ris, T.dm, T.sz, T.mok, T.bd, T.reach⟩
theorem addN (R : SetN P w s.heap a L es ep t) {x : Addr} {k : NKey} (hx : IsN P w s.heap k x) (hu : A.units + 8 < cLine) (few : L.length + 1 < 64) {Q : Bool → Shared → Prop}
    (hQ : ∀ b h' L' es' ep' t', Heap.SameBut a s.heap h' → SetN P w h' a L' es' ep' t' → (k ∈ L.map (·.2) → L' = L) → (k ∉ L.map (·.2) → L'.Perm ((x, k) :: L)) → Q b { s with heap := h' }) :
    wpAny (model P w) A (setAddHashed a (.ref x) (k.hash w)) Q E s := by
  obtain ⟨o, ho, hex, hd⟩ := R.obj
  have hsl := nrows_size R.row
  have hg := R.gap
  unfold setAddHashed
  refine wpAny_holding ?_
  rw [show (100000 : Nat) = 99999 + 1 from rfl, setAddHashedIn_succ]
  refine wpAny_bind (wpAny_setState_of ho hd R.fits ?_)
  dsimp only
  refine wp_if_neg (by simp [byScan, Value.scannable]) ?_
  try refine wpAny_bind (wpAny_pure ?_)
  refine wpAny_bind (searchN R hx hu (fun hm => ?_) fun N hm hK hb => ?_)
  · exact wpAny_pure (hQ false s.heap L es ep t (Heap.SameBut.refl a s.heap) R (fun _ => rfl) fun z => absurd hm z)
  · dsimp only
    refine wpAny_bind (wpAny_setState_of ho hd R.fits ?_)
    dsimp only
    obtain ⟨q1, q2, q3, q4, q5, q6, q7, q8, q9⟩ := R.tbl.put hK hb
    generalize hpt : t.put (way t.mask (k.hash w) N) = pt at q1 q3 q4 q5 q6 q7 q8 q9 ⊢
    obtain ⟨t1, p⟩ := pt
    dsimp only at q1 q3 q4 q5 q6 q7 q8 q9 ⊢
    subst q1
    generalize hpp : SetTable.below t.place (way t.mask (k.hash w) N) = p at q2 q3 ⊢
    have hin : (SetTable.insertAt es p (k.hash w, Value.ref x)).toList = nrows w (L.take p ++ (x, k) :: L.drop p) := by
      rw [SetTable.toList_insertAt, R.row]
      simp [nrows, List.map_take, List.map_drop]
    have pm := put_perm L p (x, k)
    have hlen : (L.take p ++ (x, k) :: L.drop p).length = L.length + 1 := pm.length_eq
    have q3' : TabOk t1 ((L.take p ++ (x, k) :: L.drop p).map fun p => p.2.hash w) := by
      have e : (L.take p ++ (x, k) :: L.drop p).map (fun p => p.2.hash w) = (L.map fun p => p.2.hash w).take p ++ k.hash w :: (L.map fun p => p.2.hash w).drop p := by simp [List.map_take, List.map_drop]
      rw [e]; exact q3
    have hes := nrows_size hin
    generalize SetTable.insertAt es p (k.hash w, Value.ref x) = es1 at hin hes ⊢
    generalize L.take p ++ (x, k) :: L.drop p = L1 at pm hlen q3' hin hes
    have after : ∀ c : Bool, wpAny (model P w) A (do
        let t := if c then t1 else { t1 with plain := false }
        storeSet a es1 t
        if !false && t.tooFull then setRelay a (SetTable.grown (es.size + 1))
        return true) Q E s := by
      intro c
      have T2 : TabOk (if c then t1 else { t1 with plain := false }) (L1.map fun p => p.2.hash w) := by
        cases c
        · exact tab_plain q3'
        · exact q3'
      have m2 : (if c then t1 else { t1 with plain := false }).mask = t.mask := by cases c <;> exact q4
      have l2 : (if c then t1 else { t1 with plain := false }).led = t.led := by cases c <;> exact q5
      have f2 : (if c then t1 else { t1 with plain := false }).fill = (L.map fun p => p.2.hash w).length + 1 := by cases c <;> exact q9
      generalize (if c then t1 else { t1 with plain := false }) = t2 at T2 m2 l2 f2
      dsimp only
      refine wpAny_bind (wpAny_storeSet_of ho hd ?_ (by rw [hes, hlen, sizeLine_eq]; omega))
      have sb : Heap.SameBut a s.heap (s.heap.update a (Obj.putSet es1 t2)) := Heap.SameBut.update ..
      have ho1 := store_at (es' := es1) (t' := t2) ho hd
      generalize s.heap.update a (Obj.putSet es1 t2) = h1 at sb ho1 ⊢
      have one1 : (L1.map (·.2)).Nodup := (pm.map (·.2)).nodup_iff.mpr (List.nodup_cons.mpr ⟨hm, R.one⟩)
      have key1 : ∀ p ∈ L1, IsN P w h1 p.2 p.1 := fun p hp => by
        rcases List.mem_cons.mp (pm.mem_iff.mp hp) with e | hp
        · rw [e]; exact isN_but hx ho hd sb
        · exact isN_but (R.key p hp) ho hd sb
      have led1 : w.params.followText "set-order" = true ∨ t2.led = true := by rw [l2]; exact R.led
      have full : t2.tooFull = decide ((L.length + 1) * 5 ≥ t.mask * 3) := by
        unfold SetTable.tooFull
        rw [f2, m2, List.length_map]
      have ps : t2.place.size = es1.size := by rw [T2.sz, List.length_map, hes]
      by_cases hf : (L.length + 1) * 5 ≥ t.mask * 3
      · have ht : (!false && t2.tooFull) = true := by rw [full, decide_eq_true hf]; rfl
        have go : ∀ M, SetTable.sizeAbove (SetTable.grown (L.length + 1)) = M + 1 → MaskOk M → (L.length + 1) * 5 < M * 3 →
            wpAny (model P w) A (setRelay a (SetTable.grown (L.length + 1))) (fun _ s' => wpAny (model P w) A (pure true) Q E s') E { s with heap := h1 } := fun M e1 e2 e3 => by
          refine relayN (s := { s with heap := h1 }) ho1 ⟨hex.1, hex.2.1, hex.2.2⟩ rfl hin ps T2.dm ?_ one1 key1 led1 (by rw [hlen]; exact few) e1 e2 (by rw [hlen]; exact e3) fun h2 L2 es2 ep2 t3 sb2 R2 pm2 => ?_
          · rw [hes, hlen, m2]; rcases R.tbl.mok with e | e | e <;> omega
          · exact wpAny_pure (hQ true h2 L2 es2 ep2 t3 (sb.trans sb2) R2 (fun z => absurd z hm) fun _ => pm2.trans pm)
        rw [hsl]
        have run : wpAny (model P w) A (setRelay a (SetTable.grown (L.length + 1))) (fun _ s' => wpAny (model P w) A (pure true) Q E s') E { s with heap := h1 } := by
          rcases R.tbl.mok with e | e | e
          · have e2 : L.length = 4 := by rw [e] at hf hg; omega
            rw [e2] at go ⊢
            exact go 31 size_20 (.inr (.inl rfl)) (by omega)
          · have e2 : L.length = 18 := by rw [e] at hf hg; omega
            rw [e2] at go ⊢
            exact go 127 size_76 (.inr (.inr rfl)) (by omega)
          · exfalso; rw [e] at hf; omega
        first
          | exact wp_if_pos ht (wpAny_bind run)
          | exact wpAny_bind (wp_if_pos ht run)
      · have ht : ¬ (!false && t2.tooFull) = true := by rw [full, decide_eq_false hf]; decide
        have fin : Q true { s with heap := h1 } := hQ true h1 L1 es1 (ep + 1) t2 sb ⟨⟨_, ho1, ⟨hex.1, hex.2.1, hex.2.2⟩, rfl⟩, hin, T2, one1, key1, led1, by rw [hlen, m2]; omega, by rw [hlen]; exact few⟩ (fun z => absurd z hm) fun _ => pm
        first
          | exact wp_if_neg ht (wpAny_pure fin)
          | exact wpAny_bind (wp_if_neg ht (wpAny_pure (wpAny_pure fin)))
    by_cases pl : t1.plain = true
    · first
        | exact wpAny_bind (wp_if_pos pl (hbv_any k _ 8 s hx.1 hx.2 _ _ _ after))
        | exact wp_if_pos pl (wpAny_bind (hbv_any k _ 8 s hx.1 hx.2 _ _ _ after))
    · first
        | exact wpAny_bind (wp_if_neg pl (wpAny_pure (after true)))
        | exact wp_if_neg pl (wpAny_bind (wpAny_pure (after true)))
end
end PPG
set_option Elab.async false
set_option linter.all false
set_option autoImplicit false
set_option maxRecDepth 100000
set_option maxHeartbeats 4000000
namespace PPG
open PySem PySem.Spec PyProof.Rows L2
/-- what a set has of the first i items -/
structure HasN (ks : List (Addr × NKey)) (i : Nat) (L : List (Addr × NKey)) : Prop where
  sub : ∀ p ∈ L, p ∈ ks.take i
  all : ∀ p ∈ ks.take i, p.2 ∈ L.map (·.2)
  len : L.length ≤ i
theorem HasN.next {ks L L' : List (Addr × NKey)} {i : Nat} {x : Addr × NKey} (g : HasN ks i L) (h : ks[i]? = some x) (c1 : x.2 ∈ L.map (·.2) → L' = L) (c2 : x.2 ∉ L.map (·.2) → L'.Perm (x :: L)) : HasN ks (i + 1) L' := by
  have e : ks.take (i + 1) = ks.take i ++ [x] := take_next h
  by_cases c : x.2 ∈ L.map (·.2)
  · rw [c1 c]
    refine ⟨fun p hp => by rw [e]; exact List.mem_append_left _ (g.sub p hp), fun p hp => ?_, by have := g.len; omega⟩
    rw [e] at hp
    rcases List.mem_append.mp hp with z | z
    · exact g.all p z
    · rw [List.mem_singleton.mp z]; exact c
  · have pm := c2 c
    refine ⟨fun p hp => ?_, fun p hp => ?_, by rw [pm.length_eq]; have := g.len; simp; omega⟩
    · rw [e]
      rcases List.mem_cons.mp (pm.mem_iff.mp hp) with z | z
      · rw [z]; simp
      · exact List.mem_append_left _ (g.sub p z)
    · rw [e] at hp
      rw [(pm.map (·.2)).mem_iff]
      rcases List.mem_append.mp hp with z | z
      · exact List.mem_cons_of_mem _ (g.all p z)
      · rw [List.mem_singleton.mp z]; exact List.mem_cons_self ..
section
variable {P : Program} {w : World} {A : Around} {E : Value → Shared → Prop} {s : Shared}
theorem SetN.keep {h h' : Heap} {a : Addr} {L : List (Addr × NKey)} {es : Array (Int × Value)} {ep : Nat} {t : SetTable} (R : SetN P w h a L es ep t) (ha : ∀ o, h.get? a = some o → h'.get? a = some o) (hk : ∀ p ∈ L, IsN P w h' p.2 p.1) : SetN P w h' a L es ep t :=
  let ⟨o, ho, r⟩ := R.obj
  ⟨⟨o, ha o ho, r⟩, R.row, R.tbl, R.one, hk, R.led, R.gap, R.few⟩
theorem freshN {h : Heap} {a : Addr} (ho : h.get? a = some (PPL.nset w)) : SetN P w h a [] #[] 0 (.fresh 0 0 (!w.params.followText "set-order")) where
  obj := ⟨_, ho, ⟨rfl, rfl, rfl⟩, rfl⟩
  row := rfl
  tbl := ⟨List.Pairwise.nil, rfl, rfl, .inl rfl, fun x hx => (nomatch hx), fun i h j hi => by simp at hi⟩
  one := List.nodup_nil
  key := fun p hp => nomatch hp
  led := by
    show _ ∨ (!w.params.followText "set-order") = true
    cases w.params.followText "set-order" <;> simp
  gap := by show 0 * 5 < 7 * 3; omega
  few := by show 0 < 64; omega
/-- set.update's turns -/
theorem turnsN {I : Addr} {fp wr : List Addr} {G : Array GenState → Array GenState → Prop} {n : Nat} {Pv : Nat → Value → Prop} {St : Nat → Shared → Prop} {R : Result → Shared → Prop}
    (W : WalksS P w A.in1 I fp wr G n Pv St) (S : Addr) (hS : S ∉ fp) (ks : List (Addr × NKey)) (hn : n = ks.length) (few : ks.length < 64) (hv : ∀ i v, Pv i v → ∃ p, ks[i]? = some p ∧ v = .ref p.1)
    (h0 : Heap) (hk : ∀ p ∈ ks, IsN P w h0 p.2 p.1) (hS0 : h0.get? S = none) (hw0 : ∀ b ∈ wr, h0.get? b = none) (hu : A.in1.units + 8 < cLine) :
    ∀ (m i : Nat) (s : Shared), i + m = n → St i s → (∀ b o, h0.get? b = some o → s.heap.get? b = some o) → (∃ L es ep t, SetN P w s.heap S L es ep t ∧ HasN ks i L) →
      (∀ s' L es ep t, Moved (S :: wr) G s s' → SetN P w s'.heap S L es ep t → HasN ks n L → (∀ b o, h0.get? b = some o → s'.heap.get? b = some o) → R (.ok (.ret .none)) s') →
      codeAny (model P w) A (.builtin "set.update.loop" ⟨[.ref S, .ref I], []⟩) R s := by
  have hSw : S ∉ wr := fun z => hS (W.sub _ z)
  have more : ∀ b ∈ wr, b ∈ S :: wr := fun b hb => List.mem_cons_of_mem _ hb
  have kp : ∀ {s s' : Shared}, Moved wr G s s' → (∀ b o, h0.get? b = some o → s.heap.get? b = some o) → ∀ b o, h0.get? b = some o → s'.heap.get? b = some o := fun hm h b o e =>
    hm.heap b o (fun hb => by rw [hw0 b hb] at e; cases e) (h b o e)
  intro m
  induction m with
  | zero =>
    intro i s hi st h ⟨L, es, ep, t, RS, g⟩ hR
    have ei : i = n := by omega
    subst ei
    refine codeAny_builtin F.entry_set_update_loop ?_
    rw [Around.under_plainId F.plain_set_update_loop _]
    show wpAny _ A.in1 (pyNext (.ref I) >>= _) _ _ s
    refine wpAny_bind (W.done s _ _ st fun s' hm => ?_)
    have h' := kp hm h
    exact (show wpAny _ A.in1 (ret Value.none) _ _ s' from wpAny_pure (hR s' L es ep t (hm.mono more) (RS.keep (fun o e => hm.heap S o hSw e) fun p hp => isN_keep (hk p (List.mem_of_mem_take (g.sub p hp))) h') g h'))
  | succ m ih =>
    intro i s hi st h ⟨L, es, ep, t, RS, g⟩ hR
    refine codeAny_builtin F.entry_set_update_loop ?_
    rw [Around.under_plainId F.plain_set_update_loop _]
    show wpAny _ A.in1 (pyNext (.ref I) >>= _) _ _ s
    refine wpAny_bind (W.item i s _ _ (by omega) st fun v s' hP st' hm => ?_)
    obtain ⟨p, hp, rfl⟩ := hv i v hP
    have h' := kp hm h
    have RS' : SetN P w s'.heap S L es ep t := RS.keep (fun o e => hm.heap S o hSw e) fun q hq => isN_keep (hk q (List.mem_of_mem_take (g.sub q hq))) h'
    have hx : IsN P w s'.heap p.2 p.1 := isN_keep (hk p (List.mem_of_getElem? hp)) h'
    show wpAny _ A.in1 (holding [Value.ref p.1] (setAdd S (.ref p.1)) >>= _) _ _ s'
    refine wpAny_bind (wpAny_holding ?_)
    unfold setAdd
    refine wpAny_holding (wpAny_bind ((nestedKind P w).pyHash hu hx ?_))
    refine addN (s := { s' with toks := s'.toks + (nestedKind P w).draws p.2 }) RS' hx hu (by have := g.len; have := (List.getElem?_eq_some_iff.mp hp).1; omega) fun b h2 L2 es2 ep2 t2 sb R2 c1 c2 => ?_
    have k2 : ∀ b o, h0.get? b = some o → h2.get? b = some o := fun b o e => (sb.2 b (fun z => by rw [z, hS0] at e; cases e)).trans (h' b o e)
    refine wpAny_pure ⟨plainId_quiet F.plain_set_update_loop _, ih (i + 1) _ (by omega) (W.frame _ s' _ _ st' (Nat.le_add_right _ _) fun b hb o e => ?_) k2 ⟨L2, es2, ep2, t2, R2, g.next hp c1 c2⟩ fun s3 L3 es3 ep3 t3 hm3 R3 g3 k3 => ?_⟩
    · exact (sb.2 b (fun z => hS (by rw [← z]; exact hb))).trans e
    · refine hR s3 L3 es3 ep3 t3 (Moved.trans W.gtrans ((hm.mono more).then_heap (Nat.le_add_right _ _) fun b o hb e => ?_) hm3) R3 g3 k3
      exact (sb.2 b (fun z => hb (by rw [z]; exact List.mem_cons_self ..))).trans e
theorem callN_list {l : Addr} {items : Array Value} (ks : List (Addr × NKey)) {Q : Value → Shared → Prop} (hh : A.handled = none) (hl : s.heap.IsList l items) (hit : items.toList = ks.map fun p => Value.ref p.1)
    (hk : ∀ p ∈ ks, IsN P w s.heap p.2 p.1) (few : ks.length < 64) (hu : A.units + 12 < cLine)
    (h : ∀ (h' : Heap) (tk : Nat) L es ep t, SetN P w h' s.heap.objs.size L es ep t → HasN ks ks.length L → (∀ b o, s.heap.get? b = some o → h'.get? b = some o) → Q (.ref s.heap.objs.size) { s with heap := h', toks := tk }) :
    wpAny (model P w) A (call (.type "set") [.ref l]) Q E s := by
  have hisz : items.size = ks.length := by
    rw [← Array.length_toList, hit, List.length_map]
  obtain ⟨c, tl, hmro⟩ := F.called_set.mro
  have hmade := F.called_set.made
  have hsub := F.called_set.sub
  refine wpAny_call (codeAny_of_tree ?_)
  show wpAny _ _ (callAny (.type "set") _) _ _ _
  refine wpAny_pure ⟨Code.quiet_builtin _ (by decide +kernel), codeAny_builtin F.entry_type_call ?_⟩
  rw [Around.under_plain (weight_type_call_type "set" [.ref l] []) rfl]
  have h1 := F.called_set.notType
  have h2 := F.called_set.canCreate
  have hct := F.typeCall_set_1 (.ref l)
  repeat (any_goals (first | assumption | wp_step))
  refine codeAny_mono (code_set_led1 (.ref l) (E := E) (Q₁ := fun obj s₁ => obj = .ref s.heap.objs.size ∧ s₁ = { s with heap := s.heap.push (PPL.nset w) }) ⟨rfl, rfl⟩) fun r s₁ hr => ?_
  match r, hr with
  | .error e, hr => exact hr
  | .ok (.ret obj), hr =>
    obtain ⟨rfl, rfl⟩ := hr
    have hS : (s.heap.push (PPL.nset w)).get? s.heap.objs.size = some (PPL.nset w) := Heap.get?_push_size _ rfl
    have hT : Shared.TypeIs { s with heap := s.heap.push (PPL.nset w) } (.ref s.heap.objs.size) "set" := ⟨_, hS, rfl⟩
    have hli := F.called_set.init.lookup
    have hbi := F.called_set.init.bind (.ref s.heap.objs.size)
    repeat (any_goals (first | assumption | wp_step))
    refine codeAny_mono (codeAny_call_builtin (R := wants (fun r s₂ => r = .none ∧ ∃ h' tk L es ep t, s₂ = { s with heap := h', toks := tk } ∧ SetN P w h' s.heap.objs.size L es ep t ∧ HasN ks ks.length L ∧
        (∀ b o, s.heap.get? b = some o → h'.get? b = some o)) E) F.called_set.init.plain F.entry_set_init (PySem.check_set_init_1 hT ?_)) fun r₂ s₂ hr₂ => ?_
    · obtain ⟨ol, hol, hcl, nl, hdl⟩ := hl
      obtain ⟨ocls, odict, odata, oslots⟩ := ol
      simp only at hcl hdl
      subst hcl; subst hdl
      have hol' : (s.heap.push (PPL.nset w)).get? l = some { cls := .type "list", dict := odict, data := .seq items nl, slots := oslots } := Heap.get?_push_of_some _ hol
      have hsls := F.sub_list_set
      have hslf := F.sub_list_frozenset
      have hne : (Value.type "list" == Value.type "dict") = false := by decide
      have hl1 : (s.heap.push (PPL.nset w)).IsList l items := ⟨_, hol', rfl, nl, rfl⟩
      unfold Builtin.«set.__init__» noKeywords Builtin.Frozenset.updateFrom
      generalize hPI : pyIter = PI
      wp_walk
      subst hPI
      refine wpAny_pyIter_list hl1 ?_
      refine wpAny_bind (wpAny_runValue ?_)
      have hlS : l < s.heap.objs.size := Heap.lt_size hol
      have hh3 : A.in1.in1.in1.handled = none := by simp [hh]
      have hz : (s.heap.push (PPL.nset w)).objs.size = s.heap.objs.size + 1 := Heap.size_push ..
      have no : ∀ b, s.heap.objs.size ≤ b → s.heap.get? b = none := fun b hb => by
        cases q : s.heap.get? b with
        | none => rfl
        | some o => exact absurd (Heap.lt_size q) (Nat.not_lt.mpr hb)
      refine turnsN ((Walks.list hh3 _ l (by rw [hz]; exact Nat.ne_of_lt (Nat.lt_succ_of_lt hlS)) items).toS) s.heap.objs.size
        (by rw [hz]; simp only [List.mem_cons, List.not_mem_nil, or_false, not_or]; exact ⟨Nat.ne_of_lt (Nat.lt_succ_self _), Nat.ne_of_gt hlS⟩) ks hisz few (fun i v hv => ?_) s.heap hk (no _ (Nat.le_refl _))
        (fun b hb => no b (by rw [List.mem_singleton.mp hb, hz]; omega)) (show A.in1.in1.in1.units + 8 < cLine by simp only [Around.in1_units]; omega) items.size 0 _ (by omega)
        ⟨⟨_, Heap.get?_push_size _ rfl, rfl, rfl⟩, (hl1.push _)⟩ (fun b o e => Heap.get?_push_of_some _ (Heap.get?_push_of_some _ e)) ⟨[], #[], 0, _, freshN (Heap.get?_push_of_some _ hS), ⟨fun p h => (nomatch h), fun p h => by simp at h, Nat.le_refl _⟩⟩ ?hR
      · have q : items.toList[i]? = some v := by rw [Array.getElem?_toList]; exact hv
        rw [hit, List.getElem?_map] at q
        cases hq : ks[i]? with
        | none => rw [hq] at q; cases q
        | some p => rw [hq] at q; exact ⟨p, rfl, (Option.some.inj q).symm⟩
      case hR =>
        intro s' L es ep t hm hS' g' hkp
        obtain ⟨h', g2, d', tk', os'⟩ := s'
        have eg : g2 = s.gens := hm.gens
        have ed : d' = s.drawn := hm.drawn
        have eo : os' = s.os := hm.os
        subst eg; subst ed; subst eo
        show wpAny _ _ _ _ _ _
        refine wpAny_pure ?_
        show wpAny _ _ (ret Value.none) _ _ _
        rw [hisz] at g'
        exact wpAny_pure ⟨rfl, h', tk', L, es, ep, t, rfl, hS', g', hkp⟩
    · match r₂, hr₂ with
      | .error e, hr₂ => exact hr₂
      | .ok (.ret r), hr₂ =>
        obtain ⟨rfl, h', tk, L, es, ep, t, rfl, hS', g', hk'⟩ := hr₂
        repeat (any_goals (first | assumption | wp_step))
        exact h _ _ _ _ _ _ hS' g' hk'
theorem callN_tuple {l : Addr} {items : Array Value} (ks : List (Addr × NKey)) {Q : Value → Shared → Prop} (hh : A.handled = none) (hl : s.heap.IsTuple l items) (hit : items.toList = ks.map fun p => Value.ref p.1)
    (hk : ∀ p ∈ ks, IsN P w s.heap p.2 p.1) (few : ks.length < 64) (hu : A.units + 12 < cLine)
    (h : ∀ (h' : Heap) (tk : Nat) L es ep t, SetN P w h' s.heap.objs.size L es ep t → HasN ks ks.length L → (∀ b o, s.heap.get? b = some o → h'.get? b = some o) → Q (.ref s.heap.objs.size) { s with heap := h', toks := tk }) :
    wpAny (model P w) A (call (.type "set") [.ref l]) Q E s := by
  have hisz : items.size = ks.length := by
    rw [← Array.length_toList, hit, List.length_map]
  obtain ⟨c, tl, hmro⟩ := F.called_set.mro
  have hmade := F.called_set.made
  have hsub := F.called_set.sub
  refine wpAny_call (codeAny_of_tree ?_)
  show wpAny _ _ (callAny (.type "set") _) _ _ _
  refine wpAny_pure ⟨Code.quiet_builtin _ (by decide +kernel), codeAny_builtin F.entry_type_call ?_⟩
  rw [Around.under_plain (weight_type_call_type "set" [.ref l] []) rfl]
  have h1 := F.called_set.notType
  have h2 := F.called_set.canCreate
  have hct := F.typeCall_set_1 (.ref l)
  repeat (any_goals (first | assumption | wp_step))
  refine codeAny_mono (code_set_led1 (.ref l) (E := E) (Q₁ := fun obj s₁ => obj = .ref s.heap.objs.size ∧ s₁ = { s with heap := s.heap.push (PPL.nset w) }) ⟨rfl, rfl⟩) fun r s₁ hr => ?_
  match r, hr with
  | .error e, hr => exact hr
  | .ok (.ret obj), hr =>
    obtain ⟨rfl, rfl⟩ := hr
    have hS : (s.heap.push (PPL.nset w)).get? s.heap.objs.size = some (PPL.nset w) := Heap.get?_push_size _ rfl
    have hT : Shared.TypeIs { s with heap := s.heap.push (PPL.nset w) } (.ref s.heap.objs.size) "set" := ⟨_, hS, rfl⟩
    have hli := F.called_set.init.lookup
    have hbi := F.called_set.init.bind (.ref s.heap.objs.size)
    repeat (any_goals (first | assumption | wp_step))
    refine codeAny_mono (codeAny_call_builtin (R := wants (fun r s₂ => r = .none ∧ ∃ h' tk L es ep t, s₂ = { s with heap := h', toks := tk } ∧ SetN P w h' s.heap.objs.size L es ep t ∧ HasN ks ks.length L ∧
        (∀ b o, s.heap.get? b = some o → h'.get? b = some o)) E) F.called_set.init.plain F.entry_set_init (PySem.check_set_init_1 hT ?_)) fun r₂ s₂ hr₂ => ?_
    · obtain ⟨ol, hol, hcl, nl, hdl⟩ := hl
      obtain ⟨ocls, odict, odata, oslots⟩ := ol
      simp only at hcl hdl
      subst hcl; subst hdl
      have hol' : (s.heap.push (PPL.nset w)).get? l = some { cls := .type "tuple", dict := odict, data := .seq items nl, slots := oslots } := Heap.get?_push_of_some _ hol
      have hsls := F.sub_tuple_set
      have hslf := F.sub_tuple_frozenset
      have hne : (Value.type "tuple" == Value.type "dict") = false := by decide
      have hl1 : (s.heap.push (PPL.nset w)).IsTuple l items := ⟨_, hol', rfl, nl, rfl⟩
      unfold Builtin.«set.__init__» noKeywords Builtin.Frozenset.updateFrom
      generalize hPI : pyIter = PI
      wp_walk
      subst hPI
      refine wpAny_pyIter_tuple hl1 ?_
      refine wpAny_bind (wpAny_runValue ?_)
      have hlS : l < s.heap.objs.size := Heap.lt_size hol
      have hh3 : A.in1.in1.in1.handled = none := by simp [hh]
      have hz : (s.heap.push (PPL.nset w)).objs.size = s.heap.objs.size + 1 := Heap.size_push ..
      have no : ∀ b, s.heap.objs.size ≤ b → s.heap.get? b = none := fun b hb => by
        cases q : s.heap.get? b with
        | none => rfl
        | some o => exact absurd (Heap.lt_size q) (Nat.not_lt.mpr hb)
      refine turnsN ((Walks.tuple hh3 _ l (by rw [hz]; exact Nat.ne_of_lt (Nat.lt_succ_of_lt hlS)) items).toS) s.heap.objs.size
        (by rw [hz]; simp only [List.mem_cons, List.not_mem_nil, or_false, not_or]; exact ⟨Nat.ne_of_lt (Nat.lt_succ_self _), Nat.ne_of_gt hlS⟩) ks hisz few (fun i v hv => ?_) s.heap hk (no _ (Nat.le_refl _))
        (fun b hb => no b (by rw [List.mem_singleton.mp hb, hz]; omega)) (show A.in1.in1.in1.units + 8 < cLine by simp only [Around.in1_units]; omega) items.size 0 _ (by omega)
        ⟨⟨_, Heap.get?_push_size _ rfl, rfl, rfl⟩, (hl1.push _)⟩ (fun b o e => Heap.get?_push_of_some _ (Heap.get?_push_of_some _ e)) ⟨[], #[], 0, _, freshN (Heap.get?_push_of_some _ hS), ⟨fun p h => (nomatch h), fun p h => by simp at h, Nat.le_refl _⟩⟩ ?hR
      · have q : items.toList[i]? = some v := by rw [Array.getElem?_toList]; exact hv
        rw [hit, List.getElem?_map] at q
        cases hq : ks[i]? with
        | none => rw [hq] at q; cases q
        | some p => rw [hq] at q; exact ⟨p, rfl, (Option.some.inj q).symm⟩
      case hR =>
        intro s' L es ep t hm hS' g' hkp
        obtain ⟨h', g2, d', tk', os'⟩ := s'
        have eg : g2 = s.gens := hm.gens
        have ed : d' = s.drawn := hm.drawn
        have eo : os' = s.os := hm.os
        subst eg; subst ed; subst eo
        show wpAny _ _ _ _ _ _
        refine wpAny_pure ?_
        show wpAny _ _ (ret Value.none) _ _ _
        rw [hisz] at g'
        exact wpAny_pure ⟨rfl, h', tk', L, es, ep, t, rfl, hS', g', hkp⟩
    · match r₂, hr₂ with
      | .error e, hr₂ => exact hr₂
      | .ok (.ret r), hr₂ =>
        obtain ⟨rfl, h', tk, L, es, ep, t, rfl, hS', g', hk'⟩ := hr₂
        repeat (any_goals (first | assumption | wp_step))
        exact h _ _ _ _ _ _ hS' g' hk'
end
end PPG
set_option Elab.async false
set_option linter.all false
set_option autoImplicit false
set_option maxRecDepth 100000
set_option maxHeartbeats 2000000
namespace PP
open PySem L2 PPG
mutual
theorem nested_of {h : Heap} : ∀ (k : NKey) (v : Value) (as : List Addr), Reads h v k.data as → NestedIs h k v
  | .none, _, _, r => by
    rw [NestedKey.data] at r
    cases r; exact .none
  | .num i, _, _, r => by
    rw [NestedKey.data] at r
    cases r; exact .int _ _
  | .text x, _, _, r => by
    rw [NestedKey.data] at r
    cases r; exact .text _ _
  | .tup ks, _, _, r => by
    rw [NestedKey.data] at r
    cases r with
    | tuple h1 h2 h3 h4 => exact .tup h1 h2 h3 (nested_all ks _ _ h4)
theorem nested_all {h : Heap} : ∀ (ks : List NKey) (vs : List Value) (as : List Addr), ReadsAll h vs (NestedKey.datas ks) as → NestedAll h ks vs
  | [], _, _, r => by
    rw [NestedKey.datas] at r
    cases r; exact .nil
  | k :: ks, _, _, r => by
    rw [NestedKey.datas] at r
    cases r with
    | cons h1 h2 => exact .cons (nested_of k _ _ h1) (nested_all ks _ _ h2)
end
theorem mem_dedK {j : NKey} : ∀ {ks : List NKey}, j ∈ dedK ks ↔ j ∈ ks
  | [] => Iff.rfl
  | k :: ks => by
    unfold dedK
    by_cases h : k ∈ dedK ks
    · rw [if_pos h, mem_dedK, List.mem_cons]
      constructor
      · exact .inr
      · rintro (rfl | z)
        · exact mem_dedK.mp h
        · exact z
    · rw [if_neg h, List.mem_cons, mem_dedK, List.mem_cons]
theorem dedK_nd : ∀ ks : List NKey, (dedK ks).Nodup
  | [] => .nil
  | k :: ks => by
    unfold dedK
    by_cases h : k ∈ dedK ks
    · rw [if_pos h]; exact dedK_nd ks
    · rw [if_neg h]; exact List.nodup_cons.mpr ⟨h, dedK_nd ks⟩
theorem has_perm {ks L : List (Addr × NKey)} (nd : (L.map (·.2)).Nodup) (g : HasN ks ks.length L) : (L.map (·.2)).Perm (dedK (ks.map (·.2))) := by
  refine (List.perm_ext_iff_of_nodup nd (dedK_nd _)).mpr fun k => ?_
  rw [mem_dedK]
  have e : ks.take ks.length = ks := List.take_length
  have h1 := g.sub
  have h2 := g.all
  rw [e] at h1 h2
  constructor
  · intro h
    obtain ⟨p, hp, rfl⟩ := List.mem_map.mp h
    exact List.mem_map.mpr ⟨p, h1 p hp, rfl⟩
  · intro h
    obtain ⟨p, hp, rfl⟩ := List.mem_map.mp h
    exact h2 p hp
/-- the items of a list or tuple as keys -/
def SrcN (K : PySem.W.Frag) (H : Hp) (l : Addr) (ks : List (Addr × NKey)) : Prop := (SqL K H l (ks.map fun p => V.ref p.1) ∨ SqT K H l (ks.map fun p => V.ref p.1)) ∧ (∀ p ∈ ks, Dp K H (.ref p.1) p.2.data ∧ p.2.depth ≤ 8) ∧ ks.length < 64
section
variable {X : Cx} {pins : List (Addr × Obj)} {σ : St} {H : Hp} {s : Shared} {E : Value → Shared → Prop}
theorem isN_of (I : Inv X pins σ H s) {b : Addr} {k : NKey} (h : Dp X.K H (.ref b) k.data) (hd : k.depth ≤ 8) : IsN X.prog X.w s.heap k b := by
  obtain ⟨as, r⟩ := Dp.reads I _ _ (.ref b) h rfl
  exact ⟨nested_of k _ as r, hd⟩
theorem refs_vals : ∀ {ks : List (Addr × NKey)} {us : List Value}, Vals (ks.map fun p => V.ref p.1) us → us = ks.map fun p => Value.ref p.1
  | [], _, .nil => rfl
  | p :: ks, _, .cons r t => by rw [refs_vals t]; cases r; rfl
theorem vals_refs : ∀ (ks : List (Addr × NKey)), Vals (ks.map fun p => V.ref p.1) (ks.map fun p => Value.ref p.1)
  | [] => .nil
  | p :: ks => .cons rfl (vals_refs ks)
/-- set(x) -/
theorem run_set (hc : X.calm = true) (hu : X.A.units + 64 < cLine) (I : Inv X pins σ H s) {l : Addr} {ks : List (Addr × NKey)} (hs : SrcN X.K H l ks) {Q : Value → Shared → Prop}
    (h : ∀ (h' : Heap) (tk : Nat) L es ep t, SetN X.prog X.w h' s.heap.objs.size L es ep t → HasN ks ks.length L → (∀ b o, s.heap.get? b = some o → h'.get? b = some o) → Inv X pins σ H { s with heap := h', toks := tk } → Q (.ref s.heap.objs.size) { s with heap := h', toks := tk }) :
    wpAny (model X.prog X.w) X.A (PySem.call (.type "set") [.ref l]) Q E s := by
  obtain ⟨h1, h2, h3⟩ := hs
  have hk : ∀ p ∈ ks, IsN X.prog X.w s.heap p.2 p.1 := fun p hp => isN_of I (h2 p hp).1 (h2 p hp).2
  rcases h1 with h1 | h1
  · obtain ⟨its, r, pl, hz⟩ := I.list h1
    refine callN_list ks (I.ok.hd hc) pl.isList (by simpa using refs_vals r) hk h3 (by omega) fun h' tk L es ep t R g k => h h' tk L es ep t R g k (I.kept k)
  · obtain ⟨its, r, pl, hz⟩ := I.tuple h1
    refine callN_tuple ks (I.ok.hd hc) pl (by simpa using refs_vals r) hk h3 (by omega) fun h' tk L es ep t R g k => h h' tk L es ep t R g k (I.kept k)
end
theorem le_tr : ∀ (a b c : D), PySem.W.dataLe false id a b = true → PySem.W.dataLe false id b c = true → PySem.W.dataLe false id a c = true := fun a b c h1 h2 => by
  have e : ∀ x y : D, PySem.W.dataLe false id x y = !PySem.W.dataLt y x := fun _ _ => rfl
  rw [e] at h1 h2 ⊢
  cases q : PySem.W.dataLt c a with
  | false => rfl
  | true =>
    rcases (PyProof.Rows.listOrd PyProof.Rows.itemOrd).negTrans _ (PySem.W.keyToks b) _ q with z | z
    · rw [show PySem.W.dataLt c b = true from z] at h2; cases h2
    · rw [show PySem.W.dataLt b a = true from z] at h1; cases h1
theorem le_tot (a b : D) : (PySem.W.dataLe false id a b || PySem.W.dataLe false id b a) = true := by
  show (!PySem.W.dataLt b a || !PySem.W.dataLt a b) = true
  cases q : PySem.W.dataLt b a with
  | false => rfl
  | true =>
    cases q2 : PySem.W.dataLt a b with
    | false => rfl
    | true =>
      have := (PyProof.Rows.listOrd PyProof.Rows.itemOrd).trans _ _ _ q q2
      rw [(PyProof.Rows.listOrd PyProof.Rows.itemOrd).irrefl] at this
      cases this
theorem rising_pw : ∀ {xs : List D}, rising xs = true → xs.Pairwise fun a b => PySem.W.dataLt a b = true
  | [], _ => .nil
  | x :: xs, h => by
    unfold rising at h
    rw [Bool.and_eq_true, List.all_eq_true] at h
    exact List.pairwise_cons.mpr ⟨h.1, rising_pw h.2⟩
/-- the sort of any arrangement of distinct data -/
theorem sort_uniq {xs ys : List D} (hp : ys.Perm xs) (hr : rising (sortD xs) = true) : sortD ys = sortD xs := by
  have p1 : (sortD ys).Pairwise (fun a b => PySem.W.dataLe false id a b = true) := List.pairwise_mergeSort le_tr le_tot ys
  have p2 := rising_pw hr
  have pp : (sortD ys).Perm (sortD xs) := (List.mergeSort_perm _ _).trans (hp.trans (List.mergeSort_perm _ _).symm)
  have irr : ∀ a : D, PySem.W.dataLt a a = false := fun a => (PyProof.Rows.listOrd PyProof.Rows.itemOrd).irrefl _
  have key : ∀ (l m : List D), l.Perm m → l.Pairwise (fun a b => PySem.W.dataLe false id a b = true) → m.Pairwise (fun a b => PySem.W.dataLt a b = true) → l = m := by
    intro l
    induction l with
    | nil => intro m h _ _; exact (List.nil_perm.mp h).symm
    | cons x l ih =>
      intro m h h1 h2
      cases m with
      | nil => exact absurd h.length_eq (by simp)
      | cons y m =>
        obtain ⟨a1, a2⟩ := List.pairwise_cons.mp h1
        obtain ⟨b1, b2⟩ := List.pairwise_cons.mp h2
        have e : x = y := by
          rcases List.mem_cons.mp (h.mem_iff.mp (List.mem_cons_self ..)) with z | z
          · exact z
          · have q1 := b1 x z
            rcases List.mem_cons.mp (h.mem_iff.mpr (List.mem_cons_self ..)) with z2 | z2
            · exact z2.symm
            · have q2 : (!PySem.W.dataLt y x) = true := a1 y z2
              rw [q1] at q2; cases q2
        subst e
        rw [ih m (List.Perm.cons_inv h) a2 b2]
  exact key _ _ pp p1 p2
section
variable {P : Program} {w : World} {A : Around} {E : Value → Shared → Prop} {s : Shared}
theorem each_refs : ∀ (L : List (Addr × NKey)), PySem.W.EachIs (fun u (z : Addr × NKey) => u = Value.ref z.1) (L.map fun z => Value.ref z.1) L
  | [] => .nil
  | p :: L => .cons rfl (each_refs L)
theorem refs_of_each : ∀ {us : List Value} {L : List (Addr × NKey)}, PySem.W.EachIs (fun u (z : Addr × NKey) => u = Value.ref z.1) us L → us = L.map fun z => Value.ref z.1
  | _, _, .nil => rfl
  | _, _, .cons r t => by rw [refs_of_each t, r]; rfl
theorem each_reads {h : Heap} : ∀ (L : List (Addr × NKey)), (∀ z ∈ L, ∃ as, Reads h (.ref z.1) z.2.data as) → PySem.W.EachIs (fun v (z : Addr × NKey) => ∃ as, Reads h v z.2.data as) (L.map fun z => Value.ref z.1) L
  | [], _ => .nil
  | p :: L, h => .cons (h p (List.mem_cons_self ..)) (each_reads L fun z hz => h z (List.mem_cons_of_mem _ hz))
theorem pick_perm {L : List (Addr × NKey)} (vs : List Value) (h : vs.Perm (L.map fun z => Value.ref z.1)) : ∃ L1 : List (Addr × NKey), vs = L1.map (fun z => Value.ref z.1) ∧ L1.Perm L := by
  obtain ⟨L1, h1, h2⟩ := perm_lift (fun z : Addr × NKey => Value.ref z.1) h L rfl
  exact ⟨L1, h2.symm, h1⟩
mutual
theorem no_lists {h : Heap} : ∀ (k : NKey) (v : Value) (as : List Addr), Reads h v k.data as → as = []
  | .none, _, _, r => by rw [NestedKey.data] at r; cases r; rfl
  | .num i, _, _, r => by rw [NestedKey.data] at r; cases r; rfl
  | .text x, _, _, r => by rw [NestedKey.data] at r; cases r; rfl
  | .tup ks, _, _, r => by
    rw [NestedKey.data] at r
    cases r with
    | tuple h1 h2 h3 h4 => exact no_listss ks _ _ h4
theorem no_listss {h : Heap} : ∀ (ks : List NKey) (vs : List Value) (as : List Addr), ReadsAll h vs (NestedKey.datas ks) as → as = []
  | [], _, _, r => by rw [NestedKey.datas] at r; cases r; rfl
  | k :: ks, _, _, r => by
    rw [NestedKey.datas] at r
    cases r with
    | cons h1 h2 => rw [no_lists k _ _ h1, no_listss ks _ _ h2]; rfl
end
theorem sortedN {a : Addr} {L : List (Addr × NKey)} {es : Array (Int × Value)} {ep : Nat} {t : SetTable} {Q : Value → Shared → Prop} (R : SetN P w s.heap a L es ep t) (hh : A.handled = none) (hu : A.units + 64 < cLine)
    (hr : ∀ z ∈ L, ∃ as, Reads s.heap (.ref z.1) z.2.data as) (ok : sortOk (L.map fun z => z.2.data) = true)
    (hQ : ∀ s' p (out : List Value) (c : Nat) (L1 : List (Addr × NKey)), (∀ b o, s.heap.get? b = some o → s'.heap.get? b = some o) → s'.gens = s.gens → s'.os = s.os → s.heap.objs.size ≤ p →
      s'.heap.get? p = some (PyProof.Rows.seqObj "list" out.toArray c) → L1.Perm L → out = (L1.mergeSort (PySem.W.dataLe false fun z => z.2.data)).map (fun z => Value.ref z.1) → Q (.ref p) s') :
    wpAny (model P w) A (PySem.call (.builtin "sorted") [.ref a]) Q E s := by
  obtain ⟨o, ho, hex, hd⟩ := R.obj
  have hsz := nrows_size R.row
  have few := R.few
  refine PySem.Calls.call_function_entry PyProof.Rows.kind_sorted PyProof.Rows.plain_sorted PyProof.Rows.entry_sorted (PyProof.Rows.args_sorted1 _) ?_
  unfold Builtin.«sorted»
  refine wpAny_bind (m := checkCount "sorted" 1 1 _) (wpAny_pure ?_)
  refine wpAny_bind (collect_set (A := A.in1) hh ⟨o, ho, hex.1, hd⟩ R.fits (by unfold scanBound; omega) R.tbl.ris R.led fun s1 vs k1 hz g1 o1 pm => ?_)
  have hes : es.toList.map (·.2) = L.map fun z => Value.ref z.1 := by rw [R.row, nrows, List.map_map]; rfl
  rw [hes] at pm
  obtain ⟨L1, rfl, pL⟩ := pick_perm vs pm
  have hl1 : L1.length < 64 := by rw [pL.length_eq]; exact few
  refine wpAny_bind (wpAny_newList ?_ (by rw [sizeLine_eq, List.length_map]; omega))
  have hoL : (s1.heap.push (PyProof.Rows.seqObj "list" (L1.map fun z => Value.ref z.1).toArray 0)).get? s1.heap.objs.size = some (PyProof.Rows.seqObj "list" (L1.map fun z => Value.ref z.1).toArray 0) := Heap.get?_push_size _ rfl
  have kk : ∀ b u, s.heap.get? b = some u → (s1.heap.push (PyProof.Rows.seqObj "list" (L1.map fun z => Value.ref z.1).toArray 0)).get? b = some u := fun b u e => Heap.get?_push_of_some _ (k1 b u e)
  have pD : (L1.map fun z => z.2.data).Perm (L.map fun z => z.2.data) := pL.map _
  have ok1 : sortOk (L1.map fun z => z.2.data) = true := by
    have hm : ∀ d, d ∈ (L1.map fun z => z.2.data) ↔ d ∈ (L.map fun z => z.2.data) := fun d => pD.mem_iff
    unfold sortOk at ok ⊢
    simp only [Bool.and_eq_true, Bool.or_eq_true, List.all_eq_true, decide_eq_true_eq] at ok ⊢
    refine ⟨⟨⟨fun x hx y hy => ok.1.1.1 x ((hm x).mp hx) y ((hm y).mp hy), fun x hx => ok.1.1.2 x ((hm x).mp hx)⟩, by rw [pD.length_eq]; exact ok.1.2⟩, ?_⟩
    rcases ok.2 with z | z
    · exact .inl fun x hx => z x ((hm x).mp hx)
    · exact .inr fun x hx => z x ((hm x).mp hx)
  refine wpAny_bind (wpAny_holding (PySem.W.list_sort_data (s := { s1 with heap := s1.heap.push (PyProof.Rows.seqObj "list" (L1.map fun z => Value.ref z.1).toArray 0) }) (R := fun u (z : Addr × NKey) => u = Value.ref z.1) (enc := fun z : Addr × NKey => z.2.data) (bs := L1) hoL (each_refs L1)
    (PySem.W.EachIs.mono (fun v b ⟨as, r⟩ => ⟨as, r, by rw [no_lists b.2 _ _ r]; simp⟩) (each_reads L1 fun z hz => ?_)) (sortOk_alike ok1) (sortOk_able ok1) (by rw [sizeLine_eq]; omega) (fun b hb => ?_) fun out h1 h2 => ?_))
  · obtain ⟨as, r⟩ := hr z (pL.mem_iff.mp hz)
    exact ⟨as, PyProof.Rows.Reads.keeps kk r⟩
  · have := sortOk_depth ok1 _ (List.mem_map.mpr ⟨b, hb, rfl⟩)
    simp only [Around.in1_units]
    omega
  · obtain ⟨c, hc⟩ := PyProof.Rows.sortedHeap_at (out := out.toArray) hoL
    refine wpAny_pure ⟨_, rfl, hQ _ s1.heap.objs.size out c L1 (fun b u e => ?_) g1 o1 hz hc pL (refs_of_each h2)⟩
    have q := k1 b u e
    have hlt := Heap.lt_size q
    refine (PyProof.Rows.sortedHeap_old (Nat.ne_of_lt hlt) ?_).trans (kk b u e)
    rw [PyProof.Rows.size_push']
    exact Nat.lt_succ_of_lt hlt
end
def tSrtN (K : PySem.W.Frag) (ta : TE) : TE := fun σ H Q => ta σ H fun x H1 => ∃ (l : Addr) (ks : List (Addr × NKey)), x = .ref l ∧ SrcN K H1 l ks ∧ sortOk ((dedK (ks.map (·.2))).map NestedKey.data) = true ∧
  ∀ (p : Addr) (L1 : List (Addr × NKey)), H1 p = none → (∀ z ∈ L1, z ∈ ks) → (L1.map (·.2)).Perm (dedK (ks.map (·.2))) → Q (.ref p) (upd H1 p (.lst ((L1.mergeSort (PySem.W.dataLe false fun z => z.2.data)).map fun z => V.ref z.1)))
theorem sortOk_perm {xs ys : List D} (h : ys.Perm xs) (ok : sortOk xs = true) : sortOk ys = true := by
  have hm : ∀ d, d ∈ ys ↔ d ∈ xs := fun d => h.mem_iff
  unfold sortOk at ok ⊢
  simp only [Bool.and_eq_true, Bool.or_eq_true, List.all_eq_true, decide_eq_true_eq] at ok ⊢
  refine ⟨⟨⟨fun x hx y hy => ok.1.1.1 x ((hm x).mp hx) y ((hm y).mp hy), fun x hx => ok.1.1.2 x ((hm x).mp hx)⟩, by rw [h.length_eq]; exact ok.1.2⟩, ?_⟩
  rcases ok.2 with z | z
  · exact .inl fun x hx => z x ((hm x).mp hx)
  · exact .inr fun x hx => z x ((hm x).mp hx)
theorem pe_srtN {X : Cx} {a : Expr} {ta : TE} {p p2 q pos : Pos} (hc : X.calm = true) (hu : X.A.units + 64 < cLine) (hg : Gl X "sorted") (hm : X.mg "sorted" = none) (hg2 : Gl X "set") (hm2 : X.mg "set" = none) (ha : PE X a ta)
    (na : starEach [a] X.env = (false, eval a X.env) :: starEach [] X.env) : PE X (.Call (.Name "sorted" p) [.Call (.Name "set" p2) [a] [] q] [] pos) (tSrtN X.K ta) := by
  constructor
  intro pins s σ H Q I h
  refine PyProof.Rows.Call_ (ld_blt I hg hm PyProof.Rows.boot_sorted (PyProof.Rows.callWith_builtin1 (PyProof.Rows.args_cons ?_ rfl) rfl rfl))
  refine PyProof.Rows.Call_ (ld_blt I hg2 hm2 PyProof.Rows.boot_set ?_)
  refine PyProof.Rows.callWith_type1 (PyProof.Rows.args_cons (thn (ha.run pins s σ H _ I h) ?_) na) na rfl
  rintro v s1 ⟨x, H1, I1, r1, q1⟩
  refine PyProof.Rows.args_nil ?_
  obtain ⟨l, ks, rfl, hs, ok, q1⟩ := q1
  cases r1
  refine run_set hc hu I1 hs fun h' tk L es ep t R g k I2 => PyProof.Rows.args_nil ?_
  have hsub : ∀ z ∈ L, z ∈ ks := fun z hz => by have := g.sub z hz; rw [List.take_length] at this; exact this
  have pk := has_perm R.one g
  refine sortedN (s := { s1 with heap := h', toks := tk }) R (I2.ok.hd hc) hu (fun z hz => Dp.reads I2 _ _ (.ref z.1) (hs.2.1 z (hsub z hz)).1 rfl) ?_ fun s' p out c L1 k2 g2 o2 hp hg pL eo => ?_
  · refine sortOk_perm ?_ ok
    have := pk.map NestedKey.data
    rw [List.map_map] at this
    exact this
  · have hn : H1 p = none := I2.hok.fresh hp
    have hlen : ((L1.mergeSort (PySem.W.dataLe false fun z => z.2.data)).map fun z => V.ref z.1).length ≤ sizeLine := by
      rw [List.length_map, List.length_mergeSort, pL.length_eq, PySem.sizeLine_eq]
      have := R.few
      omega
    have J : Inv X pins σ (upd H1 p (.lst ((L1.mergeSort (PySem.W.dataLe false fun z => z.2.data)).map fun z => V.ref z.1))) { ({ s1 with heap := h', toks := tk } : Shared) with heap := s'.heap, gens := s'.gens, drawn := s'.drawn, toks := s'.toks } :=
      I2.call (ch := []) (Un.laid k2 hp hn) (I2.hok.laid k2 hp ⟨hlen, out, c, by rw [eo]; exact vals_refs _, hg⟩) (by rw [g2]; exact I2.bare) (fun _ z => nomatch z)
    have e : s' = { s1 with heap := s'.heap, gens := s'.gens, drawn := s'.drawn, toks := s'.toks } := by
      cases s'
      cases s1
      cases o2
      rfl
    rw [e]
    exact ⟨.ref p, _, J, rfl, q1 p L1 hn (fun z hz => hsub z (pL.mem_iff.mp hz)) ((pL.map (·.2)).trans pk)⟩
end PP
set_option Elab.async false
set_option linter.all false
set_option autoImplicit false
set_option maxRecDepth 100000
set_option maxHeartbeats 4000000
namespace PPG
open PySem PySem.Spec PyProof.Rows L2
def MaskW (m : Nat) : Prop := MaskOk m ∨ m = 511
theorem MaskW.odd {m : Nat} (h : MaskW m) : m % 2 = 1 := by
  rcases h with h | rfl
  · exact mask_odd h
  · rfl
theorem MaskW.le {m : Nat} (h : MaskW m) : m ≤ 511 := by
  rcases h with (rfl | rfl | rfl) | rfl <;> omega
def orb : Nat → Nat → List Nat
  | 0, _ => []
  | n + 1, i => i :: orb n ((i * 5 + 1) % 512)
theorem lcgI_front (m i : Nat) : ∀ k, lcgI m ((i * 5 + 1) % (m + 1)) k = lcgI m i (k + 1)
  | 0 => rfl
  | k + 1 => by rw [lcgI, lcgI_front m i k]; rfl
theorem lcgI_join (m i a : Nat) : ∀ k, lcgI m (lcgI m i a) k = lcgI m i (a + k)
  | 0 => rfl
  | k + 1 => by rw [lcgI, lcgI_join m i a k]; rfl
theorem mem_orb {j : Nat} : ∀ {n i : Nat}, j ∈ orb n i → ∃ k, k < n ∧ lcgI 511 i k = j
  | 0, _, h => nomatch h
  | n + 1, i, h => by
    rcases List.mem_cons.mp h with rfl | h
    · exact ⟨0, by omega, rfl⟩
    · obtain ⟨k, hk, e⟩ := mem_orb h
      exact ⟨k + 1, by omega, by rw [← e]; exact (lcgI_front 511 i k).symm⟩
theorem orb_all : (List.range 512).all (fun j => (orb 512 0).contains j) = true := by decide +kernel
theorem orb_end : lcgI 511 0 512 = 0 := by decide +kernel
theorem orb_at {j : Nat} (h : j ≤ 511) : ∃ k, k < 512 ∧ lcgI 511 0 k = j :=
  mem_orb (by simpa using List.all_eq_true.mp orb_all j (List.mem_range.mpr (by omega)))
theorem round512 {i j : Nat} (hi : i ≤ 511) (hj : j ≤ 511) : ∃ k, k ≤ 511 ∧ lcgI 511 i k = j := by
  obtain ⟨a, ha, rfl⟩ := orb_at hi
  obtain ⟨b, hb, rfl⟩ := orb_at hj
  by_cases c : a ≤ b
  · exact ⟨b - a, by omega, by rw [lcgI_join, show a + (b - a) = b by omega]⟩
  · refine ⟨512 - a + b, by omega, ?_⟩
    rw [lcgI_join, show a + (512 - a + b) = 512 + b by omega, ← lcgI_join, orb_end]
theorem round_any {m i j : Nat} (hm : MaskW m) (hi : i ≤ m) (hj : j ≤ m) : ∃ k, k ≤ m ∧ lcgI m i k = j := by
  rcases hm with hm | rfl
  · exact lcgI_all hm hi hj
  · exact round512 hi hj
theorem starts_at {m j : Nat} (hm : MaskW m) (x : Int) (hj : j ≤ m) : ∃ c, c ≤ m + 12 ∧ runI m (SetTable.bits x) c = j := by
  obtain ⟨c, hc, rfl⟩ := round_any hm (runI_le m (SetTable.bits x) 12) hj
  exact ⟨12 + c, by omega, runI_tail (bits_lt x) c⟩
structure TabW (t : SetTable) (n : Nat) : Prop where
  up : Ris t.place.toList
  dry : t.dummies = #[]
  cnt : t.place.size = n
  msk : MaskW t.mask
theorem TabW.end_ {t : SetTable} {n : Nat} (T : TabW t n) (hn : n ≤ t.mask) (x : Int) : ∃ N, N < 10 * SetTable.turns t.mask ∧ way t.mask x N ∉ t.place.toList ∧ ∀ c, c < N → way t.mask x c ∈ t.place.toList := by
  obtain ⟨j, hj, out⟩ := st_missing t.place.toList (t.mask + 1) (by rw [Array.length_toList, T.cnt]; omega)
  obtain ⟨c, hc, e⟩ := starts_at T.msk x (Nat.le_of_lt_succ hj)
  obtain ⟨q, hq, e2⟩ := run_nth t.mask (SetTable.bits x) c
  have hw : way t.mask x q = j := by rw [way, e2]; exact e
  obtain ⟨N, n1, n2, n3⟩ := st_least (p := fun c => way t.mask x c ∉ t.place.toList) q (show way t.mask x q ∉ _ by rw [hw]; exact out)
  exact ⟨N, by unfold SetTable.turns; omega, n2, fun c hc => Classical.byContradiction (n3 c hc)⟩
theorem TabW.put {t : SetTable} {n j : Nat} (T : TabW t n) (hj : j ∉ t.place.toList) : TabW (t.put j).1 (n + 1) ∧ (t.put j).2 = SetTable.below t.place j := by
  have cut := (below_cut T.up j).1
  have at_ : ¬ t.place[SetTable.below t.place j]? = some j := fun e => hj (List.mem_of_getElem? ((Array.getElem?_toList ..).trans e))
  have sz : (t.put j).1.place.size = n + 1 := by
    have q : SetTable.below t.place j ≤ t.place.toList.length := cut
    rw [← Array.length_toList, put_place, len_ins _ q, Array.length_toList, T.cnt]
  exact ⟨⟨ris_insert T.up at_, put_dm T.dry j, sz, T.msk⟩, rfl⟩
theorem free_any (m : Nat) (ow : Array (Option Nat)) : ∀ (f c i b : Nat), c < f → oAt ow (itL m i b c).1 = none → ∃ j, SetTable.layClean.free m ow f i b = some j ∧ oAt ow j = none
  | 0, _, _, _, h, _ => absurd h (Nat.not_lt_zero _)
  | f + 1, c, i, b, h, e => by
    rw [free_succ]
    cases q : (List.range (SetTable.runEnd m i + 1 - i)).find? fun k => (oAt ow (i + k)).isNone with
    | some k => exact ⟨i + k, rfl, by simpa using List.find?_some q⟩
    | none =>
      cases c with
      | zero =>
        have z := List.find?_eq_none.mp q 0 (List.mem_range.mpr (by have := runEnd_ge m i; omega))
        have e' : oAt ow (i + 0) = none := e
        rw [e'] at z
        exact absurd rfl z
      | succ c => exact free_any m ow f c _ _ (by omega) e
theorem set_some : ∀ (l : List (Option Nat)) (j n : Nat), l[j]? = some none → ((l.set j (some n)).filterMap id).Perm (n :: l.filterMap id)
  | [], _, _, h => by simp at h
  | x :: l, 0, n, h => by
    simp at h
    subst h
    simp
  | x :: l, j + 1, n, h => by
    have q := set_some l j n h
    cases x with
    | none => simpa using q
    | some y => simpa using (q.cons y).trans (List.Perm.swap ..)
theorem some_none : ∀ (l : List (Option Nat)), (l.filterMap id).length < l.length → ∃ j : Nat, l[j]? = some none
  | [], h => by simp at h
  | none :: l, _ => ⟨0, rfl⟩
  | some y :: l, h => by
    obtain ⟨j, e⟩ := some_none l (by simpa using h)
    exact ⟨j + 1, e⟩
structure OwnW (m n : Nat) (ow : Array (Option Nat)) : Prop where
  wide : ow.size = m + 1
  has : (ow.toList.filterMap id).Perm (List.range n)
theorem oAt_list {ow : Array (Option Nat)} {j : Nat} (h : oAt ow j = none) : ow.toList[j]? = some none := by
  unfold oAt at h
  rw [Array.getD_eq_getD_getElem?] at h
  rw [Array.getElem?_toList]
  cases q : ow[j]? with
  | none => rw [q] at h; cases h
  | some x => rw [q] at h; rw [show x = none from h]
theorem list_oAt {ow : Array (Option Nat)} {j : Nat} (h : ow.toList[j]? = some none) : oAt ow j = none := by
  rw [Array.getElem?_toList] at h
  unfold oAt
  rw [Array.getD_eq_getD_getElem?, h]; rfl
theorem OwnW.more {m n : Nat} {ow : Array (Option Nat)} (W : OwnW m n ow) (hm : MaskW m) (hn : n ≤ m) (x : Int) :
    ∃ ow', stepF m (some (ow, n)) x = some (ow', n + 1) ∧ OwnW m (n + 1) ow' := by
  have hl := W.has.length_eq
  rw [List.length_range] at hl
  obtain ⟨j, hj⟩ := some_none ow.toList (by rw [hl, Array.length_toList, W.wide]; omega)
  have hjm : j < ow.toList.length := (List.getElem?_eq_some_iff.mp hj).1
  rw [Array.length_toList, W.wide] at hjm
  obtain ⟨c, hc, e⟩ := starts_at hm x (show j ≤ m by omega)
  obtain ⟨i, fi, oi⟩ := free_any m ow (SetTable.turns m) c (SetTable.bits x % (m + 1)) (SetTable.bits x) (by unfold SetTable.turns; omega) (by rw [itL_run, e]; exact list_oAt hj)
  refine ⟨_, stepF_some fi, by rw [Array.size_setIfInBounds, W.wide], ?_⟩
  rw [Array.toList_setIfInBounds]
  refine (set_some ow.toList i n (oAt_list oi)).trans ?_
  rw [List.range_succ]
  exact (W.has.cons n).trans (List.perm_append_singleton n _).symm
theorem OwnW.fold {m : Nat} (hm : MaskW m) : ∀ (xs : List Int) (n : Nat) (ow : Array (Option Nat)), OwnW m n ow → n + xs.length ≤ m →
    ∃ ow', xs.foldl (stepF m) (some (ow, n)) = some (ow', n + xs.length) ∧ OwnW m (n + xs.length) ow'
  | [], n, ow, W, _ => ⟨ow, rfl, W⟩
  | x :: xs, n, ow, W, h => by
    rw [List.length_cons] at h
    obtain ⟨o1, e1, W1⟩ := W.more hm (by omega) x
    obtain ⟨o2, e2, W2⟩ := OwnW.fold hm xs (n + 1) o1 W1 (by omega)
    rw [List.length_cons, show n + (xs.length + 1) = n + 1 + xs.length by omega]
    exact ⟨o2, by rw [List.foldl_cons, e1, e2], W2⟩
theorem ownW_nil (m : Nat) : OwnW m 0 (Array.replicate (m + 1) none) where
  wide := Array.size_replicate
  has := by rw [Array.toList_replicate]; simp [List.filterMap_replicate]
theorem live_two {m : Nat} {ow : Array (Option Nat)} (h : ow.size = m + 1) : (liveOf m ow).map (·.2) = ow.toList.filterMap id := by
  unfold liveOf
  rw [List.map_filterMap]
  have e : (List.range (m + 1)).map (fun j => ow.getD j none) = ow.toList := by
    refine List.ext_getElem? fun i => ?_
    rw [List.getElem?_map]
    by_cases c : i < m + 1
    · rw [List.getElem?_range c, Array.getElem?_toList, Array.getElem?_eq_getElem (by omega)]
      simp [Array.getD, h, c]
    · rw [List.getElem?_eq_none (by simp; omega), List.getElem?_eq_none (by simp; omega)]; rfl
  rw [← e, List.filterMap_map]
  congr 1
  funext j
  show Option.map _ _ = id (ow.getD j none)
  cases ow.getD j none <;> rfl
theorem layW (t : SetTable) {xs : Array Int} {g M : Nat} (hg : SetTable.sizeAbove g = M + 1) (hM : MaskW M) (hx : xs.size ≤ M) :
    ∃ t2 od, t.relaid xs g = some (t2, od) ∧ od.toList.Perm (List.range xs.size) ∧ TabW t2 xs.size ∧ t2.mask = M ∧ t2.led = t.led := by
  obtain ⟨ow, e, W⟩ := OwnW.fold hM xs.toList 0 _ (ownW_nil M) (by rw [Array.length_toList]; omega)
  rw [Array.length_toList, Nat.zero_add] at W e
  have lc : SetTable.layClean M xs = some ow := by rw [layClean_eq, e]; rfl
  have pm : ((liveOf M ow).map (·.2)).Perm (List.range xs.size) := by rw [live_two W.wide]; exact W.has
  have ln := pm.length_eq
  rw [List.length_map, List.length_range] at ln
  refine ⟨tabOf t M ow, ((liveOf M ow).map (·.2)).toArray, by rw [relaid_eq, hg]; show (SetTable.layClean M xs).bind _ = _; rw [lc]; rfl, pm, ⟨(ris_live _ _ ?_).1, rfl, ?_, hM⟩, rfl, rfl⟩
  · exact List.pairwise_lt_range
  · show ((liveOf M ow).map (·.1)).toArray.size = _
    rw [List.size_toArray, List.length_map, ln]
theorem grow77 : SetTable.sizeAbove (SetTable.grown 77) = 511 + 1 := by decide +kernel
end PPG
set_option Elab.async false
set_option linter.all false
set_option autoImplicit false
set_option maxRecDepth 100000
set_option maxHeartbeats 4000000
namespace PPG
open PySem PySem.Spec PyProof.Rows L2
section
variable {P : Program} {w : World} {A : Around} {E : Value → Shared → Prop} {s : Shared}
/-- a set of keys that all differ -/
structure SetW (P : Program) (w : World) (h : Heap) (a : Addr) (L : List (Addr × NKey)) (es : Array (Int × Value)) (ep : Nat) (t : SetTable) : Prop where
  obj : ∃ o, h.get? a = some o ∧ o.ExactSet ∧ o.data = .set es ep t
  row : es.toList = nrows w L
  tbl : TabW t L.length
  key : ∀ p ∈ L, IsN P w h p.2 p.1
  led : w.params.followText "set-order" = true ∨ t.led = true
  gap : L.length * 5 < t.mask * 3
  few : L.length < 300
variable {a : Addr} {L : List (Addr × NKey)} {es : Array (Int × Value)} {ep : Nat} {t : SetTable}
theorem SetW.fits (R : SetW P w s.heap a L es ep t) : t.fits es.size = true := by
  have h1 := R.tbl.cnt
  have h2 := nrows_size R.row
  have h3 := R.gap
  simp only [SetTable.fits, SetTable.fill, R.tbl.dry, Bool.and_eq_true, beq_iff_eq, decide_eq_true_eq]
  exact ⟨by omega, by show t.place.size + 0 ≤ t.mask; omega⟩
/-- the search, from the c-th step of its way on: no step behind was one of this key -/
theorem findW (R : SetW P w s.heap a L es ep t) {x : Addr} {k : NKey} (hx : IsN P w s.heap k x) (hu : A.units + 8 < cLine) {N : Nat} (hN : N < 10 * SetTable.turns t.mask) (hf : (pr w t k N).j ∉ t.place.toList) (hb : ∀ c, c < N → (pr w t k c).j ∈ t.place.toList)
    {Q : SetFound → Shared → Prop} (no : k ∉ L.map (·.2)) (hout : Q (.free (pr w t k N).j false) s) :
    ∀ (f c : Nat) (stand : Option SetTable.Probe), stand.getD (t.probeStart (k.hash w)) = pr w t k c → c ≤ N → N - c < f → wpAny (model P w) A (setSearchFrom a (.ref x) (k.hash w) true f stand) Q E s
  | 0, _, _, _, _, h => absurd h (Nat.not_lt_zero _)
  | f + 1, c, stand, hs, hc, hl => by
    obtain ⟨o, ho, hex, hd⟩ := R.obj
    have hL : ∀ (i j : Nat), t.place.toList[i]? = some j → ∃ p, L[i]? = some p := fun i j h => by
      have h1 : i < t.place.toList.length := (List.getElem?_eq_some_iff.mp h).1
      rw [Array.length_toList, R.tbl.cnt] at h1
      exact ⟨_, List.getElem?_eq_getElem h1⟩
    have hA : ∀ (i : Nat) p, L[i]? = some p → (fun i => (es[i]?.map (·.1)).getD 0) i = p.2.hash w := fun i p hp => by
      show (es[i]?.map (·.1)).getD 0 = _
      rw [nrows_at R.row hp]; rfl
    have sh : ∀ q, nth t.mask (pr w t k c) q = pr w t k (c + q) := fun q => (nth_add t.mask c _ q).symm
    have spec := go_spec t R.tbl.up R.tbl.dry (fun i => (es[i]?.map (·.1)).getD 0) (k.hash w) (10 * SetTable.turns t.mask) (N - c) (pr w t k c) (nth_calm _ _ _ rfl) (by omega)
      (fun q hq => by rw [sh]; exact hb (c + q) (by omega)) (by rw [sh, show c + (N - c) = N by omega]; exact hf)
    rw [setSearchFrom_succ]
    refine wpAny_bind (wpAny_setState_of ho hd R.fits ?_)
    dsimp only
    refine wp_if_neg (by unfold SetTable.gaveWay; rw [R.tbl.msk.odd]; decide) ?_
    try refine wpAny_bind (wpAny_pure ?_)
    rw [hs]
    rcases spec with ⟨q, i, h1, h2, h3, h4, h5⟩ | ⟨h4, h5⟩
    · simp only [sh] at h2 h4 h5
      have h5' : t.probe (fun i => (es[i]?.map (·.1)).getD 0) (k.hash w) (pr w t k c) = some (.candidate (pr w t k (c + q)).j i (pr w t k (c + (q + 1)))) := h5
      rw [h5']
      dsimp only
      obtain ⟨p, hp⟩ := hL i _ h2
      have hpk := R.key p (List.mem_of_getElem? hp)
      have go : wpAny (model P w) A (searchRest a (.ref x) (k.hash w) true f es t (pr w t k (c + q)).j i (pr w t k (c + (q + 1)))) Q E s := by
        unfold searchRest
        rw [nrows_at R.row hp]
        dsimp only
        refine wpAny_bind (wpAny_holding ((nestedKind P w).eqBool hu hpk hx ?_))
        refine wpAny_bind (wpAny_setState_of ho hd R.fits ?_)
        dsimp only
        have e : ¬ p.2 = k := fun e => no (List.mem_map.mpr ⟨p, List.mem_of_getElem? hp, e⟩)
        refine wp_if_neg (by simp [e]) ?_
        try refine wpAny_bind (wpAny_pure ?_)
        rw [sameMem]
        dsimp only
        have sl : t.slot (pr w t k (c + q)).j = .live i := slot_live R.tbl.up h2
        simp only [if_true, sl, nrows_at R.row hp]
        refine wpAny_bind (wpAny_isSame_ref_self (wpAny_bind (wpAny_pure ?_)))
        simp only [if_true]
        refine wp_if_neg (by simp [e]) ?_
        exact findW R hx hu hN hf hb no hout f (c + (q + 1)) (some _) rfl (by omega) (by omega)
      by_cases ld : t.led = true
      · refine wp_if_neg (by simp [ld]) ?_
        try refine wpAny_bind (wpAny_pure ?_)
        exact go
      · refine wp_if_pos (by simp [ld]) ?_
        refine wpAny_bind (seenN hx (fun y hy => ?_) ?_)
        · obtain ⟨e, he, rfl⟩ := List.mem_map.mp hy
          have he2 : e ∈ es.toList := by
            have : e ∈ es ∧ e.1 = k.hash w := by simpa using he
            simpa using this.1
          rw [R.row] at he2
          obtain ⟨p2, hp2, rfl⟩ := List.mem_map.mp he2
          exact ⟨p2.2, p2.1, rfl, R.key p2 hp2⟩
        · refine wp_if_neg (by decide) ?_
          try refine wpAny_bind (wpAny_pure ?_)
          exact go
    · simp only [sh] at h4 h5
      rw [show c + (N - c) = N by omega] at h5
      have h5' : t.probe (fun i => (es[i]?.map (·.1)).getD 0) (k.hash w) (pr w t k c) = some (.empty (pr w t k N).j none) := h5
      rw [h5']
      dsimp only
      exact wpAny_pure hout
theorem searchW (R : SetW P w s.heap a L es ep t) {x : Addr} {k : NKey} (hx : IsN P w s.heap k x) (hu : A.units + 8 < cLine) (no : k ∉ L.map (·.2)) {Q : SetFound → Shared → Prop}
    (hout : ∀ N, way t.mask (k.hash w) N ∉ t.place.toList → Q (.free (way t.mask (k.hash w) N) false) s) : wpAny (model P w) A (setSearch a (.ref x) (k.hash w) true) Q E s := by
  have hg := R.gap
  obtain ⟨N, h1, h2, h3⟩ := R.tbl.end_ (by omega) (k.hash w)
  unfold setSearch
  refine findW R hx hu h1 h2 h3 no (hout N h2) 100000 0 none rfl (Nat.zero_le _) ?_
  have := R.tbl.msk.le
  unfold SetTable.turns at h1
  omega
theorem relayW {o : Obj} (ho : s.heap.get? a = some o) (hex : o.ExactSet) (hd : o.data = .set es ep t) (hrow : es.toList = nrows w L) (hsz : t.place.size = es.size) (hdm : t.dummies = #[]) (hfl : es.size ≤ t.mask) 
    (key : ∀ p ∈ L, IsN P w s.heap p.2 p.1) (ld : w.params.followText "set-order" = true ∨ t.led = true) (few : L.length < 300) {wanted M : Nat}
    (hw : SetTable.sizeAbove wanted = M + 1) (hM : MaskW M) (hn : L.length * 5 < M * 3) {Q : Unit → Shared → Prop}
    (hQ : ∀ h' L' es' ep' t', Heap.SameBut a s.heap h' → SetW P w h' a L' es' ep' t' → L'.Perm L → Q () { s with heap := h' }) : wpAny (model P w) A (setRelay a wanted) Q E s := by
  have hsl := nrows_size hrow
  have hfit : t.fits es.size = true := by
    simp only [SetTable.fits, SetTable.fill, hdm, Bool.and_eq_true, beq_iff_eq, decide_eq_true_eq]
    exact ⟨hsz, by show t.place.size + 0 ≤ t.mask; omega⟩
  have hM2 := hM.le
  obtain ⟨t', order, e, hp, T, em, el⟩ := layW t (xs := es.map (·.1)) hw hM (by rw [Array.size_map, hsl]; omega)
  rw [Array.size_map, hsl] at hp T
  obtain ⟨L2, r1, r2, _⟩ := orderN hrow hp
  have hs2 : (order.filterMap (es[·]?)).size = es.size := by rw [nrows_size r1, r2.length_eq, hsl]
  rw [setRelay_eq]
  refine wpAny_bind (wpAny_setState_of ho hd hfit ?_)
  dsimp only
  refine wp_if_neg (by rw [sizeLine_eq, hw]; omega) ?_
  try refine wpAny_bind (wpAny_pure ?_)
  rw [e]
  dsimp only
  refine wpAny_bind ?_
  refine wp_if_neg (by rw [hs2]; simp) ?_
  try refine wpAny_bind (wpAny_pure ?_)
  refine wpAny_pure ?_
  dsimp only
  refine wpAny_storeSet_of ho hd ?_ (by rw [hs2, hsl, sizeLine_eq]; omega)
  have sb : Heap.SameBut a s.heap (s.heap.update a (Obj.putSet (order.filterMap (es[·]?)) t')) := Heap.SameBut.update ..
  refine hQ _ L2 _ (ep + 1) t' sb ⟨⟨_, store_at ho hd, ⟨hex.1, hex.2.1, hex.2.2⟩, rfl⟩, r1, by rw [r2.length_eq]; exact T, fun p h => isN_but (key p (r2.mem_iff.mp h)) ho hd sb, by rw [el]; exact ld, by rw [r2.length_eq, em]; exact hn, by rw [r2.length_eq]; exact few⟩ r2
theorem tab_w {t : SetTable} {n : Nat} {b : Bool} (T : TabW t n) : TabW { t with plain := b } n := ⟨T.up, T.dry, T.cnt, T.msk⟩
theorem addW (R : SetW P w s.heap a L es ep t) {x : Addr} {k : NKey} (hx : IsN P w s.heap k x) (hu : A.units + 8 < cLine) (no : k ∉ L.map (·.2)) (few : L.length + 1 < 300) {Q : Bool → Shared → Prop}
    (hQ : ∀ b h' L' es' ep' t', Heap.SameBut a s.heap h' → SetW P w h' a L' es' ep' t' → L'.Perm ((x, k) :: L) → Q b { s with heap := h' }) :
    wpAny (model P w) A (setAddHashed a (.ref x) (k.hash w)) Q E s := by
  obtain ⟨o, ho, hex, hd⟩ := R.obj
  have hsl := nrows_size R.row
  have hg := R.gap
  unfold setAddHashed
  refine wpAny_holding ?_
  rw [show (100000 : Nat) = 99999 + 1 from rfl, setAddHashedIn_succ]
  refine wpAny_bind (wpAny_setState_of ho hd R.fits ?_)
  dsimp only
  refine wp_if_neg (by simp [byScan, Value.scannable]) ?_
  try refine wpAny_bind (wpAny_pure ?_)
  refine wpAny_bind (searchW R hx hu no fun N hK => ?_)
  · dsimp only
    refine wpAny_bind (wpAny_setState_of ho hd R.fits ?_)
    dsimp only
    obtain ⟨q3, q1⟩ := R.tbl.put hK
    have q4 : (t.put (way t.mask (k.hash w) N)).1.mask = t.mask := rfl
    have q5 : (t.put (way t.mask (k.hash w) N)).1.led = t.led := rfl
    generalize hpt : t.put (way t.mask (k.hash w) N) = pt at q1 q3 q4 q5 ⊢
    obtain ⟨t1, p⟩ := pt
    dsimp only at q1 q3 q4 q5 ⊢
    subst q1
    generalize hpp : SetTable.below t.place (way t.mask (k.hash w) N) = p at ⊢
    have hin : (SetTable.insertAt es p (k.hash w, Value.ref x)).toList = nrows w (L.take p ++ (x, k) :: L.drop p) := by
      rw [SetTable.toList_insertAt, R.row]
      simp [nrows, List.map_take, List.map_drop]
    have pm := put_perm L p (x, k)
    have hlen : (L.take p ++ (x, k) :: L.drop p).length = L.length + 1 := pm.length_eq
    have q3' : TabW t1 (L.length + 1) := q3
    have hes := nrows_size hin
    generalize SetTable.insertAt es p (k.hash w, Value.ref x) = es1 at hin hes ⊢
    generalize L.take p ++ (x, k) :: L.drop p = L1 at pm hlen q3' hin hes
    have after : ∀ c : Bool, wpAny (model P w) A (do
        let t := if c then t1 else { t1 with plain := false }
        storeSet a es1 t
        if !false && t.tooFull then setRelay a (SetTable.grown (es.size + 1))
        return true) Q E s := by
      intro c
      have T2 : TabW (if c then t1 else { t1 with plain := false }) (L.length + 1) := by
        cases c
        · exact tab_w q3'
        · exact q3'
      have m2 : (if c then t1 else { t1 with plain := false }).mask = t.mask := by cases c <;> exact q4
      have l2 : (if c then t1 else { t1 with plain := false }).led = t.led := by cases c <;> exact q5
      generalize (if c then t1 else { t1 with plain := false }) = t2 at T2 m2 l2
      dsimp only
      refine wpAny_bind (wpAny_storeSet_of ho hd ?_ (by rw [hes, hlen, sizeLine_eq]; omega))
      have sb : Heap.SameBut a s.heap (s.heap.update a (Obj.putSet es1 t2)) := Heap.SameBut.update ..
      have ho1 := store_at (es' := es1) (t' := t2) ho hd
      generalize s.heap.update a (Obj.putSet es1 t2) = h1 at sb ho1 ⊢
      have key1 : ∀ p ∈ L1, IsN P w h1 p.2 p.1 := fun p hp => by
        rcases List.mem_cons.mp (pm.mem_iff.mp hp) with e | hp
        · rw [e]; exact isN_but hx ho hd sb
        · exact isN_but (R.key p hp) ho hd sb
      have led1 : w.params.followText "set-order" = true ∨ t2.led = true := by rw [l2]; exact R.led
      have full : t2.tooFull = decide ((L.length + 1) * 5 ≥ t.mask * 3) := by
        unfold SetTable.tooFull SetTable.fill
        rw [T2.cnt, T2.dry, m2]
        rfl
      have ps : t2.place.size = es1.size := by rw [T2.cnt, hes, hlen]
      by_cases hf : (L.length + 1) * 5 ≥ t.mask * 3
      · have ht : (!false && t2.tooFull) = true := by rw [full, decide_eq_true hf]; rfl
        have go : ∀ M, SetTable.sizeAbove (SetTable.grown (L.length + 1)) = M + 1 → MaskW M → (L.length + 1) * 5 < M * 3 →
            wpAny (model P w) A (setRelay a (SetTable.grown (L.length + 1))) (fun _ s' => wpAny (model P w) A (pure true) Q E s') E { s with heap := h1 } := fun M e1 e2 e3 => by
          refine relayW (s := { s with heap := h1 }) ho1 ⟨hex.1, hex.2.1, hex.2.2⟩ rfl hin ps T2.dry ?_ key1 led1 (by rw [hlen]; exact few) e1 e2 (by rw [hlen]; exact e3) fun h2 L2 es2 ep2 t3 sb2 R2 pm2 => ?_
          · rw [hes, hlen, m2]; omega
          · exact wpAny_pure (hQ true h2 L2 es2 ep2 t3 (sb.trans sb2) R2 (pm2.trans pm))
        rw [hsl]
        have run : wpAny (model P w) A (setRelay a (SetTable.grown (L.length + 1))) (fun _ s' => wpAny (model P w) A (pure true) Q E s') E { s with heap := h1 } := by
          rcases R.tbl.msk with (e | e | e) | e
          · have e2 : L.length = 4 := by rw [e] at hf hg; omega
            rw [e2] at go ⊢
            exact go 31 size_20 (.inl (.inr (.inl rfl))) (by omega)
          · have e2 : L.length = 18 := by rw [e] at hf hg; omega
            rw [e2] at go ⊢
            exact go 127 size_76 (.inl (.inr (.inr rfl))) (by omega)
          · have e2 : L.length = 76 := by rw [e] at hf hg; omega
            rw [e2] at go ⊢
            exact go 511 grow77 (.inr rfl) (by omega)
          · exfalso; rw [e] at hf; omega
        first
          | exact wp_if_pos ht (wpAny_bind run)
          | exact wpAny_bind (wp_if_pos ht run)
      · have ht : ¬ (!false && t2.tooFull) = true := by rw [full, decide_eq_false hf]; decide
        have fin : Q true { s with heap := h1 } := hQ true h1 L1 es1 (ep + 1) t2 sb ⟨⟨_, ho1, ⟨hex.1, hex.2.1, hex.2.2⟩, rfl⟩, hin, by rw [hlen]; exact T2, key1, led1, by rw [hlen, m2]; omega, by rw [hlen]; exact few⟩ pm
        first
          | exact wp_if_neg ht (wpAny_pure fin)
          | exact wpAny_bind (wp_if_neg ht (wpAny_pure (wpAny_pure fin)))
    by_cases pl : t1.plain = true
    · first
        | exact wpAny_bind (wp_if_pos pl (hbv_any k _ 8 s hx.1 hx.2 _ _ _ after))
        | exact wp_if_pos pl (wpAny_bind (hbv_any k _ 8 s hx.1 hx.2 _ _ _ after))
    · first
        | exact wpAny_bind (wp_if_neg pl (wpAny_pure (after true)))
        | exact wp_if_neg pl (wpAny_bind (wpAny_pure (after true)))
end
end PPG
set_option Elab.async false
set_option linter.all false
set_option autoImplicit false
set_option maxRecDepth 100000
set_option maxHeartbeats 4000000
namespace PPG
open PySem PySem.Spec PyProof.Rows L2
section
variable {P : Program} {w : World} {A : Around} {E : Value → Shared → Prop} {s : Shared}
theorem SetW.keep {h h' : Heap} {a : Addr} {L : List (Addr × NKey)} {es : Array (Int × Value)} {ep : Nat} {t : SetTable} (R : SetW P w h a L es ep t) (ha : ∀ o, h.get? a = some o → h'.get? a = some o) (hk : ∀ p ∈ L, IsN P w h' p.2 p.1) : SetW P w h' a L es ep t :=
  let ⟨o, ho, r⟩ := R.obj
  ⟨⟨o, ha o ho, r⟩, R.row, R.tbl, hk, R.led, R.gap, R.few⟩
theorem freshW {h : Heap} {a : Addr} (ho : h.get? a = some (PPL.nset w)) : SetW P w h a [] #[] 0 (.fresh 0 0 (!w.params.followText "set-order")) where
  obj := ⟨_, ho, ⟨rfl, rfl, rfl⟩, rfl⟩
  row := rfl
  tbl := ⟨List.Pairwise.nil, rfl, rfl, .inl (.inl rfl)⟩
  key := fun p hp => nomatch hp
  led := by
    show _ ∨ (!w.params.followText "set-order") = true
    cases w.params.followText "set-order" <;> simp
  gap := by show 0 * 5 < 7 * 3; omega
  few := by show 0 < 300; omega
/-- set.update's turns -/
theorem turnsW {I : Addr} {fp wr : List Addr} {G : Array GenState → Array GenState → Prop} {n : Nat} {Pv : Nat → Value → Prop} {St : Nat → Shared → Prop} {R : Result → Shared → Prop}
    (W : WalksS P w A.in1 I fp wr G n Pv St) (S : Addr) (hS : S ∉ fp) (ks : List (Addr × NKey)) (hn : n = ks.length) (few : ks.length < 300) (dif : (ks.map (·.2)).Nodup) (hv : ∀ i v, Pv i v → ∃ p, ks[i]? = some p ∧ v = .ref p.1)
    (h0 : Heap) (hk : ∀ p ∈ ks, IsN P w h0 p.2 p.1) (hS0 : h0.get? S = none) (hw0 : ∀ b ∈ wr, h0.get? b = none) (hu : A.in1.units + 8 < cLine) :
    ∀ (m i : Nat) (s : Shared), i + m = n → St i s → (∀ b o, h0.get? b = some o → s.heap.get? b = some o) → (∃ L es ep t, SetW P w s.heap S L es ep t ∧ L.Perm (ks.take i)) →
      (∀ s' L es ep t, Moved (S :: wr) G s s' → SetW P w s'.heap S L es ep t → L.Perm ks → (∀ b o, h0.get? b = some o → s'.heap.get? b = some o) → R (.ok (.ret .none)) s') →
      codeAny (model P w) A (.builtin "set.update.loop" ⟨[.ref S, .ref I], []⟩) R s := by
  have hSw : S ∉ wr := fun z => hS (W.sub _ z)
  have more : ∀ b ∈ wr, b ∈ S :: wr := fun b hb => List.mem_cons_of_mem _ hb
  have kp : ∀ {s s' : Shared}, Moved wr G s s' → (∀ b o, h0.get? b = some o → s.heap.get? b = some o) → ∀ b o, h0.get? b = some o → s'.heap.get? b = some o := fun hm h b o e =>
    hm.heap b o (fun hb => by rw [hw0 b hb] at e; cases e) (h b o e)
  intro m
  induction m with
  | zero =>
    intro i s hi st h ⟨L, es, ep, t, RS, g⟩ hR
    have ei : i = n := by omega
    subst ei
    refine codeAny_builtin F.entry_set_update_loop ?_
    rw [Around.under_plainId F.plain_set_update_loop _]
    show wpAny _ A.in1 (pyNext (.ref I) >>= _) _ _ s
    refine wpAny_bind (W.done s _ _ st fun s' hm => ?_)
    have h' := kp hm h
    exact (show wpAny _ A.in1 (ret Value.none) _ _ s' from wpAny_pure (hR s' L es ep t (hm.mono more) (RS.keep (fun o e => hm.heap S o hSw e) fun p hp => isN_keep (hk p (List.mem_of_mem_take (g.mem_iff.mp hp))) h') (by rw [hn, List.take_length] at g; exact g) h'))
  | succ m ih =>
    intro i s hi st h ⟨L, es, ep, t, RS, g⟩ hR
    refine codeAny_builtin F.entry_set_update_loop ?_
    rw [Around.under_plainId F.plain_set_update_loop _]
    show wpAny _ A.in1 (pyNext (.ref I) >>= _) _ _ s
    refine wpAny_bind (W.item i s _ _ (by omega) st fun v s' hP st' hm => ?_)
    obtain ⟨p, hp, rfl⟩ := hv i v hP
    have h' := kp hm h
    have RS' : SetW P w s'.heap S L es ep t := RS.keep (fun o e => hm.heap S o hSw e) fun q hq => isN_keep (hk q (List.mem_of_mem_take (g.mem_iff.mp hq))) h'
    have et : ks.take (i + 1) = ks.take i ++ [p] := take_next hp
    have no : p.2 ∉ L.map (·.2) := fun z => by
      have z2 := (g.map (·.2)).mem_iff.mp z
      have d2 : ((ks.take (i + 1)).map (·.2)).Nodup := dif.sublist ((List.take_sublist _ _).map _)
      rw [et, List.map_append, List.nodup_append] at d2
      exact d2.2.2 _ z2 _ (List.mem_singleton.mpr rfl) rfl
    have hx : IsN P w s'.heap p.2 p.1 := isN_keep (hk p (List.mem_of_getElem? hp)) h'
    show wpAny _ A.in1 (holding [Value.ref p.1] (setAdd S (.ref p.1)) >>= _) _ _ s'
    refine wpAny_bind (wpAny_holding ?_)
    unfold setAdd
    refine wpAny_holding (wpAny_bind ((nestedKind P w).pyHash hu hx ?_))
    have lg : L.length ≤ i := by have := g.length_eq; rw [List.length_take] at this; omega
    refine addW (s := { s' with toks := s'.toks + (nestedKind P w).draws p.2 }) RS' hx hu no (by have := (List.getElem?_eq_some_iff.mp hp).1; omega) fun b h2 L2 es2 ep2 t2 sb R2 pm => ?_
    have k2 : ∀ b o, h0.get? b = some o → h2.get? b = some o := fun b o e => (sb.2 b (fun z => by rw [z, hS0] at e; cases e)).trans (h' b o e)
    refine wpAny_pure ⟨plainId_quiet F.plain_set_update_loop _, ih (i + 1) _ (by omega) (W.frame _ s' _ _ st' (Nat.le_add_right _ _) fun b hb o e => ?_) k2 ⟨L2, es2, ep2, t2, R2, pm.trans (by rw [et]; exact (g.cons p).trans (List.perm_append_singleton p _).symm)⟩ fun s3 L3 es3 ep3 t3 hm3 R3 g3 k3 => ?_⟩
    · exact (sb.2 b (fun z => hS (by rw [← z]; exact hb))).trans e
    · refine hR s3 L3 es3 ep3 t3 (Moved.trans W.gtrans ((hm.mono more).then_heap (Nat.le_add_right _ _) fun b o hb e => ?_) hm3) R3 g3 k3
      exact (sb.2 b (fun z => hb (by rw [z]; exact List.mem_cons_self ..))).trans e
theorem callW_tuple {l : Addr} {items : Array Value} (ks : List (Addr × NKey)) {Q : Value → Shared → Prop} (hh : A.handled = none) (hl : s.heap.IsTuple l items) (hit : items.toList = ks.map fun p => Value.ref p.1)
    (hk : ∀ p ∈ ks, IsN P w s.heap p.2 p.1) (few : ks.length < 300) (dif : (ks.map (·.2)).Nodup) (hu : A.units + 12 < cLine)
    (h : ∀ (h' : Heap) (tk : Nat) L es ep t, SetW P w h' s.heap.objs.size L es ep t → L.Perm ks → (∀ b o, s.heap.get? b = some o → h'.get? b = some o) → Q (.ref s.heap.objs.size) { s with heap := h', toks := tk }) :
    wpAny (model P w) A (call (.type "set") [.ref l]) Q E s := by
  have hisz : items.size = ks.length := by
    rw [← Array.length_toList, hit, List.length_map]
  obtain ⟨c, tl, hmro⟩ := F.called_set.mro
  have hmade := F.called_set.made
  have hsub := F.called_set.sub
  refine wpAny_call (codeAny_of_tree ?_)
  show wpAny _ _ (callAny (.type "set") _) _ _ _
  refine wpAny_pure ⟨Code.quiet_builtin _ (by decide +kernel), codeAny_builtin F.entry_type_call ?_⟩
  rw [Around.under_plain (weight_type_call_type "set" [.ref l] []) rfl]
  have h1 := F.called_set.notType
  have h2 := F.called_set.canCreate
  have hct := F.typeCall_set_1 (.ref l)
  repeat (any_goals (first | assumption | wp_step))
  refine codeAny_mono (code_set_led1 (.ref l) (E := E) (Q₁ := fun obj s₁ => obj = .ref s.heap.objs.size ∧ s₁ = { s with heap := s.heap.push (PPL.nset w) }) ⟨rfl, rfl⟩) fun r s₁ hr => ?_
  match r, hr with
  | .error e, hr => exact hr
  | .ok (.ret obj), hr =>
    obtain ⟨rfl, rfl⟩ := hr
    have hS : (s.heap.push (PPL.nset w)).get? s.heap.objs.size = some (PPL.nset w) := Heap.get?_push_size _ rfl
    have hT : Shared.TypeIs { s with heap := s.heap.push (PPL.nset w) } (.ref s.heap.objs.size) "set" := ⟨_, hS, rfl⟩
    have hli := F.called_set.init.lookup
    have hbi := F.called_set.init.bind (.ref s.heap.objs.size)
    repeat (any_goals (first | assumption | wp_step))
    refine codeAny_mono (codeAny_call_builtin (R := wants (fun r s₂ => r = .none ∧ ∃ h' tk L es ep t, s₂ = { s with heap := h', toks := tk } ∧ SetW P w h' s.heap.objs.size L es ep t ∧ L.Perm ks ∧
        (∀ b o, s.heap.get? b = some o → h'.get? b = some o)) E) F.called_set.init.plain F.entry_set_init (PySem.check_set_init_1 hT ?_)) fun r₂ s₂ hr₂ => ?_
    · obtain ⟨ol, hol, hcl, nl, hdl⟩ := hl
      obtain ⟨ocls, odict, odata, oslots⟩ := ol
      simp only at hcl hdl
      subst hcl; subst hdl
      have hol' : (s.heap.push (PPL.nset w)).get? l = some { cls := .type "tuple", dict := odict, data := .seq items nl, slots := oslots } := Heap.get?_push_of_some _ hol
      have hsls := F.sub_tuple_set
      have hslf := F.sub_tuple_frozenset
      have hne : (Value.type "tuple" == Value.type "dict") = false := by decide
      have hl1 : (s.heap.push (PPL.nset w)).IsTuple l items := ⟨_, hol', rfl, nl, rfl⟩
      unfold Builtin.«set.__init__» noKeywords Builtin.Frozenset.updateFrom
      generalize hPI : pyIter = PI
      wp_walk
      subst hPI
      refine wpAny_pyIter_tuple hl1 ?_
      refine wpAny_bind (wpAny_runValue ?_)
      have hlS : l < s.heap.objs.size := Heap.lt_size hol
      have hh3 : A.in1.in1.in1.handled = none := by simp [hh]
      have hz : (s.heap.push (PPL.nset w)).objs.size = s.heap.objs.size + 1 := Heap.size_push ..
      have no : ∀ b, s.heap.objs.size ≤ b → s.heap.get? b = none := fun b hb => by
        cases q : s.heap.get? b with
        | none => rfl
        | some o => exact absurd (Heap.lt_size q) (Nat.not_lt.mpr hb)
      refine turnsW ((Walks.tuple hh3 _ l (by rw [hz]; exact Nat.ne_of_lt (Nat.lt_succ_of_lt hlS)) items).toS) s.heap.objs.size
        (by rw [hz]; simp only [List.mem_cons, List.not_mem_nil, or_false, not_or]; exact ⟨Nat.ne_of_lt (Nat.lt_succ_self _), Nat.ne_of_gt hlS⟩) ks hisz few dif (fun i v hv => ?_) s.heap hk (no _ (Nat.le_refl _))
        (fun b hb => no b (by rw [List.mem_singleton.mp hb, hz]; omega)) (show A.in1.in1.in1.units + 8 < cLine by simp only [Around.in1_units]; omega) items.size 0 _ (by omega)
        ⟨⟨_, Heap.get?_push_size _ rfl, rfl, rfl⟩, (hl1.push _)⟩ (fun b o e => Heap.get?_push_of_some _ (Heap.get?_push_of_some _ e)) ⟨[], #[], 0, _, freshW (Heap.get?_push_of_some _ hS), List.Perm.refl _⟩ ?hR
      · have q : items.toList[i]? = some v := by rw [Array.getElem?_toList]; exact hv
        rw [hit, List.getElem?_map] at q
        cases hq : ks[i]? with
        | none => rw [hq] at q; cases q
        | some p => rw [hq] at q; exact ⟨p, rfl, (Option.some.inj q).symm⟩
      case hR =>
        intro s' L es ep t hm hS' g' hkp
        obtain ⟨h', g2, d', tk', os'⟩ := s'
        have eg : g2 = s.gens := hm.gens
        have ed : d' = s.drawn := hm.drawn
        have eo : os' = s.os := hm.os
        subst eg; subst ed; subst eo
        show wpAny _ _ _ _ _ _
        refine wpAny_pure ?_
        show wpAny _ _ (ret Value.none) _ _ _
        exact wpAny_pure ⟨rfl, h', tk', L, es, ep, t, rfl, hS', g', hkp⟩
    · match r₂, hr₂ with
      | .error e, hr₂ => exact hr₂
      | .ok (.ret r), hr₂ =>
        obtain ⟨rfl, h', tk, L, es, ep, t, rfl, hS', g', hk'⟩ := hr₂
        repeat (any_goals (first | assumption | wp_step))
        exact h _ _ _ _ _ _ hS' g' hk'
end
end PPG
set_option Elab.async false
set_option linter.all false
set_option autoImplicit false
set_option maxRecDepth 100000
set_option maxHeartbeats 2000000
namespace PP
open PySem L2 PPG
/-- the items of a tuple as keys that all differ -/
def SrcW (K : PySem.W.Frag) (H : Hp) (l : Addr) (ks : List (Addr × NKey)) : Prop := SqT K H l (ks.map fun p => V.ref p.1) ∧ (∀ p ∈ ks, Dp K H (.ref p.1) p.2.data ∧ p.2.depth ≤ 8) ∧ ks.length < 300 ∧ (ks.map (·.2)).Nodup
def tLenU (K : PySem.W.Frag) (ta : TE) : TE := fun σ H Q => ta σ H fun x H1 => ∃ (l : Addr) (ks : List (Addr × NKey)), x = .ref l ∧ ((SrcN K H1 l ks ∧ Q (.int ((dedK (ks.map (·.2))).length : Nat)) H1) ∨ (SrcW K H1 l ks ∧ Q (.int (ks.length : Nat)) H1))
theorem run_setW {X : Cx} {pins : List (Addr × Obj)} {σ : St} {H : Hp} {s : Shared} {E : Value → Shared → Prop} (hc : X.calm = true) (hu : X.A.units + 64 < cLine) (I : Inv X pins σ H s) {l : Addr} {ks : List (Addr × NKey)} (hs : SrcW X.K H l ks) {Q : Value → Shared → Prop}
    (h : ∀ (h' : Heap) (tk : Nat) L es ep t, SetW X.prog X.w h' s.heap.objs.size L es ep t → L.Perm ks → Inv X pins σ H { s with heap := h', toks := tk } → Q (.ref s.heap.objs.size) { s with heap := h', toks := tk }) :
    wpAny (model X.prog X.w) X.A (PySem.call (.type "set") [.ref l]) Q E s := by
  obtain ⟨h1, h2, h3, h4⟩ := hs
  have hk : ∀ p ∈ ks, IsN X.prog X.w s.heap p.2 p.1 := fun p hp => isN_of I (h2 p hp).1 (h2 p hp).2
  obtain ⟨its, r, pl, hz⟩ := I.tuple h1
  exact callW_tuple ks (I.ok.hd hc) pl (by simpa using refs_vals r) hk h3 h4 (by omega) fun h' tk L es ep t R g k => h h' tk L es ep t R g (I.kept k)
theorem pe_lenU {X : Cx} {a : Expr} {ta : TE} {p p2 q pos : Pos} (hc : X.calm = true) (hu : X.A.units + 64 < cLine) (hg : Gl X "len") (hm : X.mg "len" = none) (hg2 : Gl X "set") (hm2 : X.mg "set" = none) (ha : PE X a ta)
    (na : starEach [a] X.env = (false, eval a X.env) :: starEach [] X.env) : PE X (.Call (.Name "len" p) [.Call (.Name "set" p2) [a] [] q] [] pos) (tLenU X.K ta) := by
  constructor
  intro pins s σ H Q I h
  refine PyProof.Rows.Call_ (ld_blt I hg hm boot_len (PyProof.Rows.callWith_builtin1 (PyProof.Rows.args_cons ?_ rfl) rfl rfl))
  refine PyProof.Rows.Call_ (ld_blt I hg2 hm2 PyProof.Rows.boot_set ?_)
  refine PyProof.Rows.callWith_type1 (PyProof.Rows.args_cons (thn (ha.run pins s σ H _ I h) ?_) na) na rfl
  rintro v s1 ⟨x, H1, I1, r1, q1⟩
  refine PyProof.Rows.args_nil ?_
  obtain ⟨l, ks, rfl, q1⟩ := q1
  cases r1
  rcases q1 with ⟨hs, q1⟩ | ⟨hs, q1⟩
  · refine run_set hc hu I1 hs fun h' tk L es ep t R g k I2 => PyProof.Rows.args_nil ?_
    obtain ⟨o, ho, hex, hd⟩ := R.obj
    have hl := nrows_size R.row
    have hf := R.few
    have el : L.length = (dedK (ks.map (·.2))).length := by have := (has_perm R.one g).length_eq; simpa using this
    exact call_len_set ho hex hd (R.fits (s := { s1 with heap := h' })) (by rw [hl]; omega) ⟨.int ((dedK (ks.map (·.2))).length : Nat), H1, I2.tok _, ⟨_, by rw [hl, el]⟩, q1⟩
  · refine run_setW hc hu I1 hs fun h' tk L es ep t R g I2 => PyProof.Rows.args_nil ?_
    obtain ⟨o, ho, hex, hd⟩ := R.obj
    have hl := nrows_size R.row
    have hf := R.few
    exact call_len_set ho hex hd (R.fits (s := { s1 with heap := h' })) (by rw [hl]; omega) ⟨.int (ks.length : Nat), H1, I2.tok _, ⟨_, by rw [hl, g.length_eq]⟩, q1⟩
end PP
set_option Elab.async false
set_option linter.all false
set_option autoImplicit false
set_option maxRecDepth 100000
set_option maxHeartbeats 1000000
namespace PP
open PySem L2 PPG
mutual
theorem nk_data : ∀ (d : D) (k : NKey), nk? d = some k → k.data = d
  | .none, _, h => by rw [nk?] at h; cases h; rfl
  | .int i, _, h => by rw [nk?] at h; cases h; rfl
  | .str x, _, h => by rw [nk?] at h; cases h; rfl
  | .tuple xs, _, h => by
    rw [nk?] at h
    cases e : nks? xs with
    | none => rw [e] at h; cases h
    | some ks =>
      rw [e] at h
      cases h
      rw [NestedKey.data, nks_data xs ks e]
  | .bool b, _, h => by rw [nk?] at h; cases h; all_goals (intros; contradiction)
  | .list b, _, h => by rw [nk?] at h; cases h; all_goals (intros; contradiction)
  | .dict b, _, h => by rw [nk?] at h; cases h; all_goals (intros; contradiction)
theorem nks_data : ∀ (ds : List D) (ks : List NKey), nks? ds = some ks → NestedKey.datas ks = ds
  | [], _, h => by rw [nks?] at h; cases h; rfl
  | d :: ds, _, h => by
    rw [nks?] at h
    cases e1 : nk? d with
    | none => rw [e1] at h; cases h
    | some k =>
      cases e2 : nks? ds with
      | none => rw [e1, e2] at h; cases h
      | some ks =>
        rw [e1, e2] at h
        cases h
        rw [NestedKey.datas, nk_data d k e1, nks_data ds ks e2]
end
section
variable {K : PySem.W.Frag} {F H : Hp}
theorem nk_refs : ∀ {ds : List D} {ks : List NKey} {vs : List V}, nks? ds = some ks → ks.all nkOk = true → DnAll K F vs ds → ∃ zs : List (Addr × NKey), vs = zs.map (fun z => V.ref z.1) ∧ zs.map (·.2) = ks ∧ ∀ z ∈ zs, Dn K F (.ref z.1) z.2.data ∧ z.2.depth ≤ 8
  | [], _, _, h, _, t => by
    rw [nks?] at h; cases h; cases t
    exact ⟨[], rfl, rfl, fun z hz => by cases hz⟩
  | d :: ds, _, _, h, ho, t => by
    rw [nks?] at h
    cases e1 : nk? d with
    | none => rw [e1] at h; cases h
    | some k =>
      cases e2 : nks? ds with
      | none => rw [e1, e2] at h; cases h
      | some ks =>
        rw [e1, e2] at h
        cases h
        rw [List.all_cons, Bool.and_eq_true] at ho
        cases t with
        | cons r t =>
          obtain ⟨zs, z1, z2, z3⟩ := nk_refs e2 ho.2 t
          have ed := nk_data d k e1
          unfold nkOk at ho
          rw [Bool.and_eq_true, decide_eq_true_eq] at ho
          cases k with
          | tup js =>
            rw [← ed] at r
            rw [NestedKey.data] at r
            cases r with
            | tup q t2 =>
              refine ⟨(_, .tup js) :: zs, by rw [z1]; rfl, by rw [List.map_cons, z2], fun z hz => ?_⟩
              rcases List.mem_cons.mp hz with rfl | hz
              · exact ⟨by rw [NestedKey.data]; exact .tup q t2, ho.1.2⟩
              · exact z3 z hz
          | none => cases ho.1.1
          | num i => cases ho.1.1
          | text x => cases ho.1.1
theorem srcN_of {H0 : Hp} {v : V} {r : R} {xs : List D} {ks : List NKey} (s : Same F H) (d : Den K H0 F H v r) (e1 : r.seq? = some xs) (e2 : nks? xs = some ks) (ho : ks.all nkOk = true) (hl : ks.length < 64) :
    ∃ (l : Addr) (zs : List (Addr × NKey)), v = .ref l ∧ SrcN K H l zs ∧ zs.map (·.2) = ks ∧ ∀ z ∈ zs, Dn K F (.ref z.1) z.2.data := by
  obtain ⟨a, vs, rfl, q, t⟩ := d.seq s e1
  obtain ⟨zs, rfl, z2, z3⟩ := nk_refs e2 ho t
  refine ⟨a, zs, rfl, ⟨q, fun p hp => ⟨(Dn.mono s (z3 p hp).1).dp, (z3 p hp).2⟩, ?_⟩, z2, fun z hz => (z3 z hz).1⟩
  rw [← z2, List.length_map] at hl
  exact hl
theorem srcW_of {H0 : Hp} {v : V} {r : R} {xs : List D} {ks : List NKey} (s : Same F H) (d : Den K H0 F H v r) (tp : isTp r = true) (e1 : r.seq? = some xs) (e2 : nks? xs = some ks) (ho : ks.all nkOk = true) (hl : ks.length < 300) (nd : ks.Nodup) :
    ∃ (l : Addr) (zs : List (Addr × NKey)), v = .ref l ∧ SrcW K H l zs ∧ zs.map (·.2) = ks := by
  unfold isTp at tp
  split at tp
  · cases e1
    cases d with
    | tup q t =>
      obtain ⟨zs, rfl, z2, z3⟩ := nk_refs e2 ho t
      refine ⟨_, zs, rfl, ⟨same_t s q, fun p hp => ⟨(Dn.mono s (z3 p hp).1).dp, (z3 p hp).2⟩, ?_, by rw [z2]; exact nd⟩, z2⟩
      rw [← z2, List.length_map] at hl
      exact hl
  · cases tp
end
section
variable {X : Cx} {E : EX} {C : Nat → List R → Rs R} {a : Expr} {xa : Ex} {p p2 q pos : Pos}
theorem q_ndl (hc : X.calm = true) (hu : X.A.units + 64 < cLine) (hg : Gl X "len") (hm : X.mg "len" = none) (hg2 : Gl X "set") (hm2 : X.mg "set" = none) (ha : PE X a (tOf X.K E (ev C xa)))
    (hs : starEach [a] X.env = (false, eval a X.env) :: starEach [] X.env) : PE X (.Call (.Name "len" p) [.Call (.Name "set" p2) [a] [] q] [] pos) (tOf X.K E (ev C (.ndl xa))) := by
  refine pe_of (pe_lenU hc hu hg hm hg2 hm2 ha hs) fun σ H Q h => ?_
  obtain ⟨ρ, F, R, h⟩ := h
  rw [ev] at h
  refine ⟨ρ, F, R, h.bind fun x hx v F1 H1 g1 d1 => ?_⟩
  have hx := hx.grow g1
  unfold ndlR at hx
  cases e1 : x.seq? with
  | none => rw [e1] at hx; exact hx.elim
  | some xs =>
    simp only [e1] at hx
    cases e2 : nks? xs with
    | none => rw [e2] at hx; exact hx.elim
    | some ks =>
      simp only [e2] at hx
      split at hx
      · rename_i hz
        rw [Bool.and_eq_true, decide_eq_true_eq] at hz
        obtain ⟨l, zs, rfl, sr, ez, _⟩ := srcN_of g1.sub d1 e1 e2 hz.2 hz.1
        refine ⟨l, zs, rfl, .inl ⟨sr, ?_⟩⟩
        rw [ez]
        exact hx _ F1 H1 (Grow.refl g1.sub) (.int _)
      · split at hx
        · rename_i hz
          simp only [Bool.and_eq_true, decide_eq_true_eq] at hz
          obtain ⟨⟨⟨t1, t2⟩, t3⟩, t4⟩ := hz
          obtain ⟨l, zs, rfl, sr, ez⟩ := srcW_of g1.sub d1 t1 e1 e2 t3 t2 t4
          refine ⟨l, zs, rfl, .inr ⟨sr, ?_⟩⟩
          have el : zs.length = ks.length := by rw [← ez, List.length_map]
          rw [el]
          exact hx _ F1 H1 (Grow.refl g1.sub) (.int _)
        · exact hx.elim
theorem q_nds (hc : X.calm = true) (hu : X.A.units + 64 < cLine) (hg : Gl X "sorted") (hm : X.mg "sorted" = none) (hg2 : Gl X "set") (hm2 : X.mg "set" = none) (ha : PE X a (tOf X.K E (ev C xa)))
    (hs : starEach [a] X.env = (false, eval a X.env) :: starEach [] X.env) : PE X (.Call (.Name "sorted" p) [.Call (.Name "set" p2) [a] [] q] [] pos) (tOf X.K E (ev C (.nds xa))) := by
  refine pe_of (pe_srtN hc hu hg hm hg2 hm2 ha hs) fun σ H Q h => ?_
  obtain ⟨ρ, F, R, h⟩ := h
  rw [ev] at h
  refine ⟨ρ, F, R, h.bind fun x hx v F1 H1 g1 d1 => ?_⟩
  have hx := hx.grow g1
  unfold ndsR at hx
  cases e1 : x.seq? with
  | none => rw [e1] at hx; exact hx.elim
  | some xs =>
    simp only [e1] at hx
    cases e2 : nks? xs with
    | none => rw [e2] at hx; exact hx.elim
    | some ks =>
      simp only [e2] at hx
      split at hx
      · rename_i hz
        simp only [Bool.and_eq_true, decide_eq_true_eq] at hz
        obtain ⟨l, zs, rfl, sr, ez, dz⟩ := srcN_of g1.sub d1 e1 e2 hz.1.1.2 hz.1.1.1
        refine ⟨l, zs, rfl, sr, by rw [ez]; exact hz.1.2, fun p L1 hp hsub pm => ?_⟩
        rw [ez] at pm
        have hd : ((L1.mergeSort (PySem.W.dataLe false fun z => z.2.data)).map fun z => z.2.data) = sortD ((dedK ks).map NestedKey.data) := by
          have z := PySem.W.sort_maps (r := PySem.W.dataLe false fun z : Addr × NKey => z.2.data) (s := PySem.W.dataLe false id) (fun z : Addr × NKey => z.2.data) (l := L1) (fun _ _ _ _ => rfl)
          have pm2 := pm.map NestedKey.data
          rw [List.map_map] at pm2
          rw [z]
          exact sort_uniq pm2 hz.2
        rw [← hd] at hx
        have g2 : Grow F1 H1 F1 (upd H1 p (.lst ((L1.mergeSort (PySem.W.dataLe false fun z => z.2.data)).map fun z => V.ref z.1))) := Grow.own g1.sub hp
        refine hx _ F1 _ g2 ⟨p, _, rfl, hp, g1.sub.free hp, upd_same, ?_⟩
        have mk : ∀ M : List (Addr × NKey), (∀ z ∈ M, Dn X.K F1 (.ref z.1) z.2.data) → DnAll X.K F1 (M.map fun z => V.ref z.1) (M.map fun z => z.2.data) := by
          intro M
          induction M with
          | nil => intro _; exact .nil
          | cons z M ih => intro h; exact .cons (h z (List.mem_cons_self ..)) (ih fun y hy => h y (List.mem_cons_of_mem _ hy))
        exact mk _ fun z hz => dz z (hsub z ((List.mergeSort_perm _ _).mem_iff.mp hz))
      · exact hx.elim
end
end PP
set_option Elab.async false
set_option linter.all false
set_option autoImplicit false
set_option maxRecDepth 100000
set_option maxHeartbeats 1000000
namespace PP
open PySem L2
/-- what the module's names stand for: constants; defs (name, number, parameters) -/
structure Gi where
  csts : List (Str × D)
  dcts : List (Str × List (Str × D))
  fns : List (Str × Nat × Nat)
  xns : List (Str × Nat)
  word : Bool
mutual
def eqD : D → D → Bool
  | .none, .none => true
  | .bool a, .bool b => decide (a = b)
  | .int a, .int b => decide (a = b)
  | .str a, .str b => decide (a = b)
  | .list a, .list b => eqDs a b
  | .tuple a, .tuple b => eqDs a b
  | _, _ => false
def eqDs : List D → List D → Bool
  | [], [] => true
  | a :: as, b :: bs => eqD a b && eqDs as bs
  | _, _ => false
end
mutual
theorem eqD_eq : ∀ {a b : D}, eqD a b = true → a = b
  | .none, b, h => by cases b <;> first | rfl | (simp [eqD] at h)
  | .bool x, b, h => by cases b <;> first | (simp [eqD] at h; done) | (simp [eqD] at h; rw [h])
  | .int x, b, h => by cases b <;> first | (simp [eqD] at h; done) | (simp [eqD] at h; rw [h])
  | .str x, b, h => by cases b <;> first | (simp [eqD] at h; done) | (simp [eqD] at h; rw [h])
  | .list x, b, h => by
    cases b with
    | list y => simp only [eqD] at h; rw [eqDs_eq h]
    | _ => simp [eqD] at h
  | .tuple x, b, h => by
    cases b with
    | tuple y => simp only [eqD] at h; rw [eqDs_eq h]
    | _ => simp [eqD] at h
  | .dict x, b, h => by cases b <;> simp [eqD] at h
theorem eqDs_eq : ∀ {a b : List D}, eqDs a b = true → a = b
  | [], b, h => by cases b <;> first | rfl | (simp [eqDs] at h)
  | x :: xs, b, h => by
    cases b with
    | nil => simp [eqDs] at h
    | cons y ys =>
      simp only [eqDs, Bool.and_eq_true] at h
      rw [eqD_eq h.1, eqDs_eq h.2]
end
def eqKD : List (Str × D) → List (Str × D) → Bool
  | [], [] => true
  | a :: as, b :: bs => decide (a.1 = b.1) && eqD a.2 b.2 && eqKD as bs
  | _, _ => false
theorem eqKD_eq : ∀ {a b : List (Str × D)}, eqKD a b = true → a = b
  | [], b, h => by cases b <;> first | rfl | cases h
  | x :: xs, b, h => by
    cases b with
    | nil => cases h
    | cons y ys =>
      simp only [eqKD, Bool.and_eq_true] at h
      obtain ⟨⟨h1, h2⟩, h3⟩ := h
      have e1 := of_decide_eq_true h1
      have e2 := eqD_eq h2
      rw [eqKD_eq h3]
      cases x; cases y
      simp only at e1 e2
      rw [e1, e2]
/-- a written constant -/
def cstOk : D → Const → Bool
  | .none, .none => true
  | .bool a, .bool b => decide (a = b)
  | .int a, .int b => decide (a = b)
  | .str a, .str b => decide (a = b) && PyData.strOk a
  | _, _ => false
def visB (sc : Scope) (x : Str) : Bool := match sc.names.lookup x with
  | some .local => true
  | some .cell => true
  | some .free => true
  | _ => false
def glB (sc : Scope) (x : Str) : Bool := decide (sc.names.lookup x = some .globalImplicit) && !(x == ("__debug__" : Str)) && decide (x ≠ "__name__")
def nameOk (x : Str) : Bool := !(x == ("__debug__" : Str)) && !(x == ("__classdict__" : Str))
def notStar : Expr → Bool
  | .Starred .. => false
  | _ => true
def notSet : Expr → Bool
  | .Set .. => false
  | _ => true
def notSlice : Expr → Bool
  | .Slice .. => false
  | _ => true
def isComp : Expr → Bool
  | .ListComp .. => true
  | .SetComp .. => true
  | .DictComp .. => true
  | _ => false
def bfName : Bf → Str
  | .len => "len"
  | .int => "int"
  | .tuple => "tuple"
  | .list => "list"
  | .max => "max"
  | .min => "min"
  | .all => "all"
  | .any => "any"
  | .sum => "sum"
  | .str => "str"
  | .sorted => "sorted"
  | .lenset => "len"
  | .sortset => "sorted"
  | .min1 => "min"
def tyName : Ty → Str
  | .int => "int"
  | .bool => "bool"
  | .str => "str"
  | .tuple => "tuple"
  | .list => "list"
  | .none => "NoneType"
def locB (sc : Scope) (x : Str) : Bool := match sc.names.lookup x with
  | some .local => true
  | some .cell => true
  | _ => false
/-- a name as a target in the block of scope sc; fn: whose cells were made here -/
def tgN (N : List Str) (sc : Scope) (fn : Str → Bool) (i : Nat) : Expr → Bool
  | .Name x _ => decide (N[i]? = some x) && locB sc x && (fn x || decide (sc.names.lookup x = some .local))
  | _ => false
def tgNs (N : List Str) (sc : Scope) (fn : Str → Bool) : List Nat → List Expr → Bool
  | [], [] => true
  | i :: is, e :: es => tgN N sc fn i e && tgNs N sc fn is es
  | _, _ => false
def chkT (N : List Str) (sc : Scope) (fn : Str → Bool) : Tg → Expr → Bool
  | .nm i, e => tgN N sc fn i e
  | .tp is, .Tuple es _ _ => tgNs N sc fn is es
  | _, _ => false
def ownOf (N : List Str) (is : List Nat) : List (Str × Nat) := is.map fun i => (N.getD i "", i)
def isNm : Expr → Bool
  | .Name _ _ => true
  | _ => false
def isTx (z : Str) : Expr → Bool
  | .Constant c _ _ => (match c with
    | .str y => decide (z = y)
    | _ => false)
  | _ => false
theorem isTx_ok {z : Str} {e : Expr} (h : isTx z e = true) : ∃ k p, e = .Constant (.str z) k p := by
  unfold isTx at h
  split at h
  · split at h
    · have := of_decide_eq_true h; subst this; exact ⟨_, _, rfl⟩
    · cases h
  · cases h
theorem isNm_ok {e : Expr} (h : isNm e = true) : ∃ x p, e = .Name x p := by
  unfold isNm at h
  split at h
  · exact ⟨_, _, rfl⟩
  · cases h
def isNmAt (N : List Str) (sc : Scope) (i : Nat) : Expr → Bool
  | .Name x _ => decide (N[i]? = some x) && visB sc x && nameOk x
  | _ => false
theorem isNmAt_ok {N : List Str} {sc : Scope} {i : Nat} {e : Expr} (h : isNmAt N sc i e = true) : ∃ x p, e = .Name x p ∧ N[i]? = some x ∧ visB sc x = true ∧ nameOk x = true := by
  unfold isNmAt at h
  split at h
  · simp only [Bool.and_eq_true] at h
    exact ⟨_, _, rfl, of_decide_eq_true h.1.1, h.1.2, h.2⟩
  · cases h
mutual
def chkE (G : Gi) (N : List Str) : Scope → Ex → Expr → Bool
  | sc, .var i, .Name x _ => decide (N[i]? = some x) && visB sc x && nameOk x
  | _, .cst d, .Constant c _ _ => cstOk d c
  | sc, .cst d, .Name x _ => glB sc x && (match G.csts.lookup x with | some d' => eqD d d' | none => false)
  | sc, .tup es, .Tuple xs _ _ => chkEs G N sc es xs
  | sc, .lst es, .List xs _ => chkEs G N sc es xs
  | sc, .bin o a b, .BinOp l op r _ => decide (opOf o = op) && chkE G N sc a l && chkE G N sc b r
  | sc, .neg a, .UnaryOp .USub l _ => chkE G N sc a l
  | sc, .cmp o a b, .Compare l [op] [r] _ => decide (cmOf o = op) && chkE G N sc a l && chkE G N sc b r && notSet r
  | sc, .chn o p a b c, .Compare l [op, op'] [r, s] _ => decide (cmOf o = op) && decide (cmOf p = op') && chkE G N sc a l && chkE G N sc b r && chkE G N sc c s && notSet s
  | sc, .and a b, .BoolOp .And [l, r] _ => chkE G N sc a l && chkE G N sc b r
  | sc, .and a b, .BoolOp .And (l :: r :: s :: t) p => chkE G N sc a l && chkE G N sc b (.BoolOp .And (r :: s :: t) p)
  | sc, .or a b, .BoolOp .Or [l, r] _ => chkE G N sc a l && chkE G N sc b r
  | sc, .or a b, .BoolOp .Or (l :: r :: s :: t) p => chkE G N sc a l && chkE G N sc b (.BoolOp .Or (r :: s :: t) p)
  | sc, .not a, .UnaryOp .Not l _ => chkE G N sc a l
  | sc, .ite c a b, .IfExp c' l r _ => chkE G N sc c c' && chkE G N sc a l && chkE G N sc b r
  | sc, .idx a b, .Subscript l r _ => chkE G N sc a l && chkE G N sc b r && notSlice r
  | sc, .slc a lo hi, .Subscript l (.Slice lo' hi' none _) _ => chkE G N sc a l && chkO G N sc lo lo' && chkO G N sc hi hi'
  | sc, .call n es, .Call (.Name x _) xs [] _ => glB sc x && decide ((x, n, xs.length) ∈ G.fns) && chkEs G N sc es xs
  | sc, .blt f es, .Call (.Name x _) (y :: ys) [] _ => decide (bfName f = x) && glB sc x && (match f with | .lenset => false | .sortset => false | _ => true) && chkEs G N sc es (y :: ys)
  | sc, .isi t a, .Call (.Name x _) [l, .Name y _] [] _ => decide (x = "isinstance") && glB sc x && decide (tyName t = y) && (match t with | .none => false | _ => true) && glB sc y && notStar l && chkE G N sc a l
  | sc, .isi2 t u a, .Call (.Name x _) [l, .Tuple [.Name y _, .Name z _] _ _] [] _ => decide (x = "isinstance") && glB sc x && decide (tyName t = y) && (match t with | .none => false | _ => true) && glB sc y && decide (tyName u = z) && (match u with | .none => false | _ => true) && glB sc z && notStar l && chkE G N sc a l
  | sc, .lc t it e, .ListComp elt [⟨tg, iter, [], k⟩] scope _ => decide (k = 0) && chkI G N sc it tg iter && blkC N sc scope (ownOf N t.own) && chkT N (relS scope sc) (fun x => scope.names.lookup x == some .cell) t tg && chkE G N (relS scope sc) e elt && notSet iter
  | sc, .lcf t it c e, .ListComp elt [⟨tg, iter, [cnd], k⟩] scope _ => decide (k = 0) && chkI G N sc it tg iter && blkC N sc scope (ownOf N t.own) && chkT N (relS scope sc) (fun x => scope.names.lookup x == some .cell) t tg && chkE G N (relS scope sc) c cnd && chkE G N (relS scope sc) e elt && notSet iter
  | sc, .lenset a, .Call (.Name x _) [.Call (.Name y _) [l] [] _] [] _ => decide (x = "len") && decide (y = "set") && glB sc x && glB sc y && notStar l && chkE G N sc a l
  | sc, .rev a, .Subscript l (.Slice none none (some (.UnaryOp .USub (.Constant (.int 1) _ _) _)) _) _ => chkE G N sc a l
  | sc, .dget kvs a, .Subscript (.Name x _) r _ => glB sc x && (match G.dcts.lookup x with | some kvs' => eqKD kvs kvs' | none => false) && chkE G N sc a r && notSlice r
  | sc, .dsel ks es a, .Subscript (.Dict keys values _) r _ => chkDs G N sc ks es keys values && decide (keys ≠ []) && decide (keys.length ≤ 15) && decide ks.Nodup && chkE G N sc a r && notSlice r
  | sc, .lensi a, .Call (.Name x _) [.Call (.Name y _) [l] [] _] [] _ => decide (x = "len") && decide (y = "set") && glB sc x && glB sc y && notStar l && chkE G N sc a l
  | sc, .mget i es, .Subscript (.Name x _) (.Tuple xs _ _) _ => decide (N[i]? = some x) && visB sc x && nameOk x && chkEs G N sc es xs
  | sc, .upp a, .Call (.Attribute l m ap) [] [] cp => decide (m = "upper") && (ap.endLine == cp.line) && isNm l && chkE G N sc a l
  | sc, .fnd z a, .Call (.Attribute l m ap) [b] [] cp => decide (m = "find") && (ap.endLine == cp.line) && isTx z l && notStar b && chkE G N sc a b
  | sc, .tdsp ks es, .Dict keys values _ => chkDs G N sc ks es keys values && decide (keys ≠ []) && decide (keys.length ≤ 15) && decide ks.Nodup
  | sc, .tget i a, .Subscript l r _ => isNmAt N sc i l && chkE G N sc a r && notSlice r
  | sc, .mhas i a, .Compare l [op] [r] _ => decide (CmpOp.NotIn = op) && chkE G N sc a l && isNmAt N sc i r
  | sc, .ssi a, .Call (.Name x _) [.Call (.Name y _) [l] [] _] [] _ => decide (x = "sorted") && decide (y = "set") && glB sc x && glB sc y && notStar l && chkE G N sc a l
  | sc, .ndl a, .Call (.Name x _) [.Call (.Name y _) [l] [] _] [] _ => decide (x = "len") && decide (y = "set") && glB sc x && glB sc y && notStar l && chkE G N sc a l
  | sc, .nds a, .Call (.Name x _) [.Call (.Name y _) [l] [] _] [] _ => decide (x = "sorted") && decide (y = "set") && glB sc x && glB sc y && notStar l && chkE G N sc a l
  | sc, .cnt o a, .Call (.Attribute l m ap) [b] [] cp => decide (m = "count") && (ap.endLine == cp.line) && isNm l && notStar b && chkE G N sc o l && chkE G N sc a b
  | sc, .jn z a, .Call (.Attribute l m ap) [b] [] cp => decide (m = "join") && (ap.endLine == cp.line) && isTx z l && notStar b && chkE G N sc a b && PyData.strOk z
  | sc, .sidx z a, .Call (.Attribute l m ap) [b] [] cp => decide (m = "index") && (ap.endLine == cp.line) && isTx z l && notStar b && chkE G N sc a b
  | sc, .stp a k, .Subscript l (.Slice none none (some r) _) _ => chkE G N sc a l && chkE G N sc k r
  | sc, .scnt a z, .Call (.Attribute l m ap) [b] [] cp => decide (m = "count") && (ap.endLine == cp.line) && isNm l && isTx z b && chkE G N sc a l
  | _, _, _ => false
def chkEs (G : Gi) (N : List Str) : Scope → Exs → List Expr → Bool
  | _, .nil, [] => true
  | sc, .cons x xs, e :: es => chkE G N sc x e && notStar e && chkEs G N sc xs es
  | _, _, _ => false
def chkDs (G : Gi) (N : List Str) : Scope → List Str → Exs → List (Option Expr) → List Expr → Bool
  | _, [], .nil, [], [] => true
  | sc, k :: ks, .cons x xs, some (.Constant (.str k') _ _) :: es, v :: vs => decide (k = k') && chkE G N sc x v && chkDs G N sc ks xs es vs
  | _, _, _, _, _ => false
def chkO (G : Gi) (N : List Str) : Scope → Exs → Option Expr → Bool
  | _, .nil, none => true
  | sc, .cons x .nil, some e => chkE G N sc x e
  | _, _, _ => false
def chkI (G : Gi) (N : List Str) : Scope → It → Expr → Expr → Bool
  | sc, .seq x, _, e => chkE G N sc x e
  | sc, .rng1 x, _, .Call (.Name r _) [a] [] _ => decide (r = "range") && glB sc r && chkE G N sc x a && notStar a
  | sc, .rng2 x y, _, .Call (.Name r _) [a, b] [] _ => decide (r = "range") && glB sc r && chkE G N sc x a && chkE G N sc y b && notStar a && notStar b
  | sc, .enum x, .Tuple _ _ _, .Call (.Name r _) [a] [] _ => decide (r = "enumerate") && glB sc r && chkE G N sc x a && notStar a
  | sc, .zip x y, .Tuple _ _ _, .Call (.Name r _) [a, b] [] _ => decide (r = "zip") && glB sc r && chkE G N sc x a && chkE G N sc y b && notStar a && notStar b
  | sc, .dks kvs, _, .Name x _ => glB sc x && (match G.dcts.lookup x with | some kvs' => eqKD kvs kvs' | none => false) && kvs.all (fun p => PyData.strOk p.1)
  | _, _, _, _ => false
end
end PP
set_option Elab.async false
set_option linter.all false
set_option autoImplicit false
set_option maxRecDepth 100000
set_option maxHeartbeats 4000000
namespace PP
open PySem L2
def bltNames : List Str := ["len", "int", "tuple", "list", "max", "min", "all", "any", "sum", "str", "sorted", "set", "isinstance", "range", "zip", "enumerate", "bool"]
/-- what a context knows -/
structure GOk (X : Cx) (CX : CXT) (Ex0 : XK) (cl : Nat → Value) (C : Nat → List R → Rs R) (G : Gi) : Prop where
  calm : X.calm = true
  nd : X.N.Nodup
  hu : X.A.units + 64 < cLine
  blt : ∀ x, x ∈ bltNames → X.mg x = none
  cst : ∀ x d, G.csts.lookup x = some d → ∃ v u, X.mg x = some u ∧ RelV v u ∧ ∀ F, Dn X.K F v d
  dct : ∀ x kvs, G.dcts.lookup x = some kvs → ∃ d, X.mg x = some (.ref d) ∧ DctK X.K X.w d kvs
  fn : ∀ x n np, (x, n, np) ∈ G.fns → ∃ k f fd ps, FnOk X.prog X.w X.K X.mg X.base CX k f fd ps (spP X.K cl np (C n)) ∧ Room k X.A ∧ X.mg x = some (.ref f) ∧ PySem.W.keepIn X.K (.ref f) = true ∧ Binds X.K fd ps [] ∧ ∀ rs r, C n rs = r → r ≠ .bad → rs.length = np
  pass : Passes CX X Ex0
  p0 : ∀ X' : Cx, X'.prog = X.prog → X'.w = X.w → Passes CX X' L2.E0
section
variable {X : Cx} {CX : CXT} {Ex0 : XK} {cl : Nat → Value} {C : Nat → List R → Rs R} {G : Gi}
theorem GOk.blk (g : GOk X CX Ex0 cl C G) (s : Shared) (H : Hp) (scope : Scope) (cenv : Env) (fp : List Addr) : GOk (X.blk s H scope cenv fp) CX L2.E0 cl C G :=
  ⟨g.calm, g.nd, g.hu, g.blt, g.cst, g.dct, g.fn, g.p0 _ rfl rfl, g.p0⟩
theorem glB_of {sc : Scope} {x : Str} (h : glB sc x = true) : sc.names.lookup x = some .globalImplicit ∧ (x == ("__debug__" : Str)) = false ∧ x ≠ "__name__" := by
  unfold glB at h
  rw [Bool.and_eq_true, Bool.and_eq_true] at h
  exact ⟨of_decide_eq_true h.1.1, by simpa using h.1.2, of_decide_eq_true h.2⟩
theorem visB_of {sc : Scope} {x : Str} (h : visB sc x = true) : Vis sc x := by
  unfold visB at h
  split at h
  · rename_i e; exact .inl e
  · rename_i e; exact .inr (.inl e)
  · rename_i e; exact .inr (.inr e)
  · cases h
theorem locB_of {sc : Scope} {x : Str} (h : locB sc x = true) : Loc sc x := by
  unfold locB at h
  split at h
  · rename_i e; exact .inl e
  · rename_i e; exact .inr e
  · cases h
theorem star_of {e : Expr} (h : notStar e = true) (es : List Expr) (env : Env) : starEach (e :: es) env = (false, eval e env) :: starEach es env := by
  cases e <;> first | rfl | cases h
theorem fold_of {e : Expr} (h : notSet e = true) (env : Env) : ∀ x, foldedSetIterable e env x = pure x := by
  cases e <;> first | (intro x; rfl) | cases h
theorem marks_of {e : Expr} (h : notSet e = true) (op : CmpOp) : behindInMarks op e = false := by
  cases e <;> first | rfl | cases h
theorem plain_of {e : Expr} (h : notSlice e = true) : PlainIx e := by
  cases e <;> first | (intro o i; rfl) | cases h
theorem cst_pe {d : D} {c : Const} {k : Nat} {pos : Pos} {E : EX} (h : cstOk d c = true) : PE X (.Constant c k pos) (tOf X.K E (ev C (.cst d))) := by
  cases d with
  | none =>
    cases c with
    | none => exact q_val pe_non fun _ => .non
    | _ => cases h
  | bool a =>
    cases c with
    | bool b =>
      have e : a = b := of_decide_eq_true h
      subst e
      exact q_val pe_bl fun _ => .bl a
    | _ => cases h
  | int a =>
    cases c with
    | int b =>
      have e : a = b := of_decide_eq_true h
      subst e
      exact q_val pe_int fun _ => .int a
    | _ => cases h
  | str a =>
    cases c with
    | str b =>
      simp only [cstOk, Bool.and_eq_true] at h
      have e : a = b := of_decide_eq_true h.1
      subst e
      exact q_val pe_str fun _ => .str a h.2
    | _ => cases h
  | _ => cases c <;> cases h
theorem pg_tgN {fn : Str → Bool} {i : Nat} {e : Expr} (nd : X.N.Nodup) (hf : ∀ x, fn x = true → X.fn x = true) (h : tgN X.N X.env.scope fn i e = true) : PG X e (gName i) := by
  cases e with
  | Name x pos =>
    simp only [tgN, Bool.and_eq_true, Bool.or_eq_true] at h
    refine pg_name nd (of_decide_eq_true h.1.1) (locB_of h.1.2) ?_
    rcases h.2 with q | q
    · exact .inl (hf x q)
    · exact .inr (of_decide_eq_true q)
  | _ => cases h
theorem tgN_name {N : List Str} {sc : Scope} {fn : Str → Bool} {i : Nat} {e : Expr} (h : tgN N sc fn i e = true) : ∃ x p, e = .Name x p := by
  cases e with
  | Name x pos => exact ⟨x, pos, rfl⟩
  | _ => cases h
theorem pgs_tgNs {fn : Str → Bool} (nd : X.N.Nodup) (hf : ∀ x, fn x = true → X.fn x = true) : ∀ {is : List Nat} {es : List Expr}, tgNs X.N X.env.scope fn is es = true → PGs X es (gAll is) ∧ (assignEach es X.env).length = is.length ∧ (assignEach es X.env).findIdx? (·.1) = none
  | [], [], _ => ⟨pgs_names_nil, rfl, rfl⟩
  | i :: is, e :: es, h => by
    simp only [tgNs, Bool.and_eq_true] at h
    obtain ⟨h1, h2, h3⟩ := pgs_tgNs nd hf h.2
    obtain ⟨x, p, rfl⟩ := tgN_name h.1
    refine ⟨pgs_names_cons (pg_tgN nd hf h.1) h1 rfl, ?_, ?_⟩
    · show (assignEach es X.env).length + 1 = is.length + 1
      rw [h2]
    · show List.findIdx? (·.1) ((false, assign (.Name x p) X.env) :: assignEach es X.env) = none
      rw [List.findIdx?_cons]
      simp [h3]
  | [], _ :: _, h => by cases h
  | _ :: _, [], h => by cases h
theorem pg_chkT {fn : Str → Bool} {t : Tg} {e : Expr} (hc : X.calm = true) (nd : X.N.Nodup) (hf : ∀ x, fn x = true → X.fn x = true) (h : chkT X.N X.env.scope fn t e = true) : PG X e (gNames X.K t) := by
  cases t with
  | nm i => exact pg_tgN nd hf h
  | tp is =>
    cases e with
    | Tuple es k pos =>
      obtain ⟨h1, h2, h3⟩ := pgs_tgNs nd hf h
      exact pg_names hc h1 h2 h3
    | _ => cases h
theorem ownOf_own (N : List Str) (is : List Nat) : (ownOf N is).map (·.2) = is := by
  unfold ownOf
  rw [List.map_map]
  exact List.map_id' is
theorem ty_boot (t : Ty) (h : (match t with | .none => false | _ => true) = true) : bootBuiltins (tyName t) = some (.type (tyN t)) ∧ tyName t ∈ bltNames := by
  cases t with
  | int => exact ⟨by decide +kernel, by decide +kernel⟩
  | bool => exact ⟨by decide +kernel, by decide +kernel⟩
  | str => exact ⟨by decide +kernel, by decide +kernel⟩
  | tuple => exact ⟨by decide +kernel, by decide +kernel⟩
  | list => exact ⟨by decide +kernel, by decide +kernel⟩
  | none => cases h
end
/-- the built-in named by f, called -/
theorem q_blt {X : Cx} {CX : CXT} {Ex0 : XK} {cl : Nat → Value} {C : Nat → List R → Rs R} {G : Gi} (g : GOk X CX Ex0 cl C G) {E : EX} {f : Bf} {xs : Exs} {e : Expr} {es : List Expr} {p pos : Pos} (hf : (match f with | .lenset => false | .sortset => false | _ => true) = true)
    (hg : glB X.env.scope (bfName f) = true) (ha : PA X (e :: es) (tOfA X.K E (evs C xs))) (he : starEach (e :: es) X.env = (false, eval e X.env) :: starEach es X.env) (hpl : (backTo pos (starEach es X.env)).any (·.1) = false) :
    PE X (.Call (.Name (bfName f) p) (e :: es) [] pos) (tOf X.K E fun ρ => evs C xs ρ >>= fun rs => bltR f rs) := by
  obtain ⟨h1, h2, h3⟩ := glB_of hg
  cases f with
  | len => exact q_callB cr_len len_s h1 (g.blt _ (by decide +kernel)) (by decide +kernel) ha h3 h2 he hpl
  | int => exact q_callTy cr_int int_s h1 (g.blt _ (by decide +kernel)) (by decide +kernel) ha h3 h2 he hpl
  | tuple => exact q_callTy cr_tuple tuple_s h1 (g.blt _ (by decide +kernel)) (by decide +kernel) ha h3 h2 he hpl
  | list => exact q_callTy cr_list list_s h1 (g.blt _ (by decide +kernel)) (by decide +kernel) ha h3 h2 he hpl
  | min1 => exact q_callB (cr_minA g.calm g.hu) min1_s h1 (g.blt _ (by decide +kernel)) (by decide +kernel) ha h3 h2 he hpl
  | max => exact q_callB (cr_maxI g.calm g.hu) max_s h1 (g.blt _ (by decide +kernel)) (by decide +kernel) ha h3 h2 he hpl
  | min => exact q_callB (cr_minI g.calm g.hu) min_s h1 (g.blt _ (by decide +kernel)) (by decide +kernel) ha h3 h2 he hpl
  | all => exact q_callB (cr_all g.calm) all_s h1 (g.blt _ (by decide +kernel)) (by decide +kernel) ha h3 h2 he hpl
  | any => exact q_callB (cr_any g.calm) any_s h1 (g.blt _ (by decide +kernel)) (by decide +kernel) ha h3 h2 he hpl
  | sum => exact q_callB (cr_sum g.calm) sum_s h1 (g.blt _ (by decide +kernel)) (by decide +kernel) ha h3 h2 he hpl
  | sorted => exact q_callB (cr_sortA g.hu) sorted_s h1 (g.blt _ (by decide +kernel)) (by decide +kernel) ha h3 h2 he hpl
  | str => exact q_callTy cr_str str_s h1 (g.blt _ (by decide +kernel)) (by decide +kernel) ha h3 h2 he hpl
  | lenset => cases hf
  | sortset => cases hf
theorem pe_bad {X : Cx} {e : Expr} {E : EX} {f : Sto → Rs R} (h : ∀ ρ, f ρ = .bad) : PE X e (tOf X.K E f) := by
  refine ⟨fun pins s σ H Q I z => ?_⟩
  obtain ⟨ρ, F, R, z⟩ := z
  rw [h ρ] at z
  exact z.elim
theorem pt_bad {X : Cx} {e : Expr} {E : EX} {f : Sto → Rs Bool} (h : ∀ ρ, f ρ = .bad) : PT X e (tOfT X.K E f) := by
  refine ⟨fun pins s σ H Q I q => ?_⟩
  obtain ⟨ρ, F, R, q⟩ := q
  rw [h ρ] at q
  exact q.elim
theorem stars_of : ∀ {es : List Expr} (env : Env), (es.all notStar) = true → starEach es env = es.map fun e => (false, eval e env)
  | [], _, _ => rfl
  | e :: es, env, h => by
    rw [List.all_cons, Bool.and_eq_true] at h
    rw [star_of h.1, stars_of env h.2]
    rfl
theorem chkEs_star {G : Gi} {N : List Str} {sc : Scope} : ∀ {xs : Exs} {es : List Expr}, chkEs G N sc xs es = true → es.all notStar = true
  | .nil, es, h => by
    cases es with
    | nil => rfl
    | cons _ _ => cases h
  | .cons x xs, es, h => by
    cases es with
    | nil => rfl
    | cons y ys =>
      simp only [chkEs, Bool.and_eq_true] at h
      rw [List.all_cons, h.1.2, chkEs_star h.2]
      rfl
theorem back_of {es : List Expr} (env : Env) (pos : Pos) (h : es.all notStar = true) : (backTo pos (starEach es env)).any (·.1) = false := by
  rw [stars_of env h]
  unfold backTo
  rw [List.any_map, List.any_map]
  exact List.any_eq_false.mpr fun _ _ => Bool.false_ne_true
mutual
theorem snd_e {CX : CXT} {cl : Nat → Value} {C : Nat → List R → Rs R} {G : Gi} : ∀ (x : Ex) {X : Cx} {Ex0 : XK} {e : Expr}, GOk X CX Ex0 cl C G → chkE G X.N X.env.scope x e = true → PE X e (tOf X.K (fun c H' => Ex0 (cl c) none H') (ev C x))
  | .var i, X, Ex0, e, g, h => by
    cases e with
    | Name x pos =>
      simp only [chkE, Bool.and_eq_true, nameOk] at h
      exact q_var (of_decide_eq_true h.1.1) (visB_of h.1.2) (by simpa using h.2.1) (by simpa using h.2.2) C
    | _ => cases h
  | .cst d, X, Ex0, e, g, h => by
    cases e with
    | Constant c k pos => exact cst_pe (by simpa only [chkE] using h)
    | Name x pos =>
      simp only [chkE, Bool.and_eq_true] at h
      obtain ⟨h1, h2, h3⟩ := glB_of h.1
      cases q : G.csts.lookup x with
      | none => rw [q] at h; cases h.2
      | some d' =>
        rw [q] at h
        have e : d = d' := eqD_eq h.2
        subst e
        obtain ⟨v, u, m, r, dn⟩ := g.cst x d q
        exact q_val (pe_glob h1 m r h2) dn
    | _ => cases h
  | .tup es, X, Ex0, e, g, h => by
    cases e with
    | Tuple xs k pos => exact q_tup (snd_es es g (by simpa only [chkE] using h)).1
    | _ => cases h
  | .lst es, X, Ex0, e, g, h => by
    cases e with
    | List xs pos => exact q_lst (snd_es es g (by simpa only [chkE] using h)).1
    | _ => cases h
  | .bin o a b, X, Ex0, e, g, h => by
    cases e with
    | BinOp l op r pos =>
      simp only [chkE, Bool.and_eq_true] at h
      have e : opOf o = op := of_decide_eq_true h.1.1
      subst e
      exact q_binE o (snd_e a g h.1.2) (snd_e b g h.2)
    | _ => cases h
  | .neg a, X, Ex0, e, g, h => by
    cases e with
    | UnaryOp op l pos =>
      cases op with
      | USub => exact q_neg (snd_e a g (by simpa only [chkE] using h))
      | _ => cases h
    | _ => cases h
  | .cmp o a b, X, Ex0, e, g, h => by
    cases e with
    | Compare l ops rs pos =>
      match ops, rs, h with
      | [op], [r], h =>
        simp only [chkE, Bool.and_eq_true] at h
        have e : cmOf o = op := of_decide_eq_true h.1.1.1
        subst e
        exact q_cmpE g.hu o (snd_e a g h.1.1.2) (snd_e b g h.1.2) (marks_of h.2 _)
      | [], _, h => cases h
      | [_], [], h => cases h
      | [_], _ :: _ :: _, h => cases h
      | _ :: _ :: _, _, h => cases h
    | _ => cases h
  | .chn o p a b c, X, Ex0, e, g, h => by
    cases e with
    | Compare l ops rs pos =>
      match ops, rs, h with
      | [op, op'], [r, s], h =>
        simp only [chkE, Bool.and_eq_true] at h
        have e : cmOf o = op := of_decide_eq_true h.1.1.1.1.1
        have e' : cmOf p = op' := of_decide_eq_true h.1.1.1.1.2
        subst e
        subst e'
        exact q_chn g.hu o p (snd_e a g h.1.1.1.2) (snd_e b g h.1.1.2) (snd_e c g h.1.2) (marks_of h.2 _)
      | [], _, h => cases h
      | [_], _, h => cases h
      | [_, _], [], h => cases h
      | [_, _], [_], h => cases h
      | [_, _], _ :: _ :: _ :: _, h => cases h
      | _ :: _ :: _ :: _, _, h => cases h
    | _ => cases h
  | .and a b, X, Ex0, e, g, h => by
    cases e with
    | BoolOp op vs pos =>
      cases op with
      | And =>
        match vs, h with
        | [l, r], h =>
          simp only [chkE, Bool.and_eq_true] at h
          exact q_and (snd_e a g h.1) (q_one (snd_e b g h.2))
        | l :: r :: s :: t, h =>
          simp only [chkE, Bool.and_eq_true] at h
          exact q_and (snd_e a g h.1) (snd_e b g h.2)
        | [], h => cases h
        | [_], h => cases h
      | Or => cases h
    | _ => cases h
  | .or a b, X, Ex0, e, g, h => by
    cases e with
    | BoolOp op vs pos =>
      cases op with
      | Or =>
        match vs, h with
        | [l, r], h =>
          simp only [chkE, Bool.and_eq_true] at h
          exact q_or (snd_e a g h.1) (q_one (snd_e b g h.2))
        | l :: r :: s :: t, h =>
          simp only [chkE, Bool.and_eq_true] at h
          exact q_or (snd_e a g h.1) (snd_e b g h.2)
        | [], h => cases h
        | [_], h => cases h
      | And => cases h
    | _ => cases h
  | .not a, X, Ex0, e, g, h => by
    cases e with
    | UnaryOp op l pos =>
      cases op with
      | Not => exact q_not (snd_e a g (by simpa only [chkE] using h))
      | _ => cases h
    | _ => cases h
  | .ite c a b, X, Ex0, e, g, h => by
    cases e with
    | IfExp c' l r pos =>
      simp only [chkE, Bool.and_eq_true] at h
      exact q_ite (snd_t c g h.1.1) (snd_e a g h.1.2) (snd_e b g h.2)
    | _ => cases h
  | .idx a b, X, Ex0, e, g, h => by
    cases e with
    | Subscript l r pos =>
      simp only [chkE, Bool.and_eq_true] at h
      exact q_idx (snd_e a g h.1.1) (snd_e b g h.1.2) (plain_of h.2)
    | _ => cases h
  | .slc a lo hi, X, Ex0, e, g, h => by
    cases e with
    | Subscript l r pos =>
      cases r with
      | Slice lo' hi' st p2 =>
        cases st with
        | none =>
          simp only [chkE, Bool.and_eq_true] at h
          exact q_slc (snd_e a g h.1.1) (snd_o lo g h.1.2) (snd_o hi g h.2)
        | some _ => cases h
      | _ => cases h
    | _ => cases h
  | .rev a, X, Ex0, e, g, h => by
    cases e with
    | Subscript l r pos =>
      cases r with
      | Slice lo hi st p2 =>
        match lo, hi, st, h with
        | none, none, some (.UnaryOp .USub (.Constant (.int 1) k p1) p3), h => exact q_rev (snd_e a g (by simpa only [chkE] using h))
        | none, none, none, h => cases h
        | some _, _, _, h => simp [chkE] at h
        | none, some _, _, h => simp [chkE] at h
      | _ => cases h
    | _ => cases h
  | .call n es, X, Ex0, e, g, h => by
    cases e with
    | Call f xs ks pos =>
      cases f with
      | Name x p =>
        cases ks with
        | nil =>
          simp only [chkE, Bool.and_eq_true] at h
          obtain ⟨h1, h2, h3⟩ := glB_of h.1.1
          obtain ⟨k, f, fd, ps, F, hr, hm, hk, hb, hl⟩ := g.fn x n xs.length (of_decide_eq_true h.1.2)
          obtain ⟨ha, hs⟩ := snd_es es g h.2
          cases xs with
          | nil =>
            cases es with
            | nil => exact q_call0 F hr h1 hm hk hb g.pass h2 hl
            | cons _ _ => cases h.2
          | cons y ys => exact q_call F hr h1 hm hk hb g.pass ha h2 (hs y ys rfl).1 (hs y ys rfl).2 hl
        | cons _ _ => cases h
      | _ => cases h
    | _ => cases h
  | .blt f es, X, Ex0, e, g, h => by
    cases e with
    | Call fn xs ks pos =>
      cases fn with
      | Name x p =>
        cases ks with
        | nil =>
          cases xs with
          | nil => cases h
          | cons y ys =>
            simp only [chkE, Bool.and_eq_true] at h
            have e : bfName f = x := of_decide_eq_true h.1.1.1
            subst e
            obtain ⟨ha, hs⟩ := snd_es es g h.2
            have e2 : ev C (.blt f es) = fun ρ => evs C es ρ >>= fun rs => bltR f rs := by funext ρ; rw [ev.eq_17]
            rw [e2]
            exact q_blt g h.1.2 h.1.1.2 ha (hs y ys rfl).1 (hs y ys rfl).2
        | cons _ _ => cases xs <;> cases h
      | _ => cases h
    | _ => cases h
  | .isi t a, X, Ex0, e, g, h => by
    cases e with
    | Call f xs ks pos =>
      cases f with
      | Name x p =>
        match xs, ks, h with
        | [l, e2], [], h =>
          cases e2 with
          | Name y q =>
            simp only [chkE, Bool.and_eq_true] at h
            have ex : x = "isinstance" := of_decide_eq_true h.1.1.1.1.1.1
            subst ex
            have ey : tyName t = y := of_decide_eq_true h.1.1.1.1.2
            subst ey
            obtain ⟨g1, g2, g3⟩ := glB_of h.1.1.1.1.1.2
            obtain ⟨k1, k2, k3⟩ := glB_of h.1.1.2
            obtain ⟨b1, b2⟩ := ty_boot t h.1.1.1.2
            exact q_isi1 (snd_e a g h.2) g1 (g.blt _ (by decide +kernel)) k1 (g.blt _ b2) b1 k3 k2 (star_of h.1.2 _ _)
          | _ => cases h
        | [], _, h => cases h
        | [_], _, h => cases h
        | _ :: _ :: _ :: _, _, h => simp [chkE] at h
        | [_, _], _ :: _, h => simp [chkE] at h
      | _ => cases h
    | _ => cases h
  | .isi2 t u a, X, Ex0, e, g, h => by
    cases e with
    | Call f xs ks pos =>
      cases f with
      | Name x p =>
        match xs, ks, h with
        | [l, e2], [], h =>
          cases e2 with
          | Tuple es k r =>
            match es, h with
            | [e3, e4], h =>
              cases e3 with
              | Name y q =>
                cases e4 with
                | Name z q2 =>
                  simp only [chkE, Bool.and_eq_true] at h
                  have ex : x = "isinstance" := of_decide_eq_true h.1.1.1.1.1.1.1.1.1
                  subst ex
                  have ey : tyName t = y := of_decide_eq_true h.1.1.1.1.1.1.1.2
                  subst ey
                  have ez : tyName u = z := of_decide_eq_true h.1.1.1.1.2
                  subst ez
                  obtain ⟨g1, g2, g3⟩ := glB_of h.1.1.1.1.1.1.1.1.2
                  obtain ⟨k1, k2, k3⟩ := glB_of h.1.1.1.1.1.2
                  obtain ⟨b1, b2⟩ := ty_boot t h.1.1.1.1.1.1.2
                  obtain ⟨l1, l2, l3⟩ := glB_of h.1.1.2
                  obtain ⟨c1, c2⟩ := ty_boot u h.1.1.1.2
                  exact q_isi2 (snd_e a g h.2) g1 (g.blt _ (by decide +kernel)) k1 (g.blt _ b2) b1 k3 k2 l1 (g.blt _ c2) c1 l3 l2 (star_of h.1.2 _ _)
                | _ => cases h
              | _ => cases h
            | [], h => cases h
            | [_], h => simp [chkE] at h
            | _ :: _ :: _ :: _, h => simp [chkE] at h
          | _ => cases h
        | [], _, h => cases h
        | [_], _, h => cases h
        | _ :: _ :: _ :: _, _, h => simp [chkE] at h
        | [_, _], _ :: _, h => simp [chkE] at h
      | _ => cases h
    | _ => cases h
  | .lc t it x, X, Ex0, e, g, h => by
    cases e with
    | ListComp elt gs scope pos =>
      match gs, h with
      | [⟨tg, iter, [], k⟩], h =>
        simp only [chkE, Bool.and_eq_true] at h
        have ek : k = 0 := of_decide_eq_true h.1.1.1.1.1
        subst ek
        refine q_lc g.calm g.nd (snd_i it g h.1.1.1.1.2) (blkOk_by h.1.1.1.2) (ownOf_own _ _) (fun s H A cl2 fp => ?_) (fun s H A cl2 fp => ?_) (fold_of h.2 _)
        · exact pg_chkT (X := X.blk s H scope (compEnvC scope cl2 A X.env) fp) g.calm g.nd (fun x q => q) h.1.1.2
        · exact snd_e x (g.blk s H scope (compEnvC scope cl2 A X.env) fp) h.1.2
      | [], h => cases h
      | ⟨_, _, _ :: _, _⟩ :: _, h => cases h
      | _ :: _ :: _, h => simp [chkE] at h
    | _ => cases h
  | .lcf t it c x, X, Ex0, e, g, h => by
    cases e with
    | ListComp elt gs scope pos =>
      match gs, h with
      | [⟨tg, iter, [cnd], k⟩], h =>
        simp only [chkE, Bool.and_eq_true] at h
        have ek : k = 0 := of_decide_eq_true h.1.1.1.1.1.1
        subst ek
        refine q_lcf g.calm g.nd (snd_i it g h.1.1.1.1.1.2) (blkOk_by h.1.1.1.1.2) (ownOf_own _ _) (fun s H A cl2 fp => ?_) (fun s H A cl2 fp => ?_) (fun s H A cl2 fp => ?_) (fold_of h.2 _)
        · exact pg_chkT (X := X.blk s H scope (compEnvC scope cl2 A X.env) fp) g.calm g.nd (fun x q => q) h.1.1.1.2
        · exact snd_t c (g.blk s H scope (compEnvC scope cl2 A X.env) fp) h.1.1.2
        · exact snd_e x (g.blk s H scope (compEnvC scope cl2 A X.env) fp) h.1.2
      | [], h => cases h
      | ⟨_, _, [], _⟩ :: _, h => cases h
      | ⟨_, _, _ :: _ :: _, _⟩ :: _, h => cases h
      | _ :: _ :: _, h => simp [chkE] at h
    | _ => cases h
  | .lenset a, X, Ex0, e, g, h => by
    cases e with
    | Call f xs ks pos =>
      cases f with
      | Name x p =>
        match xs, ks, h with
        | [e2], [], h =>
          cases e2 with
          | Call f2 xs2 ks2 q =>
            cases f2 with
            | Name y p2 =>
              match xs2, ks2, h with
              | [l], [], h =>
                simp only [chkE, Bool.and_eq_true] at h
                have ex : x = "len" := of_decide_eq_true h.1.1.1.1.1
                subst ex
                have ey : y = "set" := of_decide_eq_true h.1.1.1.1.2
                subst ey
                exact q_lenset g.calm g.hu (glB_of h.1.1.1.2).1 (g.blt _ (by decide +kernel)) (glB_of h.1.1.2).1 (g.blt _ (by decide +kernel)) (snd_e a g h.2) (star_of h.1.2 _ _)
              | [], _, h => cases h
              | _ :: _ :: _, _, h => simp [chkE] at h
              | [_], _ :: _, h => simp [chkE] at h
            | _ => cases h
          | _ => cases h
        | [], _, h => cases h
        | _ :: _ :: _, _, h => simp [chkE] at h
        | [_], _ :: _, h => simp [chkE] at h
      | _ => cases h
    | _ => cases h
  | .mget i es, X, Ex0, e, g, h => by
    cases e with
    | Subscript l r pos =>
      cases l with
      | Name x p =>
        cases r with
        | Tuple xs k q =>
          simp only [chkE, Bool.and_eq_true, nameOk] at h
          obtain ⟨⟨⟨h1, h2⟩, h3⟩, h4⟩ := h
          exact q_mget (by have := g.hu; omega) (pe_var (of_decide_eq_true h1) (visB_of h2) (by simpa using h3.1) (by simpa using h3.2)) (snd_es es g h4).1
        | _ => cases h
      | _ => cases h
    | _ => cases h
  | .upp a, X, Ex0, e, g, h => by
    cases e with
    | Call f as ks cp =>
      cases f with
      | Attribute l m ap =>
        match as, ks, h with
        | [], [], h =>
          simp only [chkE, Bool.and_eq_true] at h
          obtain ⟨⟨⟨h1, h2⟩, h3⟩, h4⟩ := h
          have em := of_decide_eq_true h1
          subst em
          obtain ⟨x, p, rfl⟩ := isNm_ok h3
          exact q_upp rfl h2 (snd_e a g h4)
        | _ :: _, _, h => cases h
        | [], _ :: _, h => cases h
      | _ => cases h
    | _ => cases h
  | .tdsp ks es, X, Ex0, e, g, h => by
    cases e with
    | Dict keys values dp =>
      simp only [chkE, Bool.and_eq_true] at h
      obtain ⟨⟨⟨h1, h2⟩, h3⟩, h4⟩ := h
      obtain ⟨p1, p2, p3, p4⟩ := snd_ds es g h1
      exact q_tdsp p1 p2 p3 (of_decide_eq_true h2) (of_decide_eq_true h3) (of_decide_eq_true h4) (by rw [p4]; exact of_decide_eq_true h3)
    | _ => cases h
  | .tget i a, X, Ex0, e, g, h => by
    cases e with
    | Subscript l r pos =>
      simp only [chkE, Bool.and_eq_true] at h
      obtain ⟨⟨h1, h2⟩, h3⟩ := h
      obtain ⟨x, p, rfl, q1, q2, q3⟩ := isNmAt_ok h1
      unfold nameOk at q3
      rw [Bool.and_eq_true] at q3
      exact q_tget (by have := g.hu; omega) (pe_var q1 (visB_of q2) (by simpa using q3.1) (by simpa using q3.2)) (snd_e a g h2) (plain_of h3)
    | _ => cases h
  | .fnd z a, X, Ex0, e, g, h => by
    cases e with
    | Call f as ks cp =>
      cases f with
      | Attribute l m ap =>
        match as, ks, h with
        | [b], [], h =>
          simp only [chkE, Bool.and_eq_true] at h
          obtain ⟨⟨⟨⟨h1, h2⟩, h3⟩, h4⟩, h5⟩ := h
          have em := of_decide_eq_true h1
          subst em
          obtain ⟨k, p, rfl⟩ := isTx_ok h3
          exact q_fnd h2 (star_of h4 _ _) (snd_e a g h5)
        | [], _, h => cases h
        | _ :: _ :: _, _, h => cases h
        | [_], _ :: _, h => cases h
      | _ => cases h
    | _ => cases h
  | .jn z a, X, Ex0, e, g, h => by
    cases e with
    | Call f as ks cp =>
      cases f with
      | Attribute l m ap =>
        match as, ks, h with
        | [b], [], h =>
          simp only [chkE, Bool.and_eq_true] at h
          obtain ⟨⟨⟨⟨⟨h1, h2⟩, h3⟩, h4⟩, h5⟩, h6⟩ := h
          have em := of_decide_eq_true h1
          subst em
          obtain ⟨k, p, rfl⟩ := isTx_ok h3
          exact q_jn h6 h2 (star_of h4 _ _) (snd_e a g h5)
        | [], _, h => cases h
        | _ :: _ :: _, _, h => cases h
        | [_], _ :: _, h => cases h
      | _ => cases h
    | _ => cases h
  | .sidx z a, X, Ex0, e, g, h => by
    cases e with
    | Call f as ks cp =>
      cases f with
      | Attribute l m ap =>
        match as, ks, h with
        | [b], [], h =>
          simp only [chkE, Bool.and_eq_true] at h
          obtain ⟨⟨⟨⟨h1, h2⟩, h3⟩, h4⟩, h5⟩ := h
          have em := of_decide_eq_true h1
          subst em
          obtain ⟨k, p, rfl⟩ := isTx_ok h3
          exact q_sidx h2 (star_of h4 _ _) (snd_e a g h5)
        | [], _, h => cases h
        | _ :: _ :: _, _, h => cases h
        | [_], _ :: _, h => cases h
      | _ => cases h
    | _ => cases h
  | .scnt a z, X, Ex0, e, g, h => by
    cases e with
    | Call f as ks cp =>
      cases f with
      | Attribute l m ap =>
        match as, ks, h with
        | [b], [], h =>
          simp only [chkE, Bool.and_eq_true] at h
          obtain ⟨⟨⟨⟨h1, h2⟩, h3⟩, h4⟩, h5⟩ := h
          have em := of_decide_eq_true h1
          subst em
          obtain ⟨x, p, rfl⟩ := isNm_ok h3
          obtain ⟨k, p, rfl⟩ := isTx_ok h4
          exact q_scnt rfl h2 (snd_e a g h5)
        | [], _, h => cases h
        | _ :: _ :: _, _, h => cases h
        | [_], _ :: _, h => cases h
      | _ => cases h
    | _ => cases h
  | .din n kvs a, X, Ex0, e, g, h => by cases e <;> cases h
  | .stp a k, X, Ex0, e, g, h => by
    cases e with
    | Subscript l r pos =>
      cases r with
      | Slice lo hi st p3 =>
        match lo, hi, st, h with
        | none, none, some r, h =>
          simp only [chkE, Bool.and_eq_true] at h
          exact q_stp (snd_e a g h.1) (snd_e k g h.2)
        | some _, _, _, h => cases h
        | none, some _, _, h => cases h
        | none, none, none, h => cases h
      | _ => cases h
    | _ => cases h
  | .dget kvs a, X, Ex0, e, g, h => by
    cases e with
    | Subscript l r pos =>
      cases l with
      | Name x p =>
        simp only [chkE, Bool.and_eq_true] at h
        obtain ⟨⟨⟨h1, h2⟩, h3⟩, h4⟩ := h
        obtain ⟨g1, g2, g3⟩ := glB_of h1
        cases q : G.dcts.lookup x with
        | none => rw [q] at h2; cases h2
        | some kvs' =>
          rw [q] at h2
          have e : kvs = kvs' := eqKD_eq h2
          subst e
          obtain ⟨d, m, dk⟩ := g.dct x kvs q
          exact q_dget (pe_glob g1 m rfl g2) dk (snd_e a g h3) (plain_of h4)
      | _ => cases h
    | _ => cases h
  | .dsel ks es a, X, Ex0, e, g, h => by
    cases e with
    | Subscript l r pos =>
      cases l with
      | Dict keys values dp =>
        simp only [chkE, Bool.and_eq_true] at h
        obtain ⟨⟨⟨⟨⟨h1, h2⟩, h3⟩, h4⟩, h5⟩, h6⟩ := h
        obtain ⟨p1, p2, p3, p4⟩ := snd_ds es g h1 (pos := dp)
        exact q_dsel (by have := g.hu; omega) p1 p2 p3 (of_decide_eq_true h2) (of_decide_eq_true h3) (of_decide_eq_true h4) (by rw [p4]; exact of_decide_eq_true h3) (snd_e a g h5) (plain_of h6)
      | _ => cases h
    | _ => cases h
  | .lensi a, X, Ex0, e, g, h => by
    cases e with
    | Call f xs ks pos =>
      cases f with
      | Name x p =>
        match xs, ks, h with
        | [e2], [], h =>
          cases e2 with
          | Call f2 xs2 ks2 q =>
            cases f2 with
            | Name y p2 =>
              match xs2, ks2, h with
              | [l], [], h =>
                simp only [chkE, Bool.and_eq_true] at h
                have ex : x = "len" := of_decide_eq_true h.1.1.1.1.1
                subst ex
                have ey : y = "set" := of_decide_eq_true h.1.1.1.1.2
                subst ey
                exact q_lensi g.calm (glB_of h.1.1.1.2).1 (g.blt _ (by decide +kernel)) (glB_of h.1.1.2).1 (g.blt _ (by decide +kernel)) (snd_e a g h.2) (star_of h.1.2 _ _)
              | [], _, h => cases h
              | _ :: _ :: _, _, h => simp [chkE] at h
              | [_], _ :: _, h => simp [chkE] at h
            | _ => cases h
          | _ => cases h
        | [], _, h => cases h
        | _ :: _ :: _, _, h => simp [chkE] at h
        | [_], _ :: _, h => simp [chkE] at h
      | _ => cases h
    | _ => cases h
  | .mhas i a, X, Ex0, e, g, h => pe_bad fun ρ => by rw [ev]
  | .ssi a, X, Ex0, e, g, h => by
    cases e with
    | Call f xs ks pos =>
      cases f with
      | Name x p =>
        match xs, ks, h with
        | [e2], [], h =>
          cases e2 with
          | Call f2 xs2 ks2 q =>
            cases f2 with
            | Name y p2 =>
              match xs2, ks2, h with
              | [l], [], h =>
                simp only [chkE, Bool.and_eq_true] at h
                have ex : x = "sorted" := of_decide_eq_true h.1.1.1.1.1
                subst ex
                have ey : y = "set" := of_decide_eq_true h.1.1.1.1.2
                subst ey
                exact q_ssi g.calm (glB_of h.1.1.1.2).1 (g.blt _ (by decide +kernel)) (glB_of h.1.1.2).1 (g.blt _ (by decide +kernel)) (snd_e a g h.2) (star_of h.1.2 _ _)
              | [], _, h => cases h
              | _ :: _ :: _, _, h => simp [chkE] at h
              | [_], _ :: _, h => simp [chkE] at h
            | _ => cases h
          | _ => cases h
        | [], _, h => cases h
        | _ :: _ :: _, _, h => simp [chkE] at h
        | [_], _ :: _, h => simp [chkE] at h
      | _ => cases h
    | _ => cases h
  | .ndl a, X, Ex0, e, g, h => by
    cases e with
    | Call f xs ks pos =>
      cases f with
      | Name x p =>
        match xs, ks, h with
        | [e2], [], h =>
          cases e2 with
          | Call f2 xs2 ks2 q =>
            cases f2 with
            | Name y p2 =>
              match xs2, ks2, h with
              | [l], [], h =>
                simp only [chkE, Bool.and_eq_true] at h
                have ex : x = "len" := of_decide_eq_true h.1.1.1.1.1
                subst ex
                have ey : y = "set" := of_decide_eq_true h.1.1.1.1.2
                subst ey
                exact q_ndl g.calm g.hu (glB_of h.1.1.1.2).1 (g.blt _ (by decide +kernel)) (glB_of h.1.1.2).1 (g.blt _ (by decide +kernel)) (snd_e a g h.2) (star_of h.1.2 _ _)
              | [], _, h => cases h
              | _ :: _ :: _, _, h => simp [chkE] at h
              | [_], _ :: _, h => simp [chkE] at h
            | _ => cases h
          | _ => cases h
        | [], _, h => cases h
        | _ :: _ :: _, _, h => simp [chkE] at h
        | [_], _ :: _, h => simp [chkE] at h
      | _ => cases h
    | _ => cases h
  | .nds a, X, Ex0, e, g, h => by
    cases e with
    | Call f xs ks pos =>
      cases f with
      | Name x p =>
        match xs, ks, h with
        | [e2], [], h =>
          cases e2 with
          | Call f2 xs2 ks2 q =>
            cases f2 with
            | Name y p2 =>
              match xs2, ks2, h with
              | [l], [], h =>
                simp only [chkE, Bool.and_eq_true] at h
                have ex : x = "sorted" := of_decide_eq_true h.1.1.1.1.1
                subst ex
                have ey : y = "set" := of_decide_eq_true h.1.1.1.1.2
                subst ey
                exact q_nds g.calm g.hu (glB_of h.1.1.1.2).1 (g.blt _ (by decide +kernel)) (glB_of h.1.1.2).1 (g.blt _ (by decide +kernel)) (snd_e a g h.2) (star_of h.1.2 _ _)
              | [], _, h => cases h
              | _ :: _ :: _, _, h => simp [chkE] at h
              | [_], _ :: _, h => simp [chkE] at h
            | _ => cases h
          | _ => cases h
        | [], _, h => cases h
        | _ :: _ :: _, _, h => simp [chkE] at h
        | [_], _ :: _, h => simp [chkE] at h
      | _ => cases h
    | _ => cases h
  | .cnt o a, X, Ex0, e, g, h => by
    cases e with
    | Call f as ks cp =>
      cases f with
      | Attribute l m ap =>
        match as, ks, h with
        | [b], [], h =>
          simp only [chkE, Bool.and_eq_true] at h
          obtain ⟨⟨⟨⟨⟨h1, h2⟩, h3⟩, h4⟩, h5⟩, h6⟩ := h
          have em := of_decide_eq_true h1
          subst em
          obtain ⟨x, p, rfl⟩ := isNm_ok h3
          exact q_cnt rfl h2 (star_of h4 _ _) (snd_e o g h5) (snd_e a g h6)
        | [], _, h => cases h
        | _ :: _ :: _, _, h => cases h
        | [_], _ :: _, h => cases h
      | _ => cases h
    | _ => cases h
termination_by x => (sizeOf x, 0)
theorem snd_es {CX : CXT} {cl : Nat → Value} {C : Nat → List R → Rs R} {G : Gi} : ∀ (xs : Exs) {X : Cx} {Ex0 : XK} {es : List Expr}, GOk X CX Ex0 cl C G → chkEs G X.N X.env.scope xs es = true →
    PA X es (tOfA X.K (fun c H' => Ex0 (cl c) none H') (evs C xs)) ∧ ∀ y ys, es = y :: ys → starEach (y :: ys) X.env = (false, eval y X.env) :: starEach ys X.env ∧ ∀ {pos : Pos}, (backTo pos (starEach ys X.env)).any (·.1) = false
  | .nil, X, Ex0, es, g, h => by
    cases es with
    | nil => exact ⟨q_nil, fun y ys q => by cases q⟩
    | cons _ _ => cases h
  | .cons x xs, X, Ex0, es, g, h => by
    cases es with
    | nil => cases h
    | cons y ys =>
      simp only [chkEs, Bool.and_eq_true] at h
      obtain ⟨h1, h2⟩ := snd_es xs g h.2
      refine ⟨q_cons (snd_e x g h.1.1) h1 (star_of h.1.2 _ _), fun z zs q => ?_⟩
      cases q
      exact ⟨star_of h.1.2 _ _, fun {pos} => back_of _ pos (chkEs_star h.2)⟩
termination_by x => (sizeOf x, 0)
theorem snd_ds {CX : CXT} {cl : Nat → Value} {C : Nat → List R → Rs R} {G : Gi} : ∀ (xs : Exs) {X : Cx} {Ex0 : XK} {ks : List Str} {keys : List (Option Expr)} {values : List Expr} {pos : Pos}, GOk X CX Ex0 cl C G → chkDs G X.N X.env.scope ks xs keys values = true →
    PairsOk X (fun c H' => Ex0 (cl c) none H') C pos ks xs keys values ∧ keys.all (·.isSome) = true ∧ keys.length = values.length ∧ ks.length = keys.length
  | .nil, X, Ex0, ks, keys, values, pos, g, h => by
    match ks, keys, values, h with
    | [], [], [], _ => exact ⟨pairs_nil, rfl, rfl, rfl⟩
    | _ :: _, _, _, h => simp [chkDs] at h
    | [], _ :: _, _, h => simp [chkDs] at h
    | [], [], _ :: _, h => simp [chkDs] at h
  | .cons x xs, X, Ex0, ks, keys, values, pos, g, h => by
    match ks, keys, values, h with
    | k :: ks, some (.Constant (.str k') kk kp) :: keys, v :: values, h =>
      simp only [chkDs, Bool.and_eq_true] at h
      obtain ⟨⟨h1, h2⟩, h3⟩ := h
      have e := of_decide_eq_true h1
      subst e
      obtain ⟨p1, p2, p3, p4⟩ := snd_ds xs g h3 (pos := pos)
      exact ⟨pairs_cons (snd_e x g h2) p1, by simpa using p2, by simp [p3], by simp [p4]⟩
    | [], _, _, h => simp [chkDs] at h
    | _ :: _, [], _, h => simp [chkDs] at h
    | _ :: _, none :: _, _, h => simp [chkDs] at h
    | _ :: _, some e :: _, [], h => cases e <;> simp [chkDs] at h
    | k :: ks, some e :: keys, v :: values, h =>
      cases e with
      | Constant c kk kp =>
        cases c with
        | str k' =>
          simp only [chkDs, Bool.and_eq_true] at h
          obtain ⟨⟨h1, h2⟩, h3⟩ := h
          have e := of_decide_eq_true h1
          subst e
          obtain ⟨p1, p2, p3, p4⟩ := snd_ds xs g h3 (pos := pos)
          exact ⟨pairs_cons (snd_e x g h2) p1, by simpa using p2, by simp [p3], by simp [p4]⟩
        | _ => simp [chkDs] at h
      | _ => simp [chkDs] at h
termination_by x => (sizeOf x, 0)
theorem snd_o {CX : CXT} {cl : Nat → Value} {C : Nat → List R → Rs R} {G : Gi} : ∀ (xs : Exs) {X : Cx} {Ex0 : XK} {e : Option Expr}, GOk X CX Ex0 cl C G → chkO G X.N X.env.scope xs e = true →
    PO X e (tOfO X.K (fun c H' => Ex0 (cl c) none H') fun ρ => evs C xs ρ >>= optI)
  | .nil, X, Ex0, e, g, h => by
    cases e with
    | none => exact q_onone
    | some _ => cases h
  | .cons x .nil, X, Ex0, e, g, h => by
    cases e with
    | none => cases h
    | some e => exact q_osome (snd_e x g (by simpa only [chkO] using h))
  | .cons x (.cons y z), X, Ex0, e, g, h => by cases e <;> cases h
termination_by x => (sizeOf x, 0)
theorem snd_i {CX : CXT} {cl : Nat → Value} {C : Nat → List R → Rs R} {G : Gi} : ∀ (it : It) {X : Cx} {Ex0 : XK} {tg e : Expr}, GOk X CX Ex0 cl C G → chkI G X.N X.env.scope it tg e = true →
    PI X tg e (tOfI X.K (fun c H' => Ex0 (cl c) none H') (evI C it))
  | .seq x, X, Ex0, tg, e, g, h => q_seq (snd_e x g (by simpa only [chkI] using h))
  | .rng1 x, X, Ex0, tg, e, g, h => by
    cases e with
    | Call f xs ks pos =>
      cases f with
      | Name r p =>
        match xs, ks, h with
        | [a], [], h =>
          simp only [chkI, Bool.and_eq_true] at h
          have er : r = "range" := of_decide_eq_true h.1.1.1
          subst er
          exact q_rng1 (glB_of h.1.1.2).1 (g.blt _ (by decide +kernel)) (snd_e x g h.1.2) (star_of h.2 _ _)
        | [], _, h => cases h
        | _ :: _ :: _, _, h => cases h
        | [_], _ :: _, h => cases h
      | _ => cases h
    | _ => cases h
  | .rng2 x y, X, Ex0, tg, e, g, h => by
    cases e with
    | Call f xs ks pos =>
      cases f with
      | Name r p =>
        match xs, ks, h with
        | [a, b], [], h =>
          simp only [chkI, Bool.and_eq_true] at h
          have er : r = "range" := of_decide_eq_true h.1.1.1.1.1
          subst er
          exact q_rng2 (glB_of h.1.1.1.1.2).1 (g.blt _ (by decide +kernel)) (snd_e x g h.1.1.1.2) (snd_e y g h.1.1.2) (by rw [star_of h.1.2, star_of h.2]; rfl) (star_of h.2 _ _)
        | [], _, h => cases h
        | [_], _, h => cases h
        | _ :: _ :: _ :: _, _, h => cases h
        | [_, _], _ :: _, h => cases h
      | _ => cases h
    | _ => cases h
  | .enum x, X, Ex0, tg, e, g, h => by
    cases tg with
    | Tuple elts kk tpos =>
      cases e with
      | Call f xs ks pos =>
        cases f with
        | Name r p =>
          match xs, ks, h with
          | [a], [], h =>
            simp only [chkI, Bool.and_eq_true] at h
            have er : r = "enumerate" := of_decide_eq_true h.1.1.1
            subst er
            exact q_enum (glB_of h.1.1.2).1 (g.blt _ (by decide +kernel)) (snd_e x g h.1.2) (star_of h.2 _ _)
          | [], _, h => cases h
          | _ :: _ :: _, _, h => cases h
          | [_], _ :: _, h => cases h
        | _ => cases h
      | _ => cases h
    | _ => cases h
  | .zip x y, X, Ex0, tg, e, g, h => by
    cases tg with
    | Tuple elts kk tpos =>
      cases e with
      | Call f xs ks pos =>
        cases f with
        | Name r p =>
          match xs, ks, h with
          | [a, b], [], h =>
            simp only [chkI, Bool.and_eq_true] at h
            have er : r = "zip" := of_decide_eq_true h.1.1.1.1.1
            subst er
            exact q_zip (glB_of h.1.1.1.1.2).1 (g.blt _ (by decide +kernel)) (snd_e x g h.1.1.1.2) (snd_e y g h.1.1.2) (star_of h.1.2 _ _) (star_of h.2 _ _)
          | [], _, h => cases h
          | [_], _, h => cases h
          | _ :: _ :: _ :: _, _, h => cases h
          | [_, _], _ :: _, h => cases h
        | _ => cases h
      | _ => cases h
    | _ => cases h
  | .dks kvs, X, Ex0, tg, e, g, h => by
    cases e with
    | Name x p =>
      simp only [chkI, Bool.and_eq_true] at h
      obtain ⟨⟨h1, h2⟩, h3⟩ := h
      obtain ⟨g1, g2, g3⟩ := glB_of h1
      cases q : G.dcts.lookup x with
      | none => rw [q] at h2; cases h2
      | some kvs' =>
        rw [q] at h2
        have e : kvs = kvs' := eqKD_eq h2
        subst e
        obtain ⟨d, m, dk⟩ := g.dct x kvs q
        exact q_dks (pe_glob g1 m rfl g2) dk h3
    | _ => cases tg <;> cases h
termination_by x => (sizeOf x, 0)
theorem snd_t {CX : CXT} {cl : Nat → Value} {C : Nat → List R → Rs R} {G : Gi} : ∀ (x : Ex) {X : Cx} {Ex0 : XK} {e : Expr}, GOk X CX Ex0 cl C G → chkE G X.N X.env.scope x e = true → PT X e (tOfT X.K (fun c H' => Ex0 (cl c) none H') (evT C x))
  | .and a b, X, Ex0, e, g, h => by
    cases e with
    | BoolOp op vs pos => exact (snd_w (.and a b) g h).pt
    | _ => cases h
  | .or a b, X, Ex0, e, g, h => by
    cases e with
    | BoolOp op vs pos => exact (snd_w (.or a b) g h).pt
    | _ => cases h
  | .not a, X, Ex0, e, g, h => by
    cases e with
    | UnaryOp op l pos =>
      cases op with
      | Not => exact q_notT (snd_t a g (by simpa only [chkE] using h))
      | _ => cases h
    | _ => cases h
  | .cmp o a b, X, Ex0, e, g, h => by
    cases e with
    | Compare l ops rs pos =>
      match ops, rs, h with
      | [op], [r], h =>
        simp only [chkE, Bool.and_eq_true] at h
        have e : cmOf o = op := of_decide_eq_true h.1.1.1
        subst e
        exact q_cmpTE g.hu o (snd_e a g h.1.1.2) (snd_e b g h.1.2) (marks_of h.2 _)
      | [], _, h => cases h
      | [_], [], h => cases h
      | [_], _ :: _ :: _, h => cases h
      | _ :: _ :: _, _, h => cases h
    | _ => cases h
  | .chn o p a b c, X, Ex0, e, g, h => by
    cases e with
    | Compare l ops rs pos =>
      match ops, rs, h with
      | [op, op'], [r, s], h =>
        simp only [chkE, Bool.and_eq_true] at h
        have e : cmOf o = op := of_decide_eq_true h.1.1.1.1.1
        have e' : cmOf p = op' := of_decide_eq_true h.1.1.1.1.2
        subst e
        subst e'
        exact q_chnT g.hu o p (snd_e a g h.1.1.1.2) (snd_e b g h.1.1.2) (snd_e c g h.1.2) (marks_of h.2 _)
      | [], _, h => cases h
      | [_], _, h => cases h
      | [_, _], [], h => cases h
      | [_, _], [_], h => cases h
      | [_, _], _ :: _ :: _ :: _, h => cases h
      | _ :: _ :: _ :: _, _, h => cases h
    | _ => cases h
  | .var i, X, Ex0, e, g, h => by
    cases e with
    | Name x pos =>
      have := q_truth (snd_e (.var i) g h) (fun _ => rfl)
      have e2 : evT C (.var i) = fun ρ => ev C (.var i) ρ >>= fun x => truR x := by funext ρ; rw [evT.eq_6, ev.eq_1]
      rw [e2]
      exact this
    | _ => cases h
  | .idx a b, X, Ex0, e, g, h => by
    cases e with
    | Subscript l r pos =>
      have := q_truth (snd_e (.idx a b) g h) (fun _ => rfl)
      have e2 : evT C (.idx a b) = fun ρ => ev C (.idx a b) ρ >>= fun x => truR x := by funext ρ; rw [evT.eq_7, ev.eq_13]
      rw [e2]
      exact this
    | _ => cases h
  | .call n es, X, Ex0, e, g, h => by
    cases e with
    | Call f xs ks pos =>
      have := q_truth (snd_e (.call n es) g h) (fun _ => rfl)
      have e2 : evT C (.call n es) = fun ρ => ev C (.call n es) ρ >>= fun x => truR x := by funext ρ; rw [evT.eq_8, ev.eq_16]
      rw [e2]
      exact this
    | _ => cases h
  | .blt f es, X, Ex0, e, g, h => by
    cases e with
    | Call fn xs ks pos =>
      have := q_truth (snd_e (.blt f es) g h) (fun _ => rfl)
      have e2 : evT C (.blt f es) = fun ρ => ev C (.blt f es) ρ >>= fun x => truR x := by funext ρ; rw [evT.eq_9, ev.eq_17]
      rw [e2]
      exact this
    | _ => cases h
  | .isi2 t u a, X, Ex0, e, g, h => by
    cases e with
    | Call fn xs ks pos =>
      have := q_truth (snd_e (.isi2 t u a) g h) (fun _ => rfl)
      have e2 : evT C (.isi2 t u a) = fun ρ => ev C (.isi2 t u a) ρ >>= fun x => truR x := by
        funext ρ
        rw [evT.eq_11, ev.eq_19]
        cases ev C a ρ with
        | bad => rfl
        | err c => rfl
        | ok x =>
          show isiR [t, u] x = (boolR (isiR [t, u] x) >>= fun x => truR x)
          cases isiR [t, u] x <;> rfl
      rw [e2]
      exact this
    | _ => cases h
  | .isi t a, X, Ex0, e, g, h => by
    cases e with
    | Call fn xs ks pos =>
      have := q_truth (snd_e (.isi t a) g h) (fun _ => rfl)
      have e2 : evT C (.isi t a) = fun ρ => ev C (.isi t a) ρ >>= fun x => truR x := by
        funext ρ
        rw [evT.eq_10, ev.eq_18]
        cases ev C a ρ with
        | bad => rfl
        | err c => rfl
        | ok x =>
          show isiR [t] x = (boolR (isiR [t] x) >>= fun x => truR x)
          cases isiR [t] x <;> rfl
      rw [e2]
      exact this
    | _ => cases h
  | .cst d, X, Ex0, e, g, h => pt_bad fun ρ => by rfl
  | .tup es, X, Ex0, e, g, h => pt_bad fun ρ => by rfl
  | .lst es, X, Ex0, e, g, h => pt_bad fun ρ => by rfl
  | .bin o a b, X, Ex0, e, g, h => pt_bad fun ρ => by rfl
  | .neg a, X, Ex0, e, g, h => pt_bad fun ρ => by rfl
  | .ite c a b, X, Ex0, e, g, h => pt_bad fun ρ => by rfl
  | .slc a lo hi, X, Ex0, e, g, h => pt_bad fun ρ => by rfl
  | .rev a, X, Ex0, e, g, h => pt_bad fun ρ => by rfl
  | .lc t it x, X, Ex0, e, g, h => pt_bad fun ρ => by rfl
  | .lcf t it c x, X, Ex0, e, g, h => pt_bad fun ρ => by rfl
  | .lenset a, X, Ex0, e, g, h => pt_bad fun ρ => by rfl
  | .mget i es, X, Ex0, e, g, h => pt_bad fun ρ => by rfl
  | .upp a, X, Ex0, e, g, h => pt_bad fun ρ => by rfl
  | .lensi a, X, Ex0, e, g, h => pt_bad fun ρ => by rfl
  | .dsel ks es a, X, Ex0, e, g, h => pt_bad fun ρ => by rfl
  | .stp a k, X, Ex0, e, g, h => pt_bad fun ρ => by rfl
  | .fnd z a, X, Ex0, e, g, h => pt_bad fun ρ => by rfl
  | .tdsp ks es, X, Ex0, e, g, h => pt_bad fun ρ => by rfl
  | .tget i a, X, Ex0, e, g, h => pt_bad fun ρ => by rfl
  | .ssi a, X, Ex0, e, g, h => pt_bad fun ρ => by rfl
  | .ndl a, X, Ex0, e, g, h => pt_bad fun ρ => by rfl
  | .nds a, X, Ex0, e, g, h => pt_bad fun ρ => by rfl
  | .cnt o a, X, Ex0, e, g, h => pt_bad fun ρ => by rfl
  | .jn z a, X, Ex0, e, g, h => pt_bad fun ρ => by rfl
  | .sidx z a, X, Ex0, e, g, h => pt_bad fun ρ => by rfl
  | .scnt a z, X, Ex0, e, g, h => pt_bad fun ρ => by rfl
  | .mhas i a, X, Ex0, e, g, h => by
    cases e with
    | Compare l ops rs pos =>
      match ops, rs, h with
      | [op], [r], h =>
        simp only [chkE, Bool.and_eq_true] at h
        have eo := of_decide_eq_true h.1.1
        subst eo
        obtain ⟨x, p, rfl, q1, q2, q3⟩ := isNmAt_ok h.2
        unfold nameOk at q3
        rw [Bool.and_eq_true] at q3
        exact q_mhas (by have := g.hu; omega) (pe_var q1 (visB_of q2) (by simpa using q3.1) (by simpa using q3.2)) (snd_e a g h.1.2)
      | [], _, h => cases h
      | [_], [], h => cases h
      | [_], _ :: _ :: _, h => cases h
      | _ :: _ :: _, _, h => cases h
    | _ => cases h
  | .din n kvs a, X, Ex0, e, g, h => by cases e <;> cases h
  | .dget kvs a, X, Ex0, e, g, h => pt_bad fun ρ => by rfl
termination_by x => (sizeOf x, 2)
theorem snd_w {CX : CXT} {cl : Nat → Value} {C : Nat → List R → Rs R} {G : Gi} : ∀ (x : Ex) {X : Cx} {Ex0 : XK} {op : BoolOp} {vs : List Expr} {pos : Pos}, GOk X CX Ex0 cl C G → chkE G X.N X.env.scope x (.BoolOp op vs pos) = true → PW X (.BoolOp op vs pos) (tOfT X.K (fun c H' => Ex0 (cl c) none H') (evT C x))
  | .and a b, X, Ex0, op, vs, pos, g, h => by
    cases op with
    | And =>
      match vs, h with
      | [l, r], h =>
        simp only [chkE, Bool.and_eq_true] at h
        exact q_andT (snd_t a g h.1) (pw_and1 (snd_t b g h.2))
      | l :: r :: s :: t, h =>
        simp only [chkE, Bool.and_eq_true] at h
        exact q_andT (snd_t a g h.1) (snd_w b g h.2)
      | [], h => cases h
      | [_], h => cases h
    | Or => cases h
  | .or a b, X, Ex0, op, vs, pos, g, h => by
    cases op with
    | Or =>
      match vs, h with
      | [l, r], h =>
        simp only [chkE, Bool.and_eq_true] at h
        exact q_orT (snd_t a g h.1) (pw_or1 (snd_t b g h.2))
      | l :: r :: s :: t, h =>
        simp only [chkE, Bool.and_eq_true] at h
        exact q_orT (snd_t a g h.1) (snd_w b g h.2)
      | [], h => cases h
      | [_], h => cases h
    | And => cases h
  | .var i, X, Ex0, op, vs, pos, g, h => by cases h
  | .cst d, X, Ex0, op, vs, pos, g, h => by cases h
  | .tup es, X, Ex0, op, vs, pos, g, h => by cases h
  | .lst es, X, Ex0, op, vs, pos, g, h => by cases h
  | .bin o a b, X, Ex0, op, vs, pos, g, h => by cases h
  | .neg a, X, Ex0, op, vs, pos, g, h => by cases h
  | .cmp o a b, X, Ex0, op, vs, pos, g, h => by cases h
  | .chn o p a b c, X, Ex0, op, vs, pos, g, h => by cases h
  | .not a, X, Ex0, op, vs, pos, g, h => by cases h
  | .ite c a b, X, Ex0, op, vs, pos, g, h => by cases h
  | .idx a b, X, Ex0, op, vs, pos, g, h => by cases h
  | .slc a lo hi, X, Ex0, op, vs, pos, g, h => by cases h
  | .rev a, X, Ex0, op, vs, pos, g, h => by cases h
  | .call n es, X, Ex0, op, vs, pos, g, h => by cases h
  | .blt f es, X, Ex0, op, vs, pos, g, h => by cases h
  | .isi t a, X, Ex0, op, vs, pos, g, h => by cases h
  | .isi2 t u a, X, Ex0, op, vs, pos, g, h => by cases h
  | .lc t it x, X, Ex0, op, vs, pos, g, h => by cases h
  | .lcf t it c x, X, Ex0, op, vs, pos, g, h => by cases h
  | .lenset a, X, Ex0, op, vs, pos, g, h => by cases h
  | .mget i es, X, Ex0, op, vs, pos, g, h => by cases h
  | .upp a, X, Ex0, op, vs, pos, g, h => by cases h
  | .lensi a, X, Ex0, op, vs, pos, g, h => by cases h
  | .dsel ks es a, X, Ex0, op, vs, pos, g, h => by cases h
  | .stp a k, X, Ex0, op, vs, pos, g, h => by cases h
  | .fnd z a, X, Ex0, op, vs, pos, g, h => by cases h
  | .tdsp ks es, X, Ex0, op, vs, pos, g, h => by cases h
  | .tget i a, X, Ex0, op, vs, pos, g, h => by cases h
  | .mhas i a, X, Ex0, op, vs, pos, g, h => by cases h
  | .ssi a, X, Ex0, op, vs, pos, g, h => by cases h
  | .ndl a, X, Ex0, op, vs, pos, g, h => by cases h
  | .nds a, X, Ex0, op, vs, pos, g, h => by cases h
  | .cnt o a, X, Ex0, op, vs, pos, g, h => by cases h
  | .jn z a, X, Ex0, op, vs, pos, g, h => by cases h
  | .sidx z a, X, Ex0, op, vs, pos, g, h => by cases h
  | .scnt a z, X, Ex0, op, vs, pos, g, h => by cases h
  | .din n kvs a, X, Ex0, op, vs, pos, g, h => by cases h
  | .dget kvs a, X, Ex0, op, vs, pos, g, h => by cases h
termination_by x => (sizeOf x, 1)
end
end PP
set_option Elab.async false
set_option linter.all false
set_option autoImplicit false
set_option maxRecDepth 100000
set_option maxHeartbeats 4000000
namespace PP
open PySem L2
/-- a target that is no local name -/
def nonLoc (sc : Scope) : Expr → Bool
  | .Name x _ => !decide (sc.names.lookup x = some .local)
  | _ => true
/-- an assignment of one target that stores in the plain way -/
def plainAsg (sc : Scope) (tg v : Expr) : Bool :=
  (match tg with | .Name x _ => !isComp v || !decide (sc.names.lookup x = some .local) | .Tuple _ _ _ => true | _ => false) &&
  (match tg, v with
    | .Tuple ts _ _, .Tuple _ _ _ => ts.any (nonLoc sc)
    | _, _ => true)
/-- .. of a comprehension, to a name that the comprehension's own frame stores -/
def compAsg (N : List Str) (sc : Scope) (i : Nat) (tg v : Expr) : Bool :=
  match tg, v with
  | .Name y py, .ListComp _ _ scope pos => decide (N[i]? = some y) && decide (sc.names.lookup y = some .local) && (py.line == pos.line) && !(scope.names.any fun (n, k) => n == y && (k == .local || k == .cell))
  | _, _ => false
def chkPar (G : Gi) (N : List Str) (sc : Scope) (i j : Nat) (x y : Ex) (tg v : Expr) : Bool :=
  match tg, v with
  | .Tuple [.Name a pa, .Name b pb] _ _, .Tuple [l, r] _ _ =>
      chkE G N sc x l && chkE G N sc y r && notStar l && notStar r && decide (N[i]? = some a) && decide (N[j]? = some b) && decide (i ≠ j) && decide (sc.names.lookup a = some .local) && decide (sc.names.lookup b = some .local) &&
      (pa.line == pb.line) && !(foldedForSure 8 l && foldedForSure 8 r) && !(constantsAlone 8 l && constantsAlone 8 r)
  | _, _ => false
def chkPut (G : Gi) (N : List Str) (sc : Scope) (i : Nat) (k x : Ex) (tg v : Expr) : Bool :=
  match tg with
  | .Subscript (.Name n _) j _ => decide (N[i]? = some n) && visB sc n && nameOk n && chkE G N sc k j && notSlice j && chkE G N sc x v && !isComp v
  | _ => false
def chkMput (G : Gi) (N : List Str) (sc : Scope) (i : Nat) (ks : Exs) (x : Ex) (tg v : Expr) : Bool :=
  match tg with
  | .Subscript (.Name n _) (.Tuple es _ _) _ => decide (N[i]? = some n) && visB sc n && nameOk n && chkEs G N sc ks es && chkE G N sc x v && !isComp v
  | _ => false
def chkMnew (N : List Str) (sc : Scope) (i : Nat) (tg v : Expr) : Bool :=
  match v with
  | .Dict [] [] _ => chkT N sc (fun _ => true) (.nm i) tg && plainAsg sc tg v
  | _ => false
def chkMade (G : Gi) (sc : Scope) (c : Nat) (f : Expr) (as : List Expr) (ks : List Keyword) : Bool :=
  match f with
  | .Name x _ => glB sc x && decide ((x, c) ∈ G.xns) && (match as with
    | [a] => (match a with
      | .Constant k _ _ => (match k with
        | .str _ => ks.isEmpty
        | _ => false)
      | _ => false)
    | _ => false)
  | _ => false
def chkRse (G : Gi) (sc : Scope) (c : Nat) (v w : Option Expr) : Bool :=
  match v with
  | some e => (match e with
    | .Call f as ks _ => w.isNone && chkMade G sc c f as ks
    | _ => false)
  | none => false
theorem chkMade_ok {G : Gi} {sc : Scope} {c : Nat} {f : Expr} {as : List Expr} {ks : List Keyword} (h : chkMade G sc c f as ks = true) : ∃ x p m j p2, f = .Name x p ∧ as = [.Constant (.str m) j p2] ∧ ks = [] ∧ glB sc x = true ∧ (x, c) ∈ G.xns := by
  unfold chkMade at h
  split at h
  · rename_i x p
    rw [Bool.and_eq_true, Bool.and_eq_true] at h
    obtain ⟨⟨h1, h2⟩, h3⟩ := h
    split at h3
    · rename_i a
      split at h3
      · rename_i k j p2
        split at h3
        · rename_i m
          exact ⟨x, p, m, j, p2, rfl, rfl, List.isEmpty_iff.mp h3, h1, of_decide_eq_true h2⟩
        · cases h3
      · cases h3
    · cases h3
  · cases h
theorem chkRse_ok {G : Gi} {sc : Scope} {c : Nat} {v w : Option Expr} (h : chkRse G sc c v w = true) : ∃ x p m j p2 p3, v = some (.Call (.Name x p) [.Constant (.str m) j p2] [] p3) ∧ w = none ∧ glB sc x = true ∧ (x, c) ∈ G.xns := by
  unfold chkRse at h
  split at h
  · rename_i e
    split at h
    · rename_i f as ks p3
      rw [Bool.and_eq_true] at h
      obtain ⟨x, p, m, j, p2, rfl, rfl, rfl, h1, h2⟩ := chkMade_ok h.2
      exact ⟨x, p, m, j, p2, p3, rfl, Option.isNone_iff_eq_none.mp h.1, h1, h2⟩
    · cases h
  · cases h
def chkWc (sc : Scope) (n : Str) (f : Expr) (as : List Expr) (ks : List Keyword) : Bool :=
  match f with
  | .Name w _ => decide (w = "_law_word") && glB sc w && (match as with
    | [a] => (match a with
      | .Name m _ => decide (n = m) && ks.isEmpty
      | _ => false)
    | _ => false)
  | _ => false
theorem chkWc_ok {sc : Scope} {n : Str} {f : Expr} {as : List Expr} {ks : List Keyword} (h : chkWc sc n f as ks = true) : ∃ p p2, f = .Name "_law_word" p ∧ as = [.Name n p2] ∧ ks = [] ∧ glB sc "_law_word" = true := by
  unfold chkWc at h
  split at h
  · rename_i w p
    rw [Bool.and_eq_true, Bool.and_eq_true] at h
    obtain ⟨⟨h1, h2⟩, h3⟩ := h
    split at h3
    · split at h3
      · rename_i m p2
        rw [Bool.and_eq_true] at h3
        have e1 := of_decide_eq_true h1
        have e2 := of_decide_eq_true h3.1
        subst e1; subst e2
        exact ⟨p, p2, rfl, rfl, List.isEmpty_iff.mp h3.2, h2⟩
      · cases h3
    · cases h3
  · cases h
def chkSu (sc : Scope) (n : Str) (st : Stmt) : Bool :=
  match st with
  | .Return v _ => (match v with
    | some e => (match e with
      | .Call f as ks _ => chkWc sc n f as ks
      | _ => false)
    | none => false)
  | _ => false
theorem chkSu_ok {sc : Scope} {n : Str} {st : Stmt} (h : chkSu sc n st = true) : ∃ p p2 p3 p4, st = .Return (some (.Call (.Name "_law_word" p) [.Name n p2] [] p3)) p4 ∧ glB sc "_law_word" = true := by
  unfold chkSu at h
  split at h
  · rename_i v p4
    split at h
    · split at h
      · rename_i f as ks p3
        obtain ⟨p, p2, rfl, rfl, rfl, h2⟩ := chkWc_ok h
        exact ⟨p, p2, p3, p4, rfl, h2⟩
      · cases h
    · cases h
  · cases h
def chkHd (G : Gi) (N : List Str) (sc : Scope) (i : Nat) (hd : ExceptHandler) : Bool :=
  match hd with
  | .ExceptHandler t n b _ => (match t with
    | some e => (match e with
      | .Name x _ => decide (x = "PaneError") && glB sc x && (match n with
        | some n => decide (N[i]? = some n) && decide (sc.names.lookup n = some .local) && nameOk n && G.word && (match b with
          | [st] => chkSu sc n st
          | _ => false)
        | none => false)
      | _ => false)
    | none => false)
theorem chkHd_ok {G : Gi} {N : List Str} {sc : Scope} {i : Nat} {hd : ExceptHandler} (h : chkHd G N sc i hd = true) : ∃ p1 n p2 p3 p4 p5 p6, hd = .ExceptHandler (some (.Name "PaneError" p1)) (some n) [.Return (some (.Call (.Name "_law_word" p2) [.Name n p3] [] p4)) p5] p6 ∧
    glB sc "PaneError" = true ∧ glB sc "_law_word" = true ∧ N[i]? = some n ∧ sc.names.lookup n = some .local ∧ nameOk n = true ∧ G.word = true := by
  unfold chkHd at h
  obtain ⟨t, n, b, p6⟩ := hd
  simp only at h
  split at h
  · split at h
    · rename_i x p1
      rw [Bool.and_eq_true, Bool.and_eq_true] at h
      obtain ⟨⟨h1, h2⟩, h3⟩ := h
      have e1 := of_decide_eq_true h1
      subst e1
      split at h3
      · rename_i n
        simp only [Bool.and_eq_true] at h3
        obtain ⟨⟨⟨⟨g1, g2⟩, g3⟩, g4⟩, g5⟩ := h3
        split at g5
        · obtain ⟨p2, p3, p4, p5, rfl, g6⟩ := chkSu_ok g5
          exact ⟨p1, n, p2, p3, p4, p5, p6, rfl, h2, g6, of_decide_eq_true g1, of_decide_eq_true g2, g3, g4⟩
        · cases g5
      · cases h3
    · cases h
  · cases h
def chkTry (G : Gi) (N : List Str) (sc : Scope) (i : Nat) (hs : List ExceptHandler) (oe fb : List Stmt) : Bool :=
  oe.isEmpty && fb.isEmpty && (match hs with
    | [hd] => chkHd G N sc i hd
    | _ => false)
theorem chkTry_ok {G : Gi} {N : List Str} {sc : Scope} {i : Nat} {hs : List ExceptHandler} {oe fb : List Stmt} (h : chkTry G N sc i hs oe fb = true) : oe = [] ∧ fb = [] ∧ ∃ hd, hs = [hd] ∧ chkHd G N sc i hd = true := by
  unfold chkTry at h
  rw [Bool.and_eq_true, Bool.and_eq_true] at h
  obtain ⟨⟨h1, h2⟩, h3⟩ := h
  refine ⟨List.isEmpty_iff.mp h1, List.isEmpty_iff.mp h2, ?_⟩
  split at h3
  · exact ⟨_, rfl, h3⟩
  · cases h3
def chkPop (N : List Str) (sc : Scope) (j i : Nat) (tg v : Expr) : Bool :=
  match v with
  | .Call f as ks cp => (match f with
    | .Attribute o m ap => (match as with
      | [a] => (match a with
        | .Constant c _ _ => (match c with
          | .int z => decide (z = 0) && decide (m = "pop") && isNmAt N sc i o && decide (i ≠ j) && ks.isEmpty && (ap.endLine == cp.line) && chkT N sc (fun _ => true) (.nm j) tg && plainAsg sc tg v
          | _ => false)
        | _ => false)
      | _ => false)
    | _ => false)
  | _ => false
mutual
def chkS (G : Gi) (N : List Str) (sc : Scope) : Sm → Stmt → Bool
  | .asg t x, .Assign [tg] v _ => chkE G N sc x v && ((chkT N sc (fun _ => true) t tg && plainAsg sc tg v) || (match t with | .nm i => compAsg N sc i tg v | _ => false))
  | .own i x, .Assign [tg] v _ => chkE G N sc x v && ((chkT N sc (fun _ => true) (.nm i) tg && plainAsg sc tg v) || compAsg N sc i tg v)
  | .par i j x y, .Assign [tg] v _ => chkPar G N sc i j x y tg v
  | .app i x, .Expr (.Call (.Attribute (.Name n _) m ap) [a] [] cp) _ => decide (m = "append") && decide (N[i]? = some n) && visB sc n && nameOk n && chkE G N sc x a && notStar a && (ap.endLine == cp.line)
  | .ext i x, .Expr (.Call (.Attribute (.Name n _) m ap) [a] [] cp) _ => decide (m = "extend") && decide (N[i]? = some n) && visB sc n && nameOk n && chkE G N sc x a && notStar a && (ap.endLine == cp.line)
  | .put i k x, .Assign [tg] v _ => chkPut G N sc i k x tg v
  | .ifs c a b, .If c' p q _ => chkE G N sc c c' && chkB G N sc a p && chkB G N sc b q
  | .for_ t it b, .For tg e p [] _ => chkI G N sc it tg e && chkT N sc (fun _ => true) t tg && notSet e && chkB G N sc b p
  | .whl c b, .While c' p [] _ => chkE G N sc c c' && chkB G N sc b p
  | .ret x, .Return (some v) _ => chkE G N sc x v
  | .rtl i, .Return (some (.Name n _)) _ => decide (N[i]? = some n) && visB sc n && nameOk n
  | .pas, .Pass _ => true
  | .nev, _ => true
  | .exp x, .Expr (.Call (.Name n p) as ks cp) _ => chkE G N sc x (.Call (.Name n p) as ks cp)
  | .mnew i, .Assign [tg] v _ => chkMnew N sc i tg v
  | .mput i ks x, .Assign [tg] v _ => chkMput G N sc i ks x tg v
  | .rtm i, .Return (some (.Name n _)) _ => decide (N[i]? = some n) && visB sc n && nameOk n
  | .mas i x, .Assign [tg] v _ => chkE G N sc x v && chkT N sc (fun _ => true) (.nm i) tg && plainAsg sc tg v
  | .rse c, .Raise v w _ => chkRse G sc c v w
  | .tryw i b, .Try body hs oe fb _ => chkB G N sc b body && chkTry G N sc i hs oe fb
  | .popf j i, .Assign [tg] v _ => chkPop N sc j i tg v
  | _, _ => false
def chkB (G : Gi) (N : List Str) (sc : Scope) : Sms → List Stmt → Bool
  | .nil, [] => true
  | .cons (.frz _) ss, sts => chkB G N sc ss sts
  | .cons s ss, st :: sts => chkS G N sc s st && chkB G N sc ss sts
  | _, _ => false
end
section
variable {X : Cx} {CX : CXT} {Ex0 : XK} {cl : Nat → Value} {C : Nat → List R → Rs R} {G : Gi}
theorem swaps_no {e : Expr} (h : isComp e = false) (t : Option Expr) (l : Nat) (env : Env) : swapsWith e t l env = pure false := by
  cases e <;> first | rfl | cases h
theorem swaps_sole {e t : Expr} {l : Nat} {env : Env} (h : isComp e = false) : swapsWithSole [t] e l env = pure false := swaps_no h (some t) l env
theorem swaps_cell {e : Expr} {x : Str} {p : Pos} {l : Nat} {env : Env} (h : ¬ env.scope.names.lookup x = some .local) : swapsWith e (some (.Name x p)) l env = pure false := by
  have k : (env.kindOf x == some .local) = false := beq_eq_false_iff_ne.mpr h
  cases e <;> first | rfl | (unfold swapsWith; simp only [k, Bool.and_false, Bool.false_and]; done) | (unfold swapsWith; simp only [k, Bool.and_false, Bool.false_and]; rfl)
theorem swapped_some {x y : Str} {px py p p2 : Pos} {a b : Expr} {k k2 : Nat} {env : Env} (hk : env.scope.kind = .function) (hx : env.scope.names.lookup x = some .local) (hy : env.scope.names.lookup y = some .local) (hne : x ≠ y) (hl : (px.line == py.line) = true) (ha : notStar a = true) (hb : notStar b = true)
    (hf : (foldedForSure 8 a && foldedForSure 8 b) = false) (hc : (constantsAlone 8 a && constantsAlone 8 b) = false) : swappedStores [.Tuple [.Name x px, .Name y py] k p] (.Tuple [a, b] k2 p2) env = pure (some [x, y]) := by
  have kx : (env.kindOf x == some .local) = true := beq_iff_eq.mpr hx
  have ky : (env.kindOf y == some .local) = true := beq_iff_eq.mpr hy
  have bk : (env.blockKind != .function) = false := by unfold Env.blockKind; rw [hk]; rfl
  have e1 : (px.line == (Option.map (fun x => x.pos.line) [Expr.Name x px, Expr.Name y py].head?).getD 0) = true := beq_self_eq_true px.line
  have hl' : px.line = py.line := beq_iff_eq.mp hl
  have e2 : (py.line == (Option.map (fun x => x.pos.line) [Expr.Name x px, Expr.Name y py].head?).getD 0) = true := by
    show (py.line == px.line) = true
    rw [hl']
    exact beq_self_eq_true _
  have ed : ([x, y] : List Str).eraseDups = [x, y] := by
    rw [List.eraseDups_cons]
    have : (y == x) = false := beq_eq_false_iff_ne.mpr (Ne.symm hne)
    simp [this, List.filter]
    rw [List.eraseDups_cons]
    rfl
  unfold swappedStores
  dsimp only
  rw [bk, if_neg (by exact Bool.false_ne_true)]
  split
  · rename_i h
    exfalso
    obtain ⟨z, hz, q⟩ := List.any_eq_true.mp h
    rcases List.mem_cons.mp hz with e | hz
    · subst e; cases z <;> first | (cases ha; done) | (cases q; done)
    · rcases List.mem_cons.mp hz with e | hz
      · subst e; cases z <;> first | (cases hb; done) | (cases q; done)
      · cases hz
  simp only [List.filterMap_cons, List.filterMap_nil, kx, ky, e1, e2, Bool.and_self, if_true, ed]
  have af : [a, b].all (foldedForSure 8) = false := by simpa using hf
  have ac : [a, b].all (constantsAlone 8) = false := by simpa using hc
  rw [af, ac]
  rfl
theorem filt_ne {α β : Type} {f : α → Option β} : ∀ {ts : List α}, (∃ t ∈ ts, f t = none) → (ts.filterMap f).length ≠ ts.length
  | t :: ts, h => by
    have hle := List.length_filterMap_le f ts
    rw [List.filterMap_cons]
    cases e : f t with
    | none => simp only [List.length_cons]; omega
    | some y =>
      obtain ⟨u, hu, eu⟩ := h
      have : ∃ t ∈ ts, f t = none := by
        rcases List.mem_cons.mp hu with q | q
        · rw [q, e] at eu; cases eu
        · exact ⟨u, q, eu⟩
      have := filt_ne this
      simp only [List.length_cons]; omega
theorem swapped_none {ts vs : List Expr} {k k2 : Nat} {p p2 : Pos} {env : Env} (h : ts.any (nonLoc env.scope) = true) : swappedStores [.Tuple ts k p] (.Tuple vs k2 p2) env = pure none := by
  unfold swappedStores
  dsimp only
  have hn := filt_ne (ts := ts) (f := fun x => match x with
    | .Name id pos => if (env.kindOf id == some .local && pos.line == (ts.head?.map (·.pos.line)).getD 0) = true then some id else none
    | _ => none) (by
      obtain ⟨t, ht, q⟩ := List.any_eq_true.mp h
      refine ⟨t, ht, ?_⟩
      cases t with
      | Name x px =>
        simp only [nonLoc, Bool.not_eq_true', decide_eq_false_iff_not] at q
        have kx : (env.kindOf x == some .local) = false := beq_eq_false_iff_ne.mpr q
        simp [kx]
      | _ => rfl)
  have hb : ((ts.filterMap fun x => match x with
    | .Name id pos => if (env.kindOf id == some .local && pos.line == (ts.head?.map (·.pos.line)).getD 0) = true then some id else none
    | _ => none).length != ts.length) = true := by simpa using hn
  split
  · rfl
  · split
    · rfl
    · refine if_pos ?_
      rw [Bool.or_eq_true]
      exact .inl hb
theorem plain_ps {tg v : Expr} {te : TE} {gt : TG} {pos : Pos} (h : plainAsg X.env.scope tg v = true) (he : PE X v te) (hg : PG X tg gt) : PS X (.Assign [tg] v pos) (tAsg te gt) := by
  unfold plainAsg at h
  rw [Bool.and_eq_true] at h
  refine ps_asg he hg ?_ ?_ ?_
  · show swapsWith v (some tg) pos.line X.env = pure false
    cases tg with
    | Name x p =>
      have h1 := h.1
      simp only [Bool.or_eq_true, Bool.not_eq_true', decide_eq_false_iff_not] at h1
      rcases h1 with q | q
      · exact swaps_no q _ _ _
      · exact swaps_cell q
    | Tuple es k p => cases v <;> rfl
    | _ => cases h.1
  · cases tg with
    | Name x p => rfl
    | Tuple es k p =>
      cases v with
      | Tuple vs k2 p2 => exact swapped_none h.2
      | _ => rfl
    | _ => cases h.1
  · cases tg with
    | Name x p => rfl
    | Tuple es k p => rfl
    | _ => cases h.1
theorem comp_ps {i : Nat} {tg v : Expr} {x : Ex} {pos : Pos} (g : GOk X CX Ex0 cl C G) (hk : X.env.scope.kind = .function) (h : compAsg X.N X.env.scope i tg v = true) (hx : chkE G X.N X.env.scope x v = true) :
    PS X (.Assign [tg] v pos) (tAsg (tOf X.K (fun c H' => Ex0 (cl c) none H') (ev C x)) (gName i)) := by
  cases tg with
  | Name y py =>
    cases v with
    | ListComp elt gs scope p =>
      simp only [compAsg, Bool.and_eq_true, Bool.not_eq_true'] at h
      have hy := of_decide_eq_true h.1.1.1
      have hyl := of_decide_eq_true h.1.1.2
      cases x with
      | lc t it e =>
        match gs, hx with
        | [⟨tg, iter, [], k⟩], hx =>
          simp only [chkE, Bool.and_eq_true] at hx
          have ek : k = 0 := of_decide_eq_true hx.1.1.1.1.1
          subst ek
          refine q_setLc g.calm g.nd hy hyl (sw_true hk hyl h.1.2 h.2) (snd_i it g hx.1.1.1.1.2) (blkOk_by hx.1.1.1.2) (ownOf_own _ _) (fun s H A cl2 fp => ?_) (fun s H A cl2 fp => ?_) (fold_of hx.2 _)
          · exact pg_chkT (X := X.blk s H scope (compEnvC scope cl2 A X.env) fp) g.calm g.nd (fun x q => q) hx.1.1.2
          · exact snd_e e (g.blk s H scope (compEnvC scope cl2 A X.env) fp) hx.1.2
        | [], hx => cases hx
        | ⟨_, _, _ :: _, _⟩ :: _, hx => simp [chkE] at hx
        | _ :: _ :: _, hx => simp [chkE] at hx
      | lcf t it c e =>
        match gs, hx with
        | [⟨tg, iter, [cnd], k⟩], hx =>
          simp only [chkE, Bool.and_eq_true] at hx
          have ek : k = 0 := of_decide_eq_true hx.1.1.1.1.1.1
          subst ek
          refine q_setLcf g.calm g.nd hy hyl (sw_true hk hyl h.1.2 h.2) (snd_i it g hx.1.1.1.1.1.2) (blkOk_by hx.1.1.1.1.2) (ownOf_own _ _) (fun s H A cl2 fp => ?_) (fun s H A cl2 fp => ?_) (fun s H A cl2 fp => ?_) (fold_of hx.2 _)
          · exact pg_chkT (X := X.blk s H scope (compEnvC scope cl2 A X.env) fp) g.calm g.nd (fun x q => q) hx.1.1.1.2
          · exact snd_t c (g.blk s H scope (compEnvC scope cl2 A X.env) fp) hx.1.1.2
          · exact snd_e e (g.blk s H scope (compEnvC scope cl2 A X.env) fp) hx.1.2
        | [], hx => cases hx
        | ⟨_, _, [], _⟩ :: _, hx => simp [chkE] at hx
        | ⟨_, _, _ :: _ :: _, _⟩ :: _, hx => simp [chkE] at hx
        | _ :: _ :: _, hx => simp [chkE] at hx
      | _ => cases hx
    | _ => cases h
  | _ => cases h
/-- a class that a def raises -/
def XcT (K : PySem.W.Frag) (mg : Str → Option Value) (cl : Nat → Value) (x : Str) (c : Nat) : Prop :=
  ∃ Da : Addr, mg x = some (.ref Da) ∧ cl c = .ref Da ∧ PySem.W.excIn K Da [.type "ValueError", .type "Exception", .type "BaseException", .type "object"] "ValueError.__new__" = true ∧ PySem.W.keepIn K (.ref Da) = true ∧ PySem.W.subIn K (.ref Da) (.type "BaseException") = some true ∧ PySem.W.typeIn K (.ref Da) = some (.type "type")
/-- the law's own def of words, and the classes of which it tells -/
def WordT (K : PySem.W.Frag) (mg : Str → Option Value) (cl : Nat → Value) : Prop :=
  ∃ (cs : Nat → Addr) (Pa f : Addr) (fd : FuncData) (st : Stmt) (q : Nat → Pos), (∀ c, c < 9 → cl c = .ref (cs c) ∧ Xc K mg cs c ∧ PySem.W.exmOne K (.ref (cs c)) (.ref Pa) = some true) ∧ mg "PaneError" = some (.ref Pa) ∧
    Fun K "_law_word" "_law_word" st f fd ∧ mg "_law_word" = some (.ref f) ∧ Binds K fd ["kept"] [] ∧ defBody st = wordB q ∧ defScope st = wordSc ∧
    ((q 68).endLine == (q 73).line) = true ∧ ((q 76).endLine == (q 78).line) = true ∧ ((q 92).endLine == (q 94).line) = true
/-- what a def's body knows besides -/
structure BOk (X : Cx) (CX : CXT) (Ex0 : XK) (cl : Nat → Value) (C : Nat → List R → Rs R) (G : Gi) : Prop where
  g : GOk X CX Ex0 cl C G
  fn : ∀ x, X.fn x = true
  own : PassesOwn (model X.prog X.w) X.A X.env X.xe
  kind : X.env.scope.kind = .function
  cx : CX = L2N.CX X.prog X.w
  tk : L2N.Takes X (fun cls d _ H => Ex0 cls d H)
  stk : X.stack = X.env :: X.outer
  frm : X.env.frame = some X.env.locals
  xc : ∀ x c, (x, c) ∈ G.xns → XcT X.K X.mg cl x c
  wd : G.word = true → WordT X.K X.mg cl ∧ L2H.RoomH 1 X.A
/-- the wish of a try's body, for all slots -/
def ExW (N : List Str) (W : WX) : XK := fun cls d H => ∀ σ : L2.St, σ.length = N.length → W cls d σ H
theorem BOk.tr (b : BOk X CX Ex0 cl C G) {W : WX} {pn : List (Addr × Obj)} {xe : Value → Shared → Prop} (tk : L2N.Takes (X.tr pn xe) W) (ow : PassesOwn (model X.prog X.w) X.A X.env xe) : BOk (X.tr pn xe) CX (ExW X.N W) cl C G := by
  refine ⟨⟨b.g.calm, b.g.nd, b.g.hu, b.g.blt, b.g.cst, b.g.dct, b.g.fn, ?_, b.g.p0⟩, b.fn, ow, b.kind, b.cx, ?_, b.stk, b.frm, b.xc, b.wd⟩
  · intro pins σ H s e s' I c
    rw [b.cx] at c
    exact tk e s' (L2N.XE.of_call (X := X.tr pn xe) I (fun cls d H' h => h σ I.len) c)
  · rintro u s' ⟨a, B, sI, pins, σ, H, cls, d, e, I, nb, up, sky, na, os, ag, w⟩
    exact tk u s' ⟨a, B, sI, pins, σ, H, cls, d, e, I, nb, up, sky, na, os, ag, w σ I.len⟩
theorem s_rse (b : BOk X CX Ex0 cl C G) {c : Nat} {x m : Str} {j : Nat} {p1 p2 p3 p4 : Pos} (hg : glB X.env.scope x = true) (h : (x, c) ∈ G.xns) :
    PS X (.Raise (some (.Call (.Name x p1) [.Constant (.str m) j p2] [] p3)) none p4) (tOfS X.K (fun c H' => Ex0 (cl c) none H') (x1 C (.rse c))) := by
  obtain ⟨Da, hm, hcl, hx, hk, hb, ht⟩ := b.xc x c h
  refine ps_of (L2N.ps_raise b.g.calm b.tk (L2N.pmk_own PySem.F.excBase_ValueError hx hm hk (raises_own hb ht) (glB_of hg).1 (glB_of hg).2.1)) fun D σ H h => ?_
  obtain ⟨ρ, F, B, F0, R, h⟩ := h
  rw [x1.eq_13] at h
  have h : ∀ F' H', Grow F0 B F' H' → Ex0 (cl c) none H' := h
  have := h F H R.grow
  rw [hcl] at this
  exact this
theorem s_tryw (b : BOk X CX Ex0 cl C G) {i : Nat} {bd : Sms} {body : List Stmt} {n : Str} {p1 p2 p3 p4 p5 p6 p7 : Pos} (hw : G.word = true) (hgP : glB X.env.scope "PaneError" = true) (hgW : glB X.env.scope "_law_word" = true) (hi : X.N[i]? = some n) (hl : X.env.scope.names.lookup n = some .local) (hn : nameOk n = true)
    (hb : ∀ (W : WX) (pn : List (Addr × Obj)) (xe : Value → Shared → Prop), BOk (X.tr pn xe) CX (ExW X.N W) cl C G → PSs (X.tr pn xe) body (tOfS X.K (fun c H' => ExW X.N W (cl c) none H') (xs C bd))) :
    PS X (.Try body [.ExceptHandler (some (.Name "PaneError" p1)) (some n) [.Return (some (.Call (.Name "_law_word" p2) [.Name n p3] [] p4)) p5] p6] [] [] p7) (tOfS X.K (fun c H' => Ex0 (cl c) none H') (x1 C (.tryw i bd))) := by
  obtain ⟨⟨cs, Pa, f, fd, st, q, ht, hmP, hF, hmW, hbd, hst, hsc, q1, q2, q3⟩, hr⟩ := b.wd hw
  unfold nameOk at hn
  rw [Bool.and_eq_true] at hn
  have hd : (n == ("__debug__" : Str)) = false := by simpa using hn.1
  have hcd : (n == ("__classdict__" : Str)) = false := by simpa using hn.2
  refine ps_of (L2N.ps_try_as (c := .ref Pa) b.stk b.frm b.g.nd hi hl ⟨(glB_of hgP).1, by decide, .inl hmP⟩ b.tk
    (tb := fun W => tOfS X.K (fun c H' => ExW X.N W (cl c) none H') (xs C bd))
    (ts := fun a cls d => fun D σ H => ∃ c, c < 9 ∧ cls = .ref (cs c) ∧ d = none ∧ σ[i]? = some (some (.ref a)) ∧ ∀ H', (∀ b o, H b = some o → H' b = some o) → ∀ v, xwd[c]? = some v → D.rt (.str v) H')
    (fun W pn xe tk ow => hb W pn xe (b.tr tk ow)) (fun a oe cls d pn hz hf => ?_)) fun D σ H h => ?_
  · refine ⟨fun pins s σ H D I h => ?_⟩
    obtain ⟨c, hc, rfl, rfl, hs, h⟩ := h
    have hot : L2H.Hot1 (X.suite a ((a, oe) :: pn)).A (a, oe) := ⟨rfl, by obtain ⟨fs, e⟩ := hf; exact ⟨fs, e, hz.2.2 fs e⟩⟩
    exact (pss_one (ps_ret (pe_word (Y := X.suite a ((a, oe) :: pn)) (List.mem_cons_self ..) hot hz.zc hF hmW hbd hst hsc ⟨hr.dp, hr.un⟩ (ht c hc).2.1 (glB_of hgW).1 (pe_var (X := X.suite a ((a, oe) :: pn)) hi (.inl hl) hd hcd) q1 q2 q3))).run pins s σ H D I ⟨hs, h⟩
  · obtain ⟨ρ, F, B, F0, R, h⟩ := h
    rw [x1.eq_21] at h
    refine ⟨ρ, F, B, F0, R, ?_⟩
    cases e : xs C bd ρ with
    | bad => rw [e] at h; exact h
    | ok o => rw [e] at h; cases o <;> exact h
    | err c =>
      rw [e] at h
      have h : AnsS X.K (fun c H' => Ex0 (cl c) none H') (match xwd[c]? with | some w => Rs.ok (Out.rt (.d (.str w))) | none => .bad) F0 B D := h
      cases ew : xwd[c]? with
      | none => rw [ew] at h; exact h.elim
      | some w =>
        rw [ew] at h
        have h : ∀ v F H, Grow F0 B F H → Den X.K B F H v (.d (.str w)) → D.rt v H := h
        have hc : c < 9 := (List.getElem?_eq_some_iff.mp ew).1
        have hso : PyData.strOk w = true := by
          have : ∀ w ∈ xwd, PyData.strOk w = true := by decide +kernel
          exact this w (List.mem_of_getElem? ew)
        intro F' H' g σ' hσ
        obtain ⟨hcl, _, hex⟩ := ht c hc
        show wAs _ _ _ _ _ _ (cl c) none σ' H'
        rw [hcl]
        refine ⟨true, hex, fun _ a na => ?_, fun z => by cases z⟩
        refine ⟨c, hc, rfl, rfl, ?_, fun H'' sm v hv => ?_⟩
        · rw [List.getElem?_set_self]
          rw [hσ]
          exact (List.getElem?_eq_some_iff.mp hi).1
        · have : v = w := by rw [ew] at hv; cases hv; rfl
          subst this
          exact h _ F' H'' ⟨g.fr, g.hp.trans sm, g.sub.trans sm, g.old⟩ (.str v hso)
end
theorem par_ps {X : Cx} {CX : CXT} {Ex0 : XK} {cl : Nat → Value} {C : Nat → List R → Rs R} {G : Gi} (b : BOk X CX Ex0 cl C G) {i j : Nat} {x y : Ex} {tg v : Expr} {pos : Pos} (h : chkPar G X.N X.env.scope i j x y tg v = true) :
    PS X (.Assign [tg] v pos) (tOfS X.K (fun c H' => Ex0 (cl c) none H') (x1 C (.par i j x y))) := by
  unfold chkPar at h
  split at h
  · simp only [Bool.and_eq_true, Bool.not_eq_true'] at h
    obtain ⟨⟨⟨⟨⟨⟨⟨⟨⟨⟨⟨h1, h2⟩, h3⟩, h4⟩, h5⟩, h6⟩, h7⟩, h8⟩, h9⟩, h10⟩, h11⟩, h12⟩ := h
    rename_i a pa c pb _ _ l r _ _
    have hne : a ≠ c := fun e => by
      subst e
      exact of_decide_eq_true h7 (nodup_ix b.g.nd (of_decide_eq_true h5) (of_decide_eq_true h6))
    refine s_par2 (ps_par b.g.calm b.g.nd (of_decide_eq_true h5) (of_decide_eq_true h6) (of_decide_eq_true h7) (of_decide_eq_true h8) (of_decide_eq_true h9)
      (q_cons (snd_e x b.g h1) (q_cons (snd_e y b.g h2) q_nil (star_of h4 _ _)) (star_of h3 _ _)) (swapped_some b.kind (of_decide_eq_true h8) (of_decide_eq_true h9) hne h10 h3 h4 h11 h12) ?_)
    rfl
  · cases h
theorem put_ps {X : Cx} {CX : CXT} {Ex0 : XK} {cl : Nat → Value} {C : Nat → List R → Rs R} {G : Gi} (b : BOk X CX Ex0 cl C G) {i : Nat} {k x : Ex} {tg v : Expr} {pos : Pos} (h : chkPut G X.N X.env.scope i k x tg v = true) :
    PS X (.Assign [tg] v pos) (tOfS X.K (fun c H' => Ex0 (cl c) none H') (x1 C (.put i k x))) := by
  unfold chkPut at h
  split at h
  · rename_i j _
    simp only [Bool.and_eq_true, nameOk, Bool.not_eq_true'] at h
    obtain ⟨⟨⟨⟨⟨⟨h1, h2⟩, h3⟩, h4⟩, h5⟩, h6⟩, h7⟩ := h
    refine s_put (ps_asg (snd_e x b.g h6) (pg_sub (pe_var (of_decide_eq_true h1) (visB_of h2) (by simpa using h3.1) (by simpa using h3.2)) (snd_e k b.g h4) set_list ?_) (swaps_sole h7) (by cases v <;> rfl) rfl)
    intro v2
    cases j <;> first | rfl | cases h5
  · cases h
theorem mput_ps {X : Cx} {CX : CXT} {Ex0 : XK} {cl : Nat → Value} {C : Nat → List R → Rs R} {G : Gi} (b : BOk X CX Ex0 cl C G) {i : Nat} {ks : Exs} {x : Ex} {tg v : Expr} {pos : Pos} (h : chkMput G X.N X.env.scope i ks x tg v = true) :
    PS X (.Assign [tg] v pos) (tOfS X.K (fun c H' => Ex0 (cl c) none H') (x1 C (.mput i ks x))) := by
  unfold chkMput at h
  split at h
  · simp only [Bool.and_eq_true, nameOk, Bool.not_eq_true'] at h
    obtain ⟨⟨⟨⟨⟨h1, h2⟩, h3⟩, h4⟩, h5⟩, h6⟩ := h
    exact s_mput (by have := b.g.hu; omega) (pe_var (of_decide_eq_true h1) (visB_of h2) (by simpa using h3.1) (by simpa using h3.2)) (snd_es ks b.g h4).1 (snd_e x b.g h5) (swaps_no h6 _ _ _)
  · cases h
theorem mnew_ps {X : Cx} {CX : CXT} {Ex0 : XK} {cl : Nat → Value} {C : Nat → List R → Rs R} {G : Gi} (b : BOk X CX Ex0 cl C G) {i : Nat} {tg v : Expr} {pos : Pos} (h : chkMnew X.N X.env.scope i tg v = true) :
    PS X (.Assign [tg] v pos) (tOfS X.K (fun c H' => Ex0 (cl c) none H') (x1 C (.mnew i))) := by
  unfold chkMnew at h
  split at h
  · rw [Bool.and_eq_true] at h
    exact s_mnew (plain_ps h.2 pe_dnewT (pg_chkT (t := .nm i) b.g.calm b.g.nd (fun x _ => b.fn x) h.1))
  · cases h
theorem pop_ps {X : Cx} {CX : CXT} {Ex0 : XK} {cl : Nat → Value} {C : Nat → List R → Rs R} {G : Gi} (b : BOk X CX Ex0 cl C G) {i j : Nat} {tg v : Expr} {pos : Pos} (h : chkPop X.N X.env.scope j i tg v = true) :
    PS X (.Assign [tg] v pos) (tOfS X.K (fun c H' => Ex0 (cl c) none H') (x1 C (.popf j i))) := by
  unfold chkPop at h
  split at h
  · split at h
    · split at h
      · split at h
        · split at h
          · simp only [Bool.and_eq_true] at h
            obtain ⟨⟨⟨⟨⟨⟨⟨h1, h2⟩, h3⟩, h4⟩, h5⟩, h6⟩, h7⟩, h8⟩ := h
            rename_i o m ap z k2 p2
            have ez := of_decide_eq_true h1
            have em := of_decide_eq_true h2
            subst ez em
            obtain ⟨x, p, rfl, q1, q2, q3⟩ := isNmAt_ok h3
            unfold nameOk at q3
            rw [Bool.and_eq_true] at q3
            have hks := List.isEmpty_iff.mp h5
            subst hks
            exact s_popf (of_decide_eq_true h4) (plain_ps h8 (pe_bm PySem.F.plainAttrs_list PySem.F.slot_list_pop PySem.F.type_list_pop mt_popAt (pe_var q1 (visB_of q2) (by simpa using q3.1) (by simpa using q3.2)) (pa_cons pe_int pa_nil rfl) rfl rfl h6 rfl rfl) (pg_chkT (t := .nm j) b.g.calm b.g.nd (fun x _ => b.fn x) h7))
          · cases h
        · cases h
      · cases h
    · cases h
  · cases h
mutual
theorem snd_s {CX : CXT} {cl : Nat → Value} {C : Nat → List R → Rs R} {G : Gi} {X : Cx} {Ex0 : XK} (b : BOk X CX Ex0 cl C G) : ∀ (s : Sm) {st : Stmt}, chkS G X.N X.env.scope s st = true → PS X st (tOfS X.K (fun c H' => Ex0 (cl c) none H') (x1 C s))
  | .asg t x, st, h => by
    cases st with
    | Assign ts v pos =>
      match ts, h with
      | [tg], h =>
        simp only [chkS, Bool.and_eq_true, Bool.or_eq_true] at h
        have he := snd_e x b.g h.1
        rcases h.2 with q | q
        · exact s_asg (plain_ps q.2 he (pg_chkT b.g.calm b.g.nd (fun x _ => b.fn x) q.1)) fun _ _ _ _ q => q
        · cases t with
          | nm i => exact s_asg (t := .nm i) (comp_ps b.g b.kind q h.1) fun _ _ _ _ q => q
          | tp is => cases q
      | [], h => cases h
      | _ :: _ :: _, h => cases h
    | _ => cases h
  | .own i x, st, h => by
    cases st with
    | Assign ts v pos =>
      match ts, h with
      | [tg], h =>
        simp only [chkS, Bool.and_eq_true, Bool.or_eq_true] at h
        have he := snd_e x b.g h.1
        rcases h.2 with q | q
        · exact s_own (plain_ps q.2 he (pg_chkT (t := .nm i) b.g.calm b.g.nd (fun x _ => b.fn x) q.1))
        · exact s_own (comp_ps b.g b.kind q h.1)
      | [], h => cases h
      | _ :: _ :: _, h => cases h
    | _ => cases h
  | .par i j x y, st, h => by
    cases st with
    | Assign ts v pos =>
      match ts, h with
      | [tg], h => exact par_ps b (by simpa only [chkS] using h)
      | [], h => cases h
      | _ :: _ :: _, h => cases h
    | _ => cases h
  | .app i x, st, h => by
    cases st with
    | Expr e pos =>
      cases e with
      | Call f as ks cp =>
        cases f with
        | Attribute o m ap =>
          cases o with
          | Name n p =>
            match as, ks, h with
            | [a], [], h =>
              simp only [chkS, Bool.and_eq_true, nameOk] at h
              obtain ⟨⟨⟨⟨⟨⟨h1, h2⟩, h3⟩, h4⟩, h5⟩, h6⟩, h7⟩ := h
              have em : m = "append" := of_decide_eq_true h1
              subst em
              refine s_app (ps_expr (pe_bm PySem.F.plainAttrs_list PySem.F.slot_list_append PySem.F.type_list_append mt_append (pe_var (of_decide_eq_true h2) (visB_of h3) (by simpa using h4.1) (by simpa using h4.2)) (pa_cons (snd_e x b.g h5) pa_nil (star_of h6 _ _)) rfl ?_ h7 (star_of h6 _ _) rfl) rfl)
              rw [star_of h6]
              rfl
            | [], _, h => cases h
            | _ :: _ :: _, _, h => cases h
            | [_], _ :: _, h => cases h
          | _ => cases h
        | _ => cases h
      | _ => cases h
    | _ => cases h
  | .ext i x, st, h => by
    cases st with
    | Expr e pos =>
      cases e with
      | Call f as ks cp =>
        cases f with
        | Attribute o m ap =>
          cases o with
          | Name n p =>
            match as, ks, h with
            | [a], [], h =>
              simp only [chkS, Bool.and_eq_true, nameOk] at h
              obtain ⟨⟨⟨⟨⟨⟨h1, h2⟩, h3⟩, h4⟩, h5⟩, h6⟩, h7⟩ := h
              have em : m = "extend" := of_decide_eq_true h1
              subst em
              refine s_ext (ps_expr (pe_bm PySem.F.plainAttrs_list PySem.F.slot_list_extend PySem.F.type_list_extend mt_extend (pe_var (of_decide_eq_true h2) (visB_of h3) (by simpa using h4.1) (by simpa using h4.2)) (pa_cons (snd_e x b.g h5) pa_nil (star_of h6 _ _)) rfl ?_ h7 (star_of h6 _ _) rfl) rfl)
              rw [star_of h6]
              rfl
            | [], _, h => cases h
            | _ :: _ :: _, _, h => cases h
            | [_], _ :: _, h => cases h
          | _ => cases h
        | _ => cases h
      | _ => cases h
    | _ => cases h
  | .put i k x, st, h => by
    cases st with
    | Assign ts v pos =>
      match ts, h with
      | [tg], h => exact put_ps b (by simpa only [chkS] using h)
      | [], h => cases h
      | _ :: _ :: _, h => cases h
    | _ => cases h
  | .frz i, st, h => by cases st <;> cases h
  | .ifs c p q, st, h => by
    cases st with
    | If c' a a' pos =>
      simp only [chkS, Bool.and_eq_true] at h
      exact s_if (snd_t c b.g h.1.1) (snd_b b p h.1.2) (snd_b b q h.2)
    | _ => cases h
  | .for_ t it p, st, h => by
    cases st with
    | For tg e a o pos =>
      cases o with
      | nil =>
        simp only [chkS, Bool.and_eq_true] at h
        exact s_for b.own b.g.calm (snd_i it b.g h.1.1.1) (pg_chkT b.g.calm b.g.nd (fun x _ => b.fn x) h.1.1.2) (snd_b b p h.2) (fold_of h.1.2 _)
      | cons _ _ => cases h
    | _ => cases h
  | .whl c p, st, h => by
    cases st with
    | While c' a o pos =>
      cases o with
      | nil =>
        simp only [chkS, Bool.and_eq_true] at h
        exact s_while b.own (snd_t c b.g h.1) (snd_b b p h.2)
      | cons _ _ => cases h
    | _ => cases h
  | .ret x, st, h => by
    cases st with
    | Return v pos =>
      cases v with
      | some v => exact s_ret (snd_e x b.g (by simpa only [chkS] using h))
      | none => cases h
    | _ => cases h
  | .rtl i, st, h => by
    cases st with
    | Return v pos =>
      cases v with
      | some v =>
        cases v with
        | Name n p =>
          simp only [chkS, Bool.and_eq_true, nameOk] at h
          exact s_rtl (pe_var (of_decide_eq_true h.1.1) (visB_of h.1.2) (by simpa using h.2.1) (by simpa using h.2.2))
        | _ => cases h
      | none => cases h
    | _ => cases h
  | .rse c, st, h => by
    cases st with
    | Raise v w pos =>
      simp only [chkS] at h
      obtain ⟨x, p, m, j, p2, p3, rfl, rfl, h1, h2⟩ := chkRse_ok h
      exact s_rse b h1 h2
    | _ => cases h
  | .tryw i bd, st, h => by
    cases st with
    | Try body hs oe fb pos =>
      simp only [chkS, Bool.and_eq_true] at h
      obtain ⟨h1, h2⟩ := h
      obtain ⟨rfl, rfl, hd, rfl, h3⟩ := chkTry_ok h2
      obtain ⟨p1, n, p2, p3, p4, p5, p6, rfl, g1, g2, g3, g4, g5, g6⟩ := chkHd_ok h3
      exact s_tryw b g6 g1 g2 g3 g4 g5 (fun W pn xe b' => snd_b b' bd h1)
    | _ => cases h
  | .nat f, st, h => by cases st <;> cases h
  | .popf j i, st, h => by
    cases st with
    | Assign ts v pos =>
      match ts, h with
      | [tg], h =>
        simp only [chkS] at h
        exact pop_ps b h
      | [], h => cases h
      | _ :: _ :: _, h => cases h
    | _ => cases h
  | .pas, st, h => by
    cases st with
    | Pass pos => exact s_pass
    | _ => cases h
  | .nev, st, h => by
    refine ps_of ps_never fun D σ H h => ?_
    obtain ⟨ρ, F, B, F0, R, h⟩ := h
    rw [x1.eq_15] at h
    exact h
  | .exp x, st, h => by
    cases st with
    | Expr e pos =>
      cases e with
      | Call f as ks cp =>
        cases f with
        | Name n p =>
          exact s_exp (a := .Name n p) (ps_expr (snd_e x b.g (by simpa only [chkS] using h)) rfl)
        | _ => cases h
      | _ => cases h
    | _ => cases h
  | .mnew i, st, h => by
    cases st with
    | Assign ts v pos =>
      match ts, h with
      | [tg], h => exact mnew_ps b (by simpa only [chkS] using h)
      | [], h => cases h
      | _ :: _ :: _, h => cases h
    | _ => cases h
  | .mput i ks x, st, h => by
    cases st with
    | Assign ts v pos =>
      match ts, h with
      | [tg], h => exact mput_ps b (by simpa only [chkS] using h)
      | [], h => cases h
      | _ :: _ :: _, h => cases h
    | _ => cases h
  | .rtm i, st, h => by
    cases st with
    | Return v pos =>
      cases v with
      | some v =>
        cases v with
        | Name n p =>
          simp only [chkS, Bool.and_eq_true, nameOk] at h
          exact s_rtm (pe_var (of_decide_eq_true h.1.1) (visB_of h.1.2) (by simpa using h.2.1) (by simpa using h.2.2))
        | _ => cases h
      | none => cases h
    | _ => cases h
  | .mas i x, st, h => by
    cases st with
    | Assign ts v pos =>
      match ts, h with
      | [tg], h =>
        simp only [chkS, Bool.and_eq_true] at h
        exact s_mas (plain_ps h.2 (snd_e x b.g h.1.1) (pg_chkT (t := .nm i) b.g.calm b.g.nd (fun x _ => b.fn x) h.1.2))
      | [], h => cases h
      | _ :: _ :: _, h => cases h
    | _ => cases h
termination_by s => sizeOf s
theorem snd_b {CX : CXT} {cl : Nat → Value} {C : Nat → List R → Rs R} {G : Gi} {X : Cx} {Ex0 : XK} (b : BOk X CX Ex0 cl C G) : ∀ (ss : Sms) {sts : List Stmt}, chkB G X.N X.env.scope ss sts = true → PSs X sts (tOfS X.K (fun c H' => Ex0 (cl c) none H') (xs C ss))
  | .nil, sts, h => by
    cases sts with
    | nil => exact b_nil
    | cons _ _ => cases h
  | .cons s ss, sts, h => by
    by_cases hf : ∃ i, s = .frz i
    · obtain ⟨i, rfl⟩ := hf
      exact b_frz (snd_b b ss (by simpa only [chkB] using h))
    · cases sts with
      | nil => cases s <;> first | cases h | exact absurd ⟨_, rfl⟩ hf
      | cons st sts =>
        have h' : chkS G X.N X.env.scope s st = true ∧ chkB G X.N X.env.scope ss sts = true := by
          cases s <;> first | exact absurd ⟨_, rfl⟩ hf | (simp only [chkB, Bool.and_eq_true] at h; exact h)
        exact b_cons (snd_s b s h'.1) (snd_b b ss h'.2)
termination_by ss => sizeOf ss
end
end PP
set_option Elab.async false
set_option linter.all false
set_option autoImplicit false
set_option maxRecDepth 100000
set_option maxHeartbeats 4000000
namespace PP
open PySem L2
structure Ent where
  ix : Nat
  nm : Str
  st : Stmt
  N : List Str
  ps : List Str
  fn : Fn
def fnsOf (es : List Ent) : List (Str × Nat × Nat) := es.map fun e => (e.nm, e.ix, e.ps.length)
theorem fnsOf_mem {es : List Ent} {x : Str} {n np : Nat} (h : (x, n, np) ∈ fnsOf es) : ∃ e, e ∈ es ∧ n = e.ix ∧ x = e.nm ∧ np = e.ps.length := by
  obtain ⟨e, he, q⟩ := List.mem_map.mp h
  cases q
  exact ⟨e, he, rfl, rfl, rfl⟩
def tabOf (es : List Ent) : Nat → Option Fn := fun i => (es.find? fun e => e.ix == i).map (·.fn)
theorem tabOf_mem : ∀ {es : List Ent} {e : Ent}, (es.map (·.ix)).Nodup → e ∈ es → tabOf es e.ix = some e.fn
  | [], _, _, h => by cases h
  | a :: es, e, nd, h => by
    unfold tabOf
    rw [List.find?_cons]
    rw [List.map_cons, List.nodup_cons] at nd
    rcases List.mem_cons.mp h with q | q
    · subst q; simp
    · have hne : (a.ix == e.ix) = false := beq_eq_false_iff_ne.mpr fun z => nd.1 (by rw [z]; exact List.mem_map.mpr ⟨e, q, rfl⟩)
      rw [hne]
      exact tabOf_mem nd.2 q
def fnScB (N ps : List Str) (sc : Scope) : Bool :=
  decide (sc.kind = .function) && !sc.isCoroutine && !sc.isGenerator && decide N.Nodup && decide (N.take ps.length = ps) && (ps.all fun x => locB sc x) && (sc.names.all fun y => decide (y.2 ≠ .free))
theorem fnSc_of {N ps : List Str} {sc : Scope} (h : fnScB N ps sc = true) : FnScope N ps sc := by
  unfold fnScB at h
  simp only [Bool.and_eq_true, Bool.not_eq_true', List.all_eq_true, decide_eq_true_eq] at h
  obtain ⟨⟨⟨⟨⟨⟨h1, h2⟩, h3⟩, h4⟩, h5⟩, h6⟩, h7⟩ := h
  exact ⟨h1, h2, h3, h4, h5, fun x hx => locB_of (h6 x hx), h7⟩
def entOk (G : Gi) (e : Ent) : Bool := chkB G e.N (defScope e.st) e.fn.body (defBody e.st) && decide (e.fn.n = e.N.length) && decide (e.fn.np = e.ps.length) && fnScB e.N e.ps (defScope e.st)
structure EntAt (K : PySem.W.Frag) (mg : Str → Option Value) (e : Ent) (f : Addr) (fd : FuncData) : Prop where
  fn : Fun K e.nm e.nm e.st f fd
  bd : Binds K fd e.ps []
  at_ : mg e.nm = some (.ref f)
/-- what the top has left -/
structure TopB (K : PySem.W.Frag) (w : World) (mg : Str → Option Value) (cl : Nat → Value) (es : List Ent) (G : Gi) : Prop where
  fns : G.fns = fnsOf es
  nd : (es.map (·.ix)).Nodup
  ents : ∀ e, e ∈ es → ∃ f fd, EntAt K mg e f fd
  nps : ∀ e, e ∈ es → e.fn.np = e.ps.length
  blt : ∀ x, x ∈ bltNames → mg x = none
  cst : ∀ x d, G.csts.lookup x = some d → ∃ v u, mg x = some u ∧ RelV v u ∧ ∀ F, Dn K F v d
  dct : ∀ x kvs, G.dcts.lookup x = some kvs → ∃ d, mg x = some (.ref d) ∧ DctK K w d kvs
  xcs : ∀ x c, (x, c) ∈ G.xns → XcT K mg cl x c
  wrd : G.word = true → WordT K mg cl
/-- all defs keep their promises, n deep -/
def AllOk (P : Program) (K : PySem.W.Frag) (w : World) (mg : Str → Option Value) (base : Heap) (cl : Nat → Value) (es : List Ent) (n : Nat) : Prop :=
  ∀ e' f' fd', e' ∈ es → EntAt K mg e' f' fd' → FnOk P w K mg base (L2N.CX P w) (n + 1) f' fd' e'.ps (spP K cl e'.ps.length (call (tabOf es) n e'.ix))
structure Top (P : Program) (K : PySem.W.Frag) (w : World) (mg : Str → Option Value) (base : Heap) (cl : Nat → Value) (hs : List Nat) (es : List Ent) (G : Gi) : Prop extends TopB K w mg cl es G where
  oks : ∀ e, e ∈ es → e.ix ∉ hs → entOk G e = true
  /-- defs that are proved by hand -/
  hnd : ∀ e, e ∈ es → e.ix ∈ hs → ∀ (n : Nat) (f : Addr) (fd : FuncData), EntAt K mg e f fd → AllOk P K w mg base cl es n →
    FnOk P w K mg base (L2N.CX P w) (n + 2) f fd e.ps (spP K cl e.ps.length (call (tabOf es) (n + 1) e.ix))
theorem call_len {T : Nat → Option Fn} {n i : Nat} {fn : Fn} (h : T i = some fn) : ∀ rs r, call T n i rs = r → r ≠ .bad → rs.length = fn.np := by
  intro rs r e hb
  cases n with
  | zero => exact absurd e.symm hb
  | succ n =>
    unfold call at e
    simp only [h] at e
    by_cases q : rs.length = fn.np
    · exact q
    · rw [if_neg q] at e; exact absurd e.symm hb
theorem startS_get {n : Nat} {as : List R} {i : Nat} {r : R} (h : (startS n as)[i]? = some (some r)) : as[i]? = some r := by
  unfold startS at h
  by_cases hi : i < as.length
  · rw [List.getElem?_append_left (by simpa using hi), List.getElem?_map] at h
    cases q : as[i]? with
    | none => rw [q] at h; cases h
    | some x => rw [q] at h; cases h; rfl
  · rw [List.getElem?_append_right (by simpa using Nat.le_of_not_lt hi)] at h
    rw [List.getElem?_replicate] at h
    split at h <;> cases h
theorem start_get {N : List Str} {vs : List V} {i : Nat} {v : V} (h : vs[i]? = some v) : (start N vs)[i]? = some (some v) := by
  unfold L2.start
  have hi : i < vs.length := (List.getElem?_eq_some_iff.mp h).1
  rw [List.getElem?_append_left (by simpa using hi), List.getElem?_map, h]
  rfl
theorem denAll_get {K : PySem.W.Frag} {H0 F H : Hp} : ∀ {vs : List V} {rs : List R} {i : Nat} {r : R}, DenAll K H0 F H vs rs → rs[i]? = some r → ∃ v, vs[i]? = some v ∧ Den K H0 F H v r
  | [], [], _, _, _, e => by simp at e
  | v :: vs, r :: rs, 0, _, ⟨a, _⟩, e => by simp at e; subst e; exact ⟨v, rfl, a⟩
  | v :: vs, r :: rs, i + 1, q, ⟨_, b⟩, e => by
    obtain ⟨w, h1, h2⟩ := denAll_get (i := i) b (by simpa using e)
    exact ⟨w, by simpa using h1, h2⟩
  | [], _ :: _, _, _, h, _ => h.elim
  | _ :: _, [], _, _, h, _ => h.elim
section
variable {P : Program} {w : World} {K : PySem.W.Frag} {mg : Str → Option Value} {base : Heap} {es : List Ent} {G : Gi} {cl : Nat → Value} {hs : List Nat}
theorem rel_start {F H : Hp} {N : List Str} {vs : List V} {rs : List R} (s : Same F H) (d : DenAll K H F H vs rs) (ok : argOk rs = true) : RelS K H F (startS N.length rs) (start N vs) F H := by
  have hl := denAll_len d
  have sl : ∀ (i : Nat) (r : R), rs[i]? = some r → (∃ x, r = .d x) ∨ (∃ x, r = .s x) ∨ ∃ x, r = .m x := fun i r e => by
    have := List.all_eq_true.mp ok r (List.mem_of_getElem? e)
    cases r with
    | d x => exact .inl ⟨x, rfl⟩
    | s x => exact .inr (.inl ⟨x, rfl⟩)
    | m x => exact .inr (.inr ⟨x, rfl⟩)
    | t x => cases this
    | l x => cases this
    | b x => cases this
    | n x => cases this
    | q => cases this
    | o x => cases this
  refine ⟨⟨?_, s, fun i r e => ?_, fun i j a xs ys e1 e2 o1 o2 e3 e4 => ?_⟩, Grow.refl s, fun i xs a e1 o1 e2 => ?_⟩
  · unfold startS L2.start
    simp [hl]
  · have e := startS_get e
    obtain ⟨v, h1, h2⟩ := denAll_get d e
    refine ⟨v, start_get h1, ?_⟩
    rcases sl i r e with ⟨x, rfl⟩ | ⟨x, rfl⟩ | ⟨x, rfl⟩
    · exact h2
    · exact h2
    · exact h2
  · rcases sl i _ (startS_get e1) with ⟨x, q⟩ | ⟨x, q⟩ | ⟨x, q⟩ <;> (subst q; cases o1)
  · rcases sl i _ (startS_get e1) with ⟨x, q⟩ | ⟨x, q⟩ | ⟨x, q⟩ <;> (subst q; cases o1)
/-- what a def's body may lean on -/
theorem bok_of (Tb : TopB K w mg cl es G) {n : Nat} (IH : AllOk P K w mg base cl es n) {e : Ent} {f : Addr} {cdv : Value} (S : FnScope e.N e.ps (defScope e.st)) {Ar : Around} {outer : List Env} {s : Shared} {H : Hp} {E : XK} (hr : Room (n + 1) (Ar.deeper (PyProof.Rows.envOfC e.nm (defScope e.st) s.heap.objs.size f cdv))) :
    BOk (cxOf (L2N.CX P w) P w K mg base e.N e.nm (defScope e.st) f cdv Ar outer s H E) (L2N.CX P w) E cl (call (tabOf es) n) G := by
  have tk : L2N.Takes (cxOf (L2N.CX P w) P w K mg base e.N e.nm (defScope e.st) f cdv Ar outer s H E) (fun cls d _ H => E cls d H) := L2N.takes_of rfl rfl rfl rfl
  refine ⟨⟨rfl, S.nd, hr.units, Tb.blt, Tb.cst, Tb.dct, fun x m np hx => ?_, L2N.passes_call tk (fun _ _ _ _ h => h), fun _ _ _ _ _ _ _ _ _ _ c => ?_⟩, fun _ => rfl, PassesOwn.leaving, S.kind, rfl, tk, rfl, rfl, Tb.xcs, fun hw => ⟨Tb.wrd hw, (L2H.roomH_of hr).mono (by omega)⟩⟩
  · rw [Tb.fns] at hx
    obtain ⟨e', q2, q1, q3, q4⟩ := fnsOf_mem hx
    subst q1
    subst q3
    subst q4
    obtain ⟨f', fd', A'⟩ := Tb.ents e' q2
    refine ⟨n + 1, f', fd', e'.ps, IH e' f' fd' q2 A', hr, A'.at_, A'.fn.kp, A'.bd, ?_⟩
    rw [← Tb.nps e' q2]
    exact call_len (tabOf_mem Tb.nd q2)
  · obtain ⟨_, _, _, _, _, _, _, _, _, _, _, _, z⟩ := c
    exact z.elim
theorem all_ok (Tp : Top P K w mg base cl hs es G) : ∀ (n : Nat) (e : Ent) (f : Addr) (fd : FuncData), e ∈ es → EntAt K mg e f fd → FnOk P w K mg base (L2N.CX P w) (n + 1) f fd e.ps (spP K cl e.ps.length (call (tabOf es) n e.ix))
  | 0, e, f, fd, he, A => by
    have no : ∀ vs H Q E, ¬ spP K cl e.ps.length (call (tabOf es) 0 e.ix) vs H Q E := fun vs H Q E h => by
      obtain ⟨F, rs, _, _, _, _, h⟩ := h
      exact h
    exact ⟨fun vs H Q E h => absurd h (no vs H Q E), fun _ _ _ H _ _ vs Q E _ _ _ _ h => absurd h (no vs H Q E)⟩
  | n + 1, e, f, fd, hm, A => by
    have IH : AllOk P K w mg base cl es n := fun e' f' fd' he' A' => all_ok Tp n e' f' fd' he' A'
    by_cases hh : e.ix ∈ hs
    · exact Tp.hnd e hm hh n f fd A IH
    have ok := Tp.oks e hm hh
    unfold entOk at ok
    simp only [Bool.and_eq_true, decide_eq_true_eq] at ok
    obtain ⟨⟨⟨o1, o2⟩, o3⟩, o4⟩ := ok
    have S := fnSc_of o4
    have ht : tabOf es e.ix = some e.fn := tabOf_mem Tp.nd hm
    obtain ⟨oc, od, kV, doc, pm, an, cdv, ct, osl, rfl, lk, hcd⟩ := A.fn.ex
    refine fn_of lk hcd S (fun vs H Q E h => ?_) (fun Ar outer s H vs Q E hr h => ?_)
    · obtain ⟨F, rs, _, d, hl, _⟩ := h
      exact (denAll_len d).trans hl
    · obtain ⟨F, rs, sm, d, hl, ak, h⟩ := h
      have b := bok_of (f := f) (cdv := cdv) (outer := outer) (s := s) (H := H) (E := E) Tp.toTopB IH S hr
      refine ⟨_, snd_b b e.fn.body o1, ?_⟩
      refine ⟨startS e.N.length rs, F, H, F, rel_start sm d ak, ?_⟩
      unfold call at h
      simp only [ht] at h
      rw [if_pos (by rw [o3]; exact hl), o2] at h
      cases q : xs (call (tabOf es) n) e.fn.body (startS e.N.length rs) with
      | bad => rw [q] at h; exact h
      | err c => rw [q] at h; exact h
      | ok o =>
        rw [q] at h
        cases o with
        | nx ρ => exact fun σ F' H' R => h .non F' H' R.grow .non
        | rt r => exact fun v F' H' g d' => h v F' H' g d'
end
def spLaw (K : PySem.W.Frag) : Sp := fun vs H Q _ => ∃ (a : Addr) (ns : List Int), vs = [.ref a] ∧ SqL K H a (ns.map V.int) ∧ ns.length ≤ 63 ∧ ∀ H', Q (.bl true) H'
theorem dn_of_ints {K : PySem.W.Frag} {F : Hp} : ∀ ns : List Int, DnAll K F (ns.map V.int) (ns.map PyData.int)
  | [] => .nil
  | n :: ns => .cons (.int n) (dn_of_ints ns)
theorem law_ok {P : Program} {w : World} {K : PySem.W.Frag} {mg : Str → Option Value} {base : Heap} {f : Addr} {fd : FuncData} {n i : Nat} {x : Str} {es : List Ent} {cl : Nat → Value} (F : FnOk P w K mg base (L2N.CX P w) (n + 1) f fd [x] (spP K cl 1 (call (tabOf es) n i)))
    (h : ∀ ns : List Int, ns.length ≤ 63 → call (tabOf es) n i [.s (ns.map PyData.int)] = .ok (.d (.bool true))) : FnOk P w K mg base (L2N.CX P w) (n + 1) f fd [x] (spLaw K) := by
  refine F.imp fun vs H Q E q => ?_
  obtain ⟨a, ns, rfl, hs, hl, q⟩ := q
  refine ⟨fun b => if b = a then H a else none, [.s (ns.map PyData.int)], fun b o e => ?_, ⟨⟨a, ns.map V.int, rfl, ?_, dn_of_ints ns⟩, trivial⟩, rfl, rfl, ?_⟩
  · by_cases hb : b = a
    · subst hb; simpa using e
    · simp [hb] at e
  · rcases hs with (hs | ⟨o, hs⟩) | hs
    · exact .inl (.inl (by simpa using hs))
    · exact .inl (.inr ⟨o, by simpa using hs⟩)
    · exact .inr hs
  · rw [h ns hl]
    intro v F' H' g d
    cases d
    exact q H'
end PP
set_option Elab.async false
set_option linter.all false
set_option autoImplicit false
set_option maxRecDepth 100000
namespace PP
open PySem L2
def DefAt (K : PySem.W.Frag) (nm : Str) (st : Stmt) : Prop := ∃ (f : Addr) (oc : Value) (od an : Option Addr) (kV dc pm cd ct : Value) (sl : Array (Option Value)),
  PySem.W.nsIn K mainGlobals nm = some (some (.ref f)) ∧ K.lookup f = some ⟨oc, od, .func (PySem.W.fnOf nm nm (defArgs st) (defBody st) (defScope st) .none kV dc pm an cd ct), sl⟩ ∧ PySem.W.codeIn K cd nm = true ∧ PySem.W.keepIn K (.ref f) = true
theorem defAt_mk {K : PySem.W.Frag} {nm : Str} {st : Stmt} {f : Addr} {oc : Value} {od an : Option Addr} {kV dc pm cd ct : Value} {sl : Array (Option Value)}
    (a : PySem.W.nsIn K mainGlobals nm = some (some (.ref f))) (l : K.lookup f = some ⟨oc, od, .func (PySem.W.fnOf nm nm (defArgs st) (defBody st) (defScope st) .none kV dc pm an cd ct), sl⟩) (c : PySem.W.codeIn K cd nm = true) (k : PySem.W.keepIn K (.ref f) = true) : DefAt K nm st :=
  ⟨f, oc, od, an, kV, dc, pm, cd, ct, sl, a, l, c, k⟩
theorem entAt_mk {K : PySem.W.Frag} {h : Heap} {mg : Str → Option Value} (X : K.In h) (G : h.Ns mainGlobals mg) (e : Ent) (d : DefAt K e.nm e.st)
    (hb : ∀ (kV doc pm : Value) (an : Option Addr) (cdv ct : Value) (us : List Value), us.length = e.ps.length → bindArgs (PySem.W.fnOf e.nm e.nm (defArgs e.st) (defBody e.st) (defScope e.st) .none kV doc pm an cdv ct) ⟨us, []⟩ = pure (e.ps.zip us)) :
    ∃ f fd, EntAt K mg e f fd := by
  obtain ⟨f, oc, od, an, kV, dc, pm, cd, ct, sl, a, l, c, k⟩ := d
  have F := fun_mk (st := e.st) l c k
  exact ⟨f, _, F, F.binds hb, PySem.W.mg_of X G a⟩
def CstAt (K : PySem.W.Frag) (nm : Str) (d : D) : Prop := ∃ u v, PySem.W.nsIn K mainGlobals nm = some (some u) ∧ RelV v u ∧ ∀ F, Dn K F v d
theorem cst_of {K : PySem.W.Frag} {h : Heap} {mg : Str → Option Value} (X : K.In h) (G : h.Ns mainGlobals mg) {cs : List (Str × D)} (H : ∀ p, p ∈ cs → CstAt K p.1 p.2) : ∀ x d, cs.lookup x = some d → ∃ v u, mg x = some u ∧ RelV v u ∧ ∀ F, Dn K F v d := by
  intro x d e
  have hm : (x, d) ∈ cs := by
    induction cs with
    | nil => cases e
    | cons p cs ih =>
      obtain ⟨y, d'⟩ := p
      rw [List.lookup_cons] at e
      by_cases q : x == y
      · rw [q] at e
        cases e
        rw [beq_iff_eq.mp q]
        exact List.mem_cons_self
      · rw [Bool.eq_false_iff.mpr q] at e
        exact List.mem_cons_of_mem _ (ih (fun p hp => H p (List.mem_cons_of_mem _ hp)) e)
  obtain ⟨u, v, a, r, dn⟩ := H (x, d) hm
  exact ⟨v, u, PySem.W.mg_of X G a, r, dn⟩
/-- dicts with text keys -/
inductive DRow (K : PySem.W.Frag) (P : Params) : List DictEntry → List (Str × D) → Prop
  | nil : DRow K P [] []
  | cons {e : DictEntry} {es : List DictEntry} {x : Str} {t : Tok} {v : V} {dv : D} {kvs : List (Str × D)} : e.key = .str x t → e.hash = PyData.keyHash P x → RelV v e.val → (∀ F, Dn K F v dv) → DRow K P es kvs → DRow K P (e :: es) ((x, dv) :: kvs)
theorem DRow.lit {K : PySem.W.Frag} {P : Params} {es : List DictEntry} {kvs : List (Str × D)} (h : DRow K P es kvs) : PySem.W.KeysLit P es := by
  induction h with
  | nil => trivial
  | cons h1 h2 _ _ _ ih => exact ⟨⟨_, _, h1, h2⟩, ih⟩
theorem DRow.find {K : PySem.W.Frag} {P : Params} {es : List DictEntry} {kvs : List (Str × D)} (h : DRow K P es kvs) (z : Str) : es.any (·.refKey) = false ∧ ((es.find? (·.key.isStr z)).isSome = (kvs.lookup z).isSome) ∧ ∀ dv, kvs.lookup z = some dv → ∃ e v, es.find? (·.key.isStr z) = some e ∧ RelV v e.val ∧ ∀ F, Dn K F v dv := by
  induction h with
  | nil => exact ⟨rfl, rfl, fun dv e => by cases e⟩
  | @cons e es x t v dv kvs h1 h2 h3 h4 _ ih =>
    have hk : e.key.isStr z = (x == z) := by rw [h1]; rfl
    have hr : e.refKey = false := by unfold DictEntry.refKey; rw [h1]
    obtain ⟨i1, i2, i3⟩ := ih
    refine ⟨by rw [List.any_cons, hr, i1]; rfl, ?_, ?_⟩
    · rw [List.find?_cons, hk, List.lookup_cons]
      by_cases q : x = z
      · subst q; simp
      · have q1 : (x == z) = false := beq_eq_false_iff_ne.mpr q
        have q2 : (z == x) = false := beq_eq_false_iff_ne.mpr (Ne.symm q)
        rw [q1, q2]; exact i2
    · intro dv' ed
      rw [List.lookup_cons] at ed
      rw [List.find?_cons, hk]
      by_cases q : x = z
      · subst q
        simp at ed
        subst ed
        exact ⟨e, v, by simp, h3, h4⟩
      · have q1 : (x == z) = false := beq_eq_false_iff_ne.mpr q
        have q2 : (z == x) = false := beq_eq_false_iff_ne.mpr (Ne.symm q)
        rw [q2] at ed
        rw [q1]
        exact i3 dv' ed
theorem DRow.ord {K : PySem.W.Frag} {P : Params} {es : List DictEntry} {kvs : List (Str × D)} (h : DRow K P es kvs) : es.length = kvs.length ∧ ∀ (i : Nat) x dv, kvs[i]? = some (x, dv) → ∃ (en : DictEntry) (t : Tok), es[i]? = some en ∧ en.key = Value.str x t := by
  induction h with
  | nil => exact ⟨rfl, fun i x dv e => by simp at e⟩
  | @cons e es x t v dv kvs h1 h2 h3 h4 _ ih =>
    refine ⟨by simp [ih.1], fun i y dw q => ?_⟩
    cases i with
    | zero =>
      simp at q
      exact ⟨e, t, rfl, by rw [h1, q.1]⟩
    | succ i => simpa using ih.2 i y dw (by simpa using q)
def DctAt (K : PySem.W.Frag) (w : World) (nm : Str) (kvs : List (Str × D)) : Prop := ∃ d, PySem.W.nsIn K mainGlobals nm = some (some (.ref d)) ∧ DctK K w d kvs
theorem dct_mk {K : PySem.W.Frag} {w : World} {nm : Str} {kvs : List (Str × D)} {d : Addr} {es : Array DictEntry} {n : Nat} (a : PySem.W.nsIn K mainGlobals nm = some (some (.ref d))) (l : K.lookup d = some ⟨.type "dict", none, .dict es n, #[]⟩)
    (low : (d == sysModules) = false) (r : DRow K w.params es.toList kvs) : DctAt K w nm kvs := by
  refine ⟨d, a, es, n, l, r.lit, low, ⟨by rw [← r.ord.1, Array.length_toList], fun i x dv q => ?_⟩, fun z => ?_⟩
  · obtain ⟨en, t, q1, q2⟩ := r.ord.2 i x dv q
    exact ⟨en, t, by rw [← Array.getElem?_toList]; exact q1, q2⟩
  obtain ⟨h1, h2, h3⟩ := r.find z
  have e : PySem.W.nsIn K d z = some ((es.toList.find? (·.key.isStr z)).map (·.val)) := by
    unfold PySem.W.nsIn
    rw [l]
    cases q : es.toList.find? (·.key.isStr z) with
    | some e => simp only [q]; rfl
    | none => simp only [q, h1]; rfl
  refine ⟨_, e, by rw [Option.isSome_map]; exact h2, fun dv ed => ?_⟩
  obtain ⟨e', v, q1, q2, q3⟩ := h3 dv ed
  exact ⟨e'.val, v, by rw [q1]; rfl, q2, q3⟩
theorem dn_bbb {K : PySem.W.Frag} {a : Addr} {dd : Option Addr} {n : Nat} {sl : Array (Option Value)} {x y z : Bool} (l : K.lookup a = some ⟨.type "tuple", dd, .seq #[.bool x, .bool y, .bool z] n, sl⟩) : ∀ F, Dn K F (.ref a) (.tuple [.bool x, .bool y, .bool z]) := fun F =>
  .tup (.inr ⟨_, #[.bool x, .bool y, .bool z], n, l, rfl, rfl, by show 3 ≤ sizeLine; decide, Paired.cons (show RelV (.bl x) (.bool x) from rfl) (Paired.cons (show RelV (.bl y) (.bool y) from rfl) (Paired.cons (show RelV (.bl z) (.bool z) from rfl) .nil))⟩) (.cons (.bl x) (.cons (.bl y) (.cons (.bl z) .nil)))
theorem dct_of {K : PySem.W.Frag} {w : World} {h : Heap} {mg : Str → Option Value} (X : K.In h) (G : h.Ns mainGlobals mg) {ds : List (Str × List (Str × D))} (H : ∀ p, p ∈ ds → DctAt K w p.1 p.2) : ∀ x kvs, ds.lookup x = some kvs → ∃ d, mg x = some (.ref d) ∧ DctK K w d kvs := by
  intro x kvs e
  have hm : (x, kvs) ∈ ds := by
    induction ds with
    | nil => cases e
    | cons p ds ih =>
      obtain ⟨y, d'⟩ := p
      rw [List.lookup_cons] at e
      by_cases q : x == y
      · rw [q] at e
        cases e
        rw [beq_iff_eq.mp q]
        exact List.mem_cons_self
      · rw [Bool.eq_false_iff.mpr q] at e
        exact List.mem_cons_of_mem _ (ih (fun p hp => H p (List.mem_cons_of_mem _ hp)) e)
  obtain ⟨d, a, dk⟩ := H (x, kvs) hm
  exact ⟨d, PySem.W.mg_of X G a, dk⟩
def lsA (l : List Addr) (k : Nat) : Addr := l.getD k 0
/-- all together -/
theorem law_mk {l : PySem.W.OpenLaw} {w : World} {K : PySem.W.Frag} {h : Heap} {mg : Str → Option Value} {fa : Addr} {es : List Ent} {cs : List (Str × D)} {ds : List (Str × List (Str × D))} {cl : Nat → Value} {xs : List (Str × Nat)} {wb : Bool} {e : Ent} {n : Nat} (X : K.In h) (G : h.Ns mainGlobals mg) (hfa : mg "law" = some (.ref fa))
    (he : e ∈ es) (hn : e.nm = "law") (hp : e.ps = ([("script" : Str)] : List Str)) (nd : (es.map (·.ix)).Nodup) (oks : es.all (entOk ⟨cs, ds, fnsOf es, xs, wb⟩) = true)
    (hb : ∀ (s : Shared) (kV doc pm : Value) (an : Option Addr) (cdv ct u : Value), BindsTo s (PySem.W.fnOf e.nm e.nm (defArgs e.st) (defBody e.st) (defScope e.st) .none kV doc pm an cdv ct) ⟨[u], []⟩ [("script", u)])
    (ents : ∀ e, e ∈ es → ∃ f fd, EntAt K mg e f fd) (blt : ∀ x, x ∈ bltNames → PySem.W.nsIn K mainGlobals x = some none) (csts : ∀ p, p ∈ cs → CstAt K p.1 p.2) (dcts : ∀ p, p ∈ ds → DctAt K w p.1 p.2) (xcs : ∀ x c, (x, c) ∈ xs → XcT K mg cl x c) (wrd : wb = true → WordT K mg cl)
    (H : ∀ ns : List Int, ns.length ≤ 63 → call (tabOf es) n e.ix [.s (ns.map PyData.int)] = .ok (.d (.bool true))) :
    ∃ fd : FuncData, (∀ (s : Shared) (v : Value), BindsTo s fd ⟨[v], []⟩ [("script", v)]) ∧ ∀ base : Heap, K.In base → base.Ns mainGlobals mg → FnOk l.prog w K mg base (L2N.CX l.prog w) (n + 1) fa fd ["script"] (spLaw K) := by
  obtain ⟨f, fd, A⟩ := ents e he
  have ef : f = fa := by
    have q := A.at_
    rw [hn, hfa] at q
    cases q
    rfl
  subst ef
  refine ⟨fd, fun s v => ?_, fun base _ _ => ?_⟩
  · obtain ⟨oc, od, kV, dc, pm, an, cdv, ct, osl, rfl, lk, hcd⟩ := A.fn.ex
    exact hb s kV dc pm an cdv ct v
  · have nps : ∀ e, e ∈ es → e.fn.np = e.ps.length := fun e he => by
      have := List.all_eq_true.mp oks e he
      unfold entOk at this
      simp only [Bool.and_eq_true, decide_eq_true_eq] at this
      exact this.1.2
    have Tp : Top l.prog K w mg base cl [] es ⟨cs, ds, fnsOf es, xs, wb⟩ := ⟨⟨rfl, nd, ents, nps, fun x hx => PySem.W.mg_none_of X G (blt x hx), cst_of X G csts, dct_of X G dcts, xcs, wrd⟩, fun e he _ => List.all_eq_true.mp oks e he, fun _ _ h => by cases h⟩
    have F := all_ok (P := l.prog) (w := w) (base := base) Tp n e f fd he A
    rw [hp] at F
    exact law_ok F H
theorem walk_mk {l : PySem.W.OpenLaw} {q : Program} {loose : List Str} {XP : (Str → Option Value) → Heap → Prop} {YP : World → Heap → Prop} {d : DefRec} {K : Params → PySem.W.Frag} {n : Nat} (hn : l.most = some 63) (hdf : d.params.defaults = []) (hr : Room (n + 1) callerA)
    (hY : ∀ (w : World) (h : Heap), YP w h → (K w.params).In h)
    (F : ∀ (w : World) (mg : Str → Option Value) (fa : Addr) (h : Heap), (K w.params).In h → h.Ns mainGlobals mg → mg d.name = some (.ref fa) →
      ∃ fd : FuncData, (∀ (s : Shared) (u : Value), BindsTo s fd ⟨[u], []⟩ [("script", u)]) ∧ ∀ base : Heap, (K w.params).In base → base.Ns mainGlobals mg → FnOk l.prog w (K w.params) mg base (L2N.CX l.prog w) (n + 1) fa fd ["script"] (spLaw (K w.params))) :
    PySem.W.WalkO q loose XP YP l.row.toRowW d [] (fun f vs => PySem.call f vs) :=
  L2.walk_of (n := 63) (k := n + 1) (x := "script") (CX := fun w => L2N.CX l.prog w) (sp := fun w => spLaw (K w.params)) hn (by decide) hdf hr hY F (fun _ _ a ns hl _ hS => ⟨a, ns, rfl, hS, hl, fun _ => rfl⟩) fun _ _ _ _ _ z => by
    obtain ⟨_, _, _, _, _, _, _, _, _, _, _, _, z⟩ := z
    exact z
end PP
set_option Elab.async false
set_option linter.all false
set_option autoImplicit false
set_option maxRecDepth 100000
namespace PP
open PySem
abbrev t_side : Str := ⟨#[115, 105, 100, 101]⟩
abbrev t_pane : Str := ⟨#[112, 97, 110, 101]⟩
abbrev t_stack : Str := ⟨#[115, 116, 97, 99, 107]⟩
abbrev t_a : Str := ⟨#[97]⟩
abbrev t_A : Str := ⟨#[65]⟩
abbrev t_empty : Str := ⟨#[]⟩
abbrev t__20_ : Str := ⟨#[32]⟩
abbrev t_left : Str := ⟨#[108, 101, 102, 116]⟩
abbrev t_right : Str := ⟨#[114, 105, 103, 104, 116]⟩
abbrev t_cross : Str := ⟨#[99, 114, 111, 115, 115]⟩
abbrev t_same : Str := ⟨#[115, 97, 109, 101]⟩
abbrev t_half : Str := ⟨#[104, 97, 108, 102]⟩
abbrev t_mirror : Str := ⟨#[109, 105, 114, 114, 111, 114]⟩
abbrev t_flip : Str := ⟨#[102, 108, 105, 112]⟩
abbrev t_over : Str := ⟨#[111, 118, 101, 114]⟩
abbrev t_under : Str := ⟨#[117, 110, 100, 101, 114]⟩
/-- is_whole -/
def f0_is_whole : Fn := ⟨3, 3, (.cons (.ret (.and (.isi .int (.var 0)) (.and (.not (.isi .bool (.var 0))) (.chn .le .le (.var 1) (.var 0) (.var 2))))) .nil)⟩
/-- _law_cell -/
def f14_law_cell : Fn := ⟨2, 2, (.cons (.ifs (.cmp .lt (.var 1) (.blt .len (.cons (.var 0) .nil))) (.cons (.ret (.idx (.var 0) (.var 1))) .nil) .nil) (.cons (.ret (.cst (.int 0))) .nil))⟩
/-- _law_mix -/
def f4_law_mix : Fn := ⟨3, 4, (.cons (.asg (.nm 3) (.bin .mod (.bin .mul (.var 0) (.cst (.int 48271))) (.var 1))) (.cons (.ret (.bin .mod (.bin .mod (.bin .mul (.var 3) (.bin .add (.var 3) (.cst (.int 7)))) (.var 1)) (.var 2))) .nil))⟩
/-- _law_window -/
def f8_law_window : Fn := ⟨1, 1, (.cons (.ret (.tup (.cons (.bin .add (.cst (.int 1)) (.call 4 (.cons (.var 0) (.cons (.cst (.int 9973)) (.cons (.cst (.int 6)) .nil))))) (.cons (.bin .add (.cst (.int 1)) (.call 4 (.cons (.var 0) (.cons (.cst (.int 9967)) (.cons (.cst (.int 6)) .nil))))) .nil)))) .nil)⟩
/-- _law_parts -/
def f5_law_parts : Fn := ⟨3, 3, (.cons (.ifs (.cmp .eq (.var 0) (.cst (.str t_side))) (.cons (.ret (.tup (.cons (.tup (.cons (.var 1) (.cons (.idx (.var 2) (.cst (.int 1))) .nil))) (.cons (.tup (.cons (.bin .sub (.idx (.var 2) (.cst (.int 0))) (.var 1)) (.cons (.idx (.var 2) (.cst (.int 1))) .nil))) .nil)))) .nil) .nil) (.cons (.ret (.tup (.cons (.tup (.cons (.idx (.var 2) (.cst (.int 0))) (.cons (.var 1) .nil))) (.cons (.tup (.cons (.idx (.var 2) (.cst (.int 0))) (.cons (.bin .sub (.idx (.var 2) (.cst (.int 1))) (.var 1)) .nil))) .nil)))) .nil))⟩
/-- _law_tree -/
def f6_law_tree : Fn := ⟨3, 9, (.cons (.asg (.nm 3) (.bin .add (.bin .mul (.lst (.cons (.cst (.str t_side)) .nil)) (.blt .int (.cons (.cmp .gt (.idx (.var 1) (.cst (.int 0))) (.cst (.int 1))) .nil))) (.bin .mul (.lst (.cons (.cst (.str t_stack)) .nil)) (.blt .int (.cons (.cmp .gt (.idx (.var 1) (.cst (.int 1))) (.cst (.int 1))) .nil))))) (.cons (.ifs (.or (.cmp .lt (.var 2) (.cst (.int 2))) (.or (.cmp .eq (.var 3) (.lst .nil)) (.cmp .eq (.call 4 (.cons (.var 0) (.cons (.cst (.int 9949)) (.cons (.cst (.int 9)) .nil)))) (.cst (.int 0))))) (.cons (.ret (.tup (.cons (.cst (.str t_pane)) .nil))) .nil) .nil) (.cons (.asg (.nm 4) (.idx (.var 3) (.call 4 (.cons (.var 0) (.cons (.cst (.int 9941)) (.cons (.blt .len (.cons (.var 3) .nil)) .nil)))))) (.cons (.asg (.nm 5) (.bin .add (.cst (.int 1)) (.call 4 (.cons (.var 0) (.cons (.cst (.int 9931)) (.cons (.bin .sub (.idx (.var 1) (.blt .int (.cons (.cmp .eq (.var 4) (.cst (.str t_stack))) .nil))) (.cst (.int 1))) .nil)))))) (.cons (.asg (.nm 6) (.bin .add (.cst (.int 1)) (.call 4 (.cons (.var 0) (.cons (.cst (.int 9929)) (.cons (.bin .sub (.var 2) (.cst (.int 1))) .nil)))))) (.cons (.asg (.tp [7, 8]) (.call 5 (.cons (.var 4) (.cons (.var 5) (.cons (.var 1) .nil))))) (.cons (.ret (.tup (.cons (.var 4) (.cons (.var 5) (.cons (.call 6 (.cons (.bin .add (.var 0) (.cst (.int 7))) (.cons (.var 7) (.cons (.var 6) .nil)))) (.cons (.call 6 (.cons (.bin .add (.var 0) (.cst (.int 11))) (.cons (.var 8) (.cons (.bin .sub (.var 2) (.var 6)) .nil)))) .nil)))))) .nil)))))))⟩
/-- _law_panes -/
def f7_law_panes : Fn := ⟨4, 9, (.cons (.ifs (.cmp .eq (.var 0) (.tup (.cons (.cst (.str t_pane)) .nil))) (.cons (.ret (.lst (.cons (.bin .add (.tup (.cons (.var 1) (.cons (.var 2) .nil))) (.var 3)) .nil))) .nil) .nil) (.cons (.asg (.tp [5, 6]) (.slc (.var 0) .nil (.cons (.cst (.int 2)) .nil))) (.cons (.asg (.tp [7, 8]) (.call 5 (.cons (.var 5) (.cons (.var 6) (.cons (.var 3) .nil))))) (.cons (.asg (.nm 4) (.tup (.cons (.bin .add (.var 1) (.bin .mul (.var 6) (.blt .int (.cons (.cmp .eq (.var 5) (.cst (.str t_side))) .nil)))) (.cons (.bin .add (.var 2) (.bin .mul (.var 6) (.blt .int (.cons (.cmp .eq (.var 5) (.cst (.str t_stack))) .nil)))) .nil)))) (.cons (.ret (.bin .add (.call 7 (.cons (.idx (.var 0) (.cst (.int 2))) (.cons (.var 1) (.cons (.var 2) (.cons (.var 7) .nil))))) (.call 7 (.cons (.idx (.var 0) (.cst (.int 3))) (.cons (.idx (.var 4) (.cst (.int 0))) (.cons (.idx (.var 4) (.cst (.int 1))) (.cons (.var 8) .nil))))))) .nil)))))⟩
/-- _law_odd -/
def f11_law_odd : Fn := ⟨2, 4, (.cons (.ifs (.and (.isi .tuple (.var 0)) (.and (.cmp .ne (.var 0) (.tup .nil)) (.cmp .gt (.call 4 (.cons (.var 1) (.cons (.cst (.int 9781)) (.cons (.cst (.int 5)) .nil)))) (.cst (.int 0))))) (.cons (.asg (.nm 3) (.call 4 (.cons (.var 1) (.cons (.cst (.int 9769)) (.cons (.blt .len (.cons (.var 0) .nil)) .nil))))) (.cons (.ret (.bin .add (.bin .add (.slc (.var 0) .nil (.cons (.var 3) .nil)) (.tup (.cons (.call 11 (.cons (.idx (.var 0) (.var 3)) (.cons (.bin .add (.bin .add (.var 1) (.bin .mul (.cst (.int 31)) (.var 3))) (.cst (.int 7))) .nil))) .nil))) (.slc (.var 0) (.cons (.bin .add (.var 3) (.cst (.int 1))) .nil) .nil))) .nil)) .nil) (.cons (.asg (.nm 2) (.lst (.cons (.cst (.none)) (.cons (.cst (.bool true)) (.cons (.cst (.bool false)) (.cons (.cst (.int 0)) (.cons (.cst (.int 1)) (.cons (.neg (.cst (.int 1))) (.cons (.cst (.int 2)) (.cons (.cst (.int 7)) (.cons (.cst (.int 10)) (.cons (.cst (.int 1000)) (.cons (.cst (.str t_empty)) (.cons (.cst (.str t_a)) (.cons (.cst (.str t_A)) (.cons (.tup .nil) (.cons (.tup (.cons (.cst (.str t_a)) .nil)) (.cons (.lst (.cons (.cst (.int 1)) .nil)) .nil)))))))))))))))))) (.cons (.ifs (.isi .tuple (.var 0)) (.cons (.asg (.nm 2) (.bin .add (.var 2) (.bin .mul (.lst (.cons (.blt .list (.cons (.var 0) .nil)) (.cons (.bin .add (.var 0) (.slc (.var 0) (.cons (.neg (.cst (.int 1))) .nil) .nil)) (.cons (.slc (.var 0) .nil (.cons (.neg (.cst (.int 1))) .nil)) (.cons (.rev (.var 0)) (.cons (.slc (.var 0) (.cons (.cst (.int 1)) .nil) .nil) (.cons (.tup (.cons (.var 0) .nil)) .nil))))))) (.cst (.int 2))))) .nil) (.cons (.ifs (.isi .str (.var 0)) (.cons (.asg (.nm 2) (.bin .add (.var 2) (.bin .mul (.lst (.cons (.bin .add (.var 0) (.cst (.str t_a))) (.cons (.slc (.var 0) .nil (.cons (.neg (.cst (.int 1))) .nil)) (.cons (.upp (.var 0)) (.cons (.bin .add (.var 0) (.cst (.str t__20_))) (.cons (.bin .mul (.var 0) (.cst (.int 2))) (.cons (.lst (.cons (.var 0) .nil)) (.cons (.bin .add (.var 0) (.slc (.var 0) .nil (.cons (.cst (.int 1)) .nil))) .nil)))))))) (.cst (.int 2))))) .nil) (.cons (.ifs (.isi .int (.var 0)) (.cons (.asg (.nm 2) (.bin .add (.var 2) (.bin .mul (.lst (.cons (.bin .add (.var 0) (.cst (.int 1))) (.cons (.bin .sub (.var 0) (.cst (.int 1))) (.cons (.bin .sub (.cst (.int 0)) (.var 0)) (.cons (.tup (.cons (.var 0) .nil)) (.cons (.bin .add (.var 0) (.cst (.int 2))) (.cons (.bin .mul (.var 0) (.cst (.int 2))) .nil))))))) (.cst (.int 2))))) .nil) .nil) .nil)) .nil)) (.cons (.ret (.idx (.var 2) (.call 4 (.cons (.var 1) (.cons (.cst (.int 9749)) (.cons (.blt .len (.cons (.var 2) .nil)) .nil)))))) .nil))))⟩
/-- is_window -/
def f1_is_window : Fn := ⟨1, 2, (.cons (.ret (.and (.isi .tuple (.var 0)) (.and (.cmp .eq (.blt .len (.cons (.var 0) .nil)) (.cst (.int 2))) (.blt .all (.cons (.lc (.nm 1) (.seq (.var 0)) (.call 0 (.cons (.var 1) (.cons (.cst (.int 1)) (.cons (.cst (.int 6)) .nil))))) .nil))))) .nil)⟩
/-- is_part -/
def f2_is_part : Fn := ⟨2, 7, (.cons (.ifs (.or (.not (.isi .tuple (.var 0))) (.or (.cmp .ne (.blt .len (.cons (.var 0) .nil)) (.cst (.int 4))) (.not (.blt .all (.cons (.lc (.nm 6) (.seq (.var 0)) (.call 0 (.cons (.var 6) (.cons (.cst (.int 0)) (.cons (.cst (.int 6)) .nil))))) .nil))))) (.cons (.ret (.cst (.bool false))) .nil) .nil) (.cons (.asg (.tp [2, 3, 4, 5]) (.var 0)) (.cons (.ret (.and (.cmp .gt (.var 4) (.cst (.int 0))) (.and (.cmp .gt (.var 5) (.cst (.int 0))) (.and (.cmp .le (.bin .add (.var 2) (.var 4)) (.idx (.var 1) (.cst (.int 0)))) (.cmp .le (.bin .add (.var 3) (.var 5)) (.idx (.var 1) (.cst (.int 1)))))))) .nil)))⟩
/-- spots_of -/
def f3_spots_of : Fn := ⟨1, 8, (.cons (.asg (.tp [3, 4, 5, 6]) (.var 0)) (.cons (.own 1 (.lst .nil)) (.cons (.for_ (.nm 2) (.rng2 (.var 4) (.bin .add (.var 4) (.var 6))) (.cons (.ext 1 (.lc (.nm 7) (.rng2 (.var 3) (.bin .add (.var 3) (.var 5))) (.tup (.cons (.var 7) (.cons (.var 2) .nil))))) .nil)) (.cons (.rtl 1) .nil))))⟩
/-- is_picture -/
def f16_is_picture : Fn := ⟨1, 6, (.cons (.ifs (.or (.not (.isi .tuple (.var 0))) (.or (.cmp .ne (.blt .len (.cons (.var 0) .nil)) (.cst (.int 2))) (.or (.not (.call 1 (.cons (.idx (.var 0) (.cst (.int 0))) .nil))) (.not (.isi .tuple (.idx (.var 0) (.cst (.int 1)))))))) (.cons (.ret (.cst (.bool false))) .nil) .nil) (.cons (.asg (.tp [3, 4]) (.var 0)) (.cons (.ifs (.or (.not (.chn .le .le (.cst (.int 1)) (.blt .len (.cons (.var 4) .nil)) (.cst (.int 7)))) (.not (.blt .all (.cons (.lc (.nm 2) (.seq (.var 4)) (.call 2 (.cons (.var 2) (.cons (.var 3) .nil)))) .nil)))) (.cons (.ret (.cst (.bool false))) .nil) .nil) (.cons (.ifs (.not (.blt .all (.cons (.lc (.nm 5) (.rng2 (.cst (.int 1)) (.blt .len (.cons (.var 4) .nil))) (.cmp .lt (.idx (.var 4) (.bin .sub (.var 5) (.cst (.int 1)))) (.idx (.var 4) (.var 5)))) .nil))) (.cons (.ret (.cst (.bool false))) .nil) .nil) (.cons (.own 1 (.lst .nil)) (.cons (.for_ (.nm 2) (.seq (.var 4)) (.cons (.ext 1 (.call 3 (.cons (.var 2) .nil))) .nil)) (.cons (.ret (.and (.cmp .eq (.blt .len (.cons (.var 1) .nil)) (.bin .mul (.idx (.var 3) (.cst (.int 0))) (.idx (.var 3) (.cst (.int 1))))) (.cmp .eq (.lenset (.var 1)) (.blt .len (.cons (.var 1) .nil))))) .nil)))))))⟩
/-- _law_picture_of -/
def f9_law_picture_of : Fn := ⟨2, 2, (.cons (.ret (.tup (.cons (.var 1) (.cons (.blt .tuple (.cons (.blt .sorted (.cons (.call 7 (.cons (.var 0) (.cons (.cst (.int 0)) (.cons (.cst (.int 0)) (.cons (.var 1) .nil))))) .nil)) .nil)) .nil)))) .nil)⟩
/-- lines_in -/
def f26_lines_in : Fn := ⟨2, 11, (.cons (.asg (.tp [4, 5, 6, 7]) (.var 0)) (.cons (.asg (.nm 2) (.lcf (.nm 8) (.rng2 (.bin .add (.var 4) (.cst (.int 1))) (.bin .add (.var 4) (.var 6))) (.not (.blt .any (.cons (.lc (.nm 10) (.seq (.var 1)) (.chn .lt .lt (.idx (.var 10) (.cst (.int 0))) (.var 8) (.bin .add (.idx (.var 10) (.cst (.int 0))) (.idx (.var 10) (.cst (.int 2)))))) .nil))) (.var 8))) (.cons (.asg (.nm 3) (.lcf (.nm 9) (.rng2 (.bin .add (.var 5) (.cst (.int 1))) (.bin .add (.var 5) (.var 7))) (.not (.blt .any (.cons (.lc (.nm 10) (.seq (.var 1)) (.chn .lt .lt (.idx (.var 10) (.cst (.int 1))) (.var 9) (.bin .add (.idx (.var 10) (.cst (.int 1))) (.idx (.var 10) (.cst (.int 3)))))) .nil))) (.var 9))) (.cons (.ret (.tup (.cons (.var 2) (.cons (.var 3) .nil)))) .nil))))⟩
/-- _law_through -/
def f27_law_through : Fn := ⟨2, 10, (.cons (.asg (.tp [6, 7, 8, 9]) (.var 1)) (.cons (.own 2 (.lst .nil)) (.cons (.for_ (.nm 3) (.rng2 (.bin .add (.var 6) (.cst (.int 1))) (.bin .add (.var 6) (.var 8))) (.cons (.ifs (.cmp .eq (.lcf (.nm 5) (.rng2 (.var 7) (.bin .add (.var 7) (.var 9))) (.cmp .eq (.mget 0 (.cons (.var 3) (.cons (.var 5) .nil))) (.mget 0 (.cons (.bin .sub (.var 3) (.cst (.int 1))) (.cons (.var 5) .nil)))) (.var 5)) (.lst .nil)) (.cons (.app 2 (.var 3)) .nil) .nil) .nil)) (.cons (.own 4 (.lst .nil)) (.cons (.for_ (.nm 5) (.rng2 (.bin .add (.var 7) (.cst (.int 1))) (.bin .add (.var 7) (.var 9))) (.cons (.ifs (.cmp .eq (.lcf (.nm 3) (.rng2 (.var 6) (.bin .add (.var 6) (.var 8))) (.cmp .eq (.mget 0 (.cons (.var 3) (.cons (.var 5) .nil))) (.mget 0 (.cons (.var 3) (.cons (.bin .sub (.var 5) (.cst (.int 1))) .nil)))) (.var 3)) (.lst .nil)) (.cons (.app 4 (.var 5)) .nil) .nil) .nil)) (.cons (.frz 2) (.cons (.frz 4) (.cons (.ret (.tup (.cons (.var 2) (.cons (.var 4) .nil)))) .nil))))))))⟩
/-- halves -/
def f30_halves : Fn := ⟨4, 12, (.cons (.asg (.tp [7, 8, 9, 10]) (.var 0)) (.cons (.asg (.nm 4) (.blt .int (.cons (.cmp .eq (.var 2) (.cst (.str t_stack))) .nil))) (.cons (.asg (.nm 5) (.lcf (.nm 11) (.seq (.var 1)) (.cmp .lt (.idx (.var 11) (.var 4)) (.var 3)) (.var 11))) (.cons (.asg (.nm 6) (.lcf (.nm 11) (.seq (.var 1)) (.cmp .ge (.idx (.var 11) (.var 4)) (.var 3)) (.var 11))) (.cons (.ifs (.cmp .eq (.var 2) (.cst (.str t_side))) (.cons (.ret (.tup (.cons (.tup (.cons (.tup (.cons (.var 7) (.cons (.var 8) (.cons (.bin .sub (.var 3) (.var 7)) (.cons (.var 10) .nil))))) (.cons (.var 5) .nil))) (.cons (.tup (.cons (.tup (.cons (.var 3) (.cons (.var 8) (.cons (.bin .sub (.bin .add (.var 7) (.var 9)) (.var 3)) (.cons (.var 10) .nil))))) (.cons (.var 6) .nil))) .nil)))) .nil) .nil) (.cons (.ret (.tup (.cons (.tup (.cons (.tup (.cons (.var 7) (.cons (.var 8) (.cons (.var 9) (.cons (.bin .sub (.var 3) (.var 8)) .nil))))) (.cons (.var 5) .nil))) (.cons (.tup (.cons (.tup (.cons (.var 7) (.cons (.var 3) (.cons (.var 9) (.cons (.bin .sub (.bin .add (.var 8) (.var 10)) (.var 3)) .nil))))) (.cons (.var 6) .nil))) .nil)))) .nil))))))⟩
/-- cuts_in -/
def f32_cuts_in : Fn := ⟨2, 5, (.cons (.asg (.tp [2, 3]) (.call 26 (.cons (.var 0) (.cons (.var 1) .nil)))) (.cons (.ret (.bin .add (.lc (.nm 4) (.seq (.var 2)) (.tup (.cons (.cst (.str t_side)) (.cons (.var 4) .nil)))) (.lc (.nm 4) (.seq (.var 3)) (.tup (.cons (.cst (.str t_stack)) (.cons (.var 4) .nil)))))) .nil))⟩
/-- _law_all_trees -/
def f34_law_all_trees : Fn := ⟨2, 14, (.cons (.asg (.tp [5, 6, 7, 8]) (.var 1)) (.cons (.ifs (.cmp .eq (.lensi (.lc (.nm 13) (.rng1 (.bin .mul (.var 7) (.var 8))) (.mget 0 (.cons (.bin .add (.var 5) (.bin .mod (.var 13) (.var 7))) (.cons (.bin .add (.var 6) (.bin .fdiv (.var 13) (.var 7))) .nil))))) (.cst (.int 1))) (.cons (.ret (.lst (.cons (.tup (.cons (.cst (.str t_pane)) .nil)) .nil))) .nil) .nil) (.cons (.asg (.tp [9, 10]) (.call 27 (.cons (.var 0) (.cons (.var 1) .nil)))) (.cons (.own 2 (.lst .nil)) (.cons (.for_ (.nm 3) (.seq (.var 9)) (.cons (.for_ (.nm 11) (.seq (.call 34 (.cons (.var 0) (.cons (.tup (.cons (.var 5) (.cons (.var 6) (.cons (.bin .sub (.var 3) (.var 5)) (.cons (.var 8) .nil))))) .nil)))) (.cons (.for_ (.nm 12) (.seq (.call 34 (.cons (.var 0) (.cons (.tup (.cons (.var 3) (.cons (.var 6) (.cons (.bin .sub (.bin .add (.var 5) (.var 7)) (.var 3)) (.cons (.var 8) .nil))))) .nil)))) (.cons (.app 2 (.tup (.cons (.cst (.str t_side)) (.cons (.bin .sub (.var 3) (.var 5)) (.cons (.var 11) (.cons (.var 12) .nil)))))) .nil)) .nil)) .nil)) (.cons (.for_ (.nm 4) (.seq (.var 10)) (.cons (.for_ (.nm 11) (.seq (.call 34 (.cons (.var 0) (.cons (.tup (.cons (.var 5) (.cons (.var 6) (.cons (.var 7) (.cons (.bin .sub (.var 4) (.var 6)) .nil))))) .nil)))) (.cons (.for_ (.nm 12) (.seq (.call 34 (.cons (.var 0) (.cons (.tup (.cons (.var 5) (.cons (.var 4) (.cons (.var 7) (.cons (.bin .sub (.bin .add (.var 6) (.var 8)) (.var 4)) .nil))))) .nil)))) (.cons (.app 2 (.tup (.cons (.cst (.str t_stack)) (.cons (.bin .sub (.var 4) (.var 6)) (.cons (.var 11) (.cons (.var 12) .nil)))))) .nil)) .nil)) .nil)) (.cons (.rtl 2) .nil)))))))⟩
/-- knot_in -/
def f43_knot_in : Fn := ⟨2, 6, (.cons (.ifs (.cmp .eq (.blt .len (.cons (.var 1) .nil)) (.cst (.int 1))) (.cons (.ret (.cst (.none))) .nil) .nil) (.cons (.asg (.nm 2) (.call 32 (.cons (.var 0) (.cons (.var 1) .nil)))) (.cons (.ifs (.not (.var 2)) (.cons (.ret (.var 0)) .nil) .nil) (.cons (.asg (.tp [4, 5]) (.call 30 (.cons (.var 0) (.cons (.var 1) (.cons (.idx (.idx (.var 2) (.cst (.int 0))) (.cst (.int 0))) (.cons (.idx (.idx (.var 2) (.cst (.int 0))) (.cst (.int 1))) .nil)))))) (.cons (.asg (.nm 3) (.call 43 (.cons (.idx (.var 4) (.cst (.int 0))) (.cons (.idx (.var 4) (.cst (.int 1))) .nil)))) (.cons (.ifs (.cmp .isn (.var 3) (.cst (.none))) (.cons (.ret (.var 3)) .nil) .nil) (.cons (.ret (.call 43 (.cons (.idx (.var 5) (.cst (.int 0))) (.cons (.idx (.var 5) (.cst (.int 1))) .nil)))) .nil)))))))⟩
/-- knot -/
def f47_knot : Fn := ⟨1, 1, (.cons (.ret (.call 43 (.cons (.bin .add (.tup (.cons (.cst (.int 0)) (.cons (.cst (.int 0)) .nil))) (.idx (.var 0) (.cst (.int 0)))) (.cons (.idx (.var 0) (.cst (.int 1))) .nil)))) .nil)⟩
/-- turned_pane -/
def f115_turned_pane : Fn := ⟨3, 10, (.cons (.asg (.tp [3, 4, 5]) (.dget [(t_same, .tuple [.bool false, .bool false, .bool false]), (t_right, .tuple [.bool true, .bool false, .bool true]), (t_half, .tuple [.bool false, .bool true, .bool true]), (t_left, .tuple [.bool true, .bool true, .bool false]), (t_mirror, .tuple [.bool false, .bool true, .bool false]), (t_flip, .tuple [.bool false, .bool false, .bool true]), (t_over, .tuple [.bool true, .bool false, .bool false]), (t_under, .tuple [.bool true, .bool true, .bool true])] (.var 2))) (.cons (.asg (.tp [6, 7, 8, 9]) (.var 0)) (.cons (.ifs (.var 4) (.cons (.asg (.nm 6) (.bin .sub (.bin .sub (.idx (.var 1) (.cst (.int 0))) (.var 6)) (.var 8))) .nil) .nil) (.cons (.ifs (.var 5) (.cons (.asg (.nm 7) (.bin .sub (.bin .sub (.idx (.var 1) (.cst (.int 1))) (.var 7)) (.var 9))) .nil) .nil) (.cons (.ifs (.var 3) (.cons (.ret (.tup (.cons (.var 7) (.cons (.var 6) (.cons (.var 9) (.cons (.var 8) .nil)))))) .nil) .nil) (.cons (.ret (.tup (.cons (.var 6) (.cons (.var 7) (.cons (.var 8) (.cons (.var 9) .nil)))))) .nil))))))⟩
/-- turned -/
def f116_turned : Fn := ⟨2, 6, (.cons (.asg (.tp [3, 4]) (.var 0)) (.cons (.asg (.nm 2) (.var 3)) (.cons (.ifs (.idx (.dget [(t_same, .tuple [.bool false, .bool false, .bool false]), (t_right, .tuple [.bool true, .bool false, .bool true]), (t_half, .tuple [.bool false, .bool true, .bool true]), (t_left, .tuple [.bool true, .bool true, .bool false]), (t_mirror, .tuple [.bool false, .bool true, .bool false]), (t_flip, .tuple [.bool false, .bool false, .bool true]), (t_over, .tuple [.bool true, .bool false, .bool false]), (t_under, .tuple [.bool true, .bool true, .bool true])] (.var 1)) (.cst (.int 0))) (.cons (.asg (.nm 2) (.rev (.var 3))) .nil) .nil) (.cons (.ret (.tup (.cons (.var 2) (.cons (.blt .tuple (.cons (.blt .sorted (.cons (.lc (.nm 5) (.seq (.var 4)) (.call 115 (.cons (.var 5) (.cons (.var 3) (.cons (.var 1) .nil))))) .nil)) .nil)) .nil)))) .nil))))⟩
/-- pictures_on -/
def f94_pictures_on : Fn := ⟨3, 16, (.cons (.asg (.tp [7, 8]) (.var 0)) (.cons (.own 3 (.lst .nil)) (.cons (.for_ (.nm 4) (.rng1 (.var 8)) (.cons (.ext 3 (.lcf (.nm 14) (.rng1 (.var 7)) (.cmp .nin (.tup (.cons (.var 14) (.cons (.var 4) .nil))) (.var 2)) (.tup (.cons (.var 4) (.cons (.var 14) .nil))))) .nil)) (.cons (.ifs (.not (.var 3)) (.cons (.ret (.lst (.cons (.tup (.cons (.var 0) (.cons (.blt .tuple (.cons (.blt .sorted (.cons (.var 1) .nil)) .nil)) .nil))) .nil))) .nil) .nil) (.cons (.asg (.tp [9, 10]) (.idx (.var 3) (.cst (.int 0)))) (.cons (.own 5 (.lst .nil)) (.cons (.for_ (.nm 6) (.rng2 (.bin .add (.var 10) (.cst (.int 1))) (.bin .add (.var 7) (.cst (.int 1)))) (.cons (.for_ (.nm 11) (.rng2 (.bin .add (.var 9) (.cst (.int 1))) (.bin .add (.var 8) (.cst (.int 1)))) (.cons (.asg (.nm 12) (.tup (.cons (.var 10) (.cons (.var 9) (.cons (.bin .sub (.var 6) (.var 10)) (.cons (.bin .sub (.var 11) (.var 9)) .nil)))))) (.cons (.asg (.nm 13) (.call 3 (.cons (.var 12) .nil))) (.cons (.ifs (.not (.blt .any (.cons (.lc (.nm 15) (.seq (.var 13)) (.cmp .in_ (.var 15) (.var 2))) .nil))) (.cons (.ext 5 (.call 94 (.cons (.var 0) (.cons (.bin .add (.var 1) (.lst (.cons (.var 12) .nil))) (.cons (.bin .add (.var 2) (.var 13)) .nil))))) .nil) .nil) .nil)))) .nil)) (.cons (.rtl 5) .nil))))))))⟩
/-- all_pictures -/
def f95_all_pictures : Fn := ⟨1, 1, (.cons (.ret (.blt .tuple (.cons (.blt .sorted (.cons (.call 94 (.cons (.var 0) (.cons (.lst .nil) (.cons (.lst .nil) .nil)))) .nil)) .nil))) .nil)⟩
/-- count_pictures -/
def f97_count_pictures : Fn := ⟨1, 1, (.cons (.ret (.blt .len (.cons (.call 95 (.cons (.var 0) .nil)) .nil))) .nil)⟩
/-- count_cut -/
def f98_count_cut : Fn := ⟨1, 2, (.cons (.ret (.blt .len (.cons (.lcf (.nm 1) (.seq (.call 95 (.cons (.var 0) .nil))) (.cmp .is_ (.call 47 (.cons (.var 1) .nil)) (.cst (.none))) (.var 1)) .nil))) .nil)⟩
/-- law -/
def f129_law : Fn := ⟨1, 12, (.cons (.asg (.nm 1) (.lst (.cons (.tup (.cons (.cst (.int 2)) (.cons (.cst (.int 2)) .nil))) (.cons (.tup (.cons (.cst (.int 1)) (.cons (.cst (.int 6)) .nil))) (.cons (.tup (.cons (.cst (.int 2)) (.cons (.cst (.int 3)) .nil))) (.cons (.tup (.cons (.cst (.int 3)) (.cons (.cst (.int 2)) .nil))) (.cons (.tup (.cons (.cst (.int 2)) (.cons (.cst (.int 4)) .nil))) (.cons (.tup (.cons (.cst (.int 4)) (.cons (.cst (.int 2)) .nil))) (.cons (.tup (.cons (.cst (.int 5)) (.cons (.cst (.int 1)) .nil))) (.cons (.tup (.cons (.cst (.int 1)) (.cons (.cst (.int 3)) .nil))) .nil)))))))))) (.cons (.asg (.nm 2) (.idx (.var 1) (.call 4 (.cons (.call 14 (.cons (.var 0) (.cons (.cst (.int 0)) .nil))) (.cons (.cst (.int 9623)) (.cons (.cst (.int 8)) .nil)))))) (.cons (.asg (.nm 3) (.call 95 (.cons (.var 2) .nil))) (.cons (.asg (.nm 4) (.call 95 (.cons (.rev (.var 2)) .nil))) (.cons (.ifs (.or (.cmp .ne (.ndl (.var 3)) (.call 97 (.cons (.var 2) .nil))) (.cmp .ne (.blt .len (.cons (.var 4) .nil)) (.blt .len (.cons (.var 3) .nil)))) (.cons (.ret (.cst (.bool false))) .nil) .nil) (.cons (.for_ (.nm 5) (.rng1 (.cst (.int 12))) (.cons (.asg (.nm 7) (.idx (.var 3) (.call 4 (.cons (.bin .add (.call 14 (.cons (.var 0) (.cons (.cst (.int 1)) .nil))) (.bin .mul (.cst (.int 7)) (.var 5))) (.cons (.cst (.int 9619)) (.cons (.blt .len (.cons (.var 3) .nil)) .nil)))))) (.cons (.asg (.nm 8) (.blt .sum (.cons (.lc (.nm 11) (.seq (.idx (.var 7) (.cst (.int 1)))) (.bin .mul (.idx (.var 11) (.cst (.int 2))) (.idx (.var 11) (.cst (.int 3))))) .nil))) (.cons (.ifs (.or (.cmp .ne (.idx (.var 7) (.cst (.int 0))) (.var 2)) (.cmp .ne (.var 8) (.bin .mul (.idx (.var 2) (.cst (.int 0))) (.idx (.var 2) (.cst (.int 1)))))) (.cons (.ret (.cst (.bool false))) .nil) .nil) (.cons (.for_ (.nm 9) (.seq (.tup (.cons (.cst (.str t_right)) (.cons (.cst (.str t_left)) (.cons (.cst (.str t_over)) (.cons (.cst (.str t_under)) .nil)))))) (.cons (.ifs (.cmp .nin (.call 116 (.cons (.var 7) (.cons (.var 9) .nil))) (.var 4)) (.cons (.ret (.cst (.bool false))) .nil) .nil) .nil)) (.cons (.ifs (.cmp .ne (.lcf (.nm 9) (.seq (.tup (.cons (.cst (.str t_half)) (.cons (.cst (.str t_mirror)) (.cons (.cst (.str t_flip)) .nil))))) (.cmp .nin (.call 116 (.cons (.var 7) (.cons (.var 9) .nil))) (.var 3)) (.var 9)) (.lst .nil)) (.cons (.ret (.cst (.bool false))) .nil) .nil) (.cons (.asg (.nm 10) (.call 6 (.cons (.bin .add (.call 14 (.cons (.var 0) (.cons (.cst (.int 2)) .nil))) (.bin .mul (.cst (.int 5)) (.var 5))) (.cons (.var 2) (.cons (.cst (.int 8)) .nil))))) (.cons (.ifs (.cmp .nin (.call 9 (.cons (.var 10) (.cons (.var 2) .nil))) (.var 3)) (.cons (.ret (.cst (.bool false))) .nil) .nil) .nil)))))))) (.cons (.ifs (.cmp .ne (.call 98 (.cons (.var 2) .nil)) (.blt .len (.cons (.lcf (.nm 7) (.seq (.var 3)) (.cmp .is_ (.call 47 (.cons (.var 7) .nil)) (.cst (.none))) (.var 7)) .nil))) (.cons (.ret (.cst (.bool false))) .nil) .nil) (.cons (.asg (.nm 6) (.bin .add (.cst (.int 2)) (.call 4 (.cons (.call 14 (.cons (.var 0) (.cons (.cst (.int 3)) .nil))) (.cons (.cst (.int 9613)) (.cons (.cst (.int 5)) .nil)))))) (.cons (.ret (.and (.cmp .eq (.call 97 (.cons (.tup (.cons (.var 6) (.cons (.cst (.int 1)) .nil))) .nil)) (.bin .mul (.cst (.int 2)) (.call 97 (.cons (.tup (.cons (.bin .sub (.var 6) (.cst (.int 1))) (.cons (.cst (.int 1)) .nil))) .nil)))) (.cmp .eq (.call 97 (.cons (.tup (.cons (.cst (.int 1)) (.cons (.cst (.int 1)) .nil))) .nil)) (.cst (.int 1))))) .nil)))))))))⟩
end PP
set_option Elab.async false
set_option linter.all false
set_option autoImplicit false
set_option maxRecDepth 100000
set_option maxHeartbeats 1000000
namespace PP
open PySem
theorem call_eq {T : Nat → Option Fn} {n i : Nat} {fn : Fn} {as : List R} (h : T i = some fn) (hl : as.length = fn.np) : call T (n + 1) i as = outR (xs (call T n) fn.body (startS fn.n as)) := by
  show (match T i with
    | some d => if as.length = d.np then outR (xs (call T n) d.body (startS d.n as)) else .bad
    | none => .bad) = _
  rw [h]
  exact if_pos hl
theorem xs_nx {C : Nat → List R → Rs R} {s : Sm} {ss : Sms} {ρ ρ1 : Sto} (h : x1 C s ρ = .ok (.nx ρ1)) : xs C (.cons s ss) ρ = xs C ss ρ1 := by
  rw [xs.eq_2, h]; rfl
theorem xs_rt {C : Nat → List R → Rs R} {s : Sm} {ss : Sms} {ρ : Sto} {r : R} (h : x1 C s ρ = .ok (.rt r)) : xs C (.cons s ss) ρ = .ok (.rt r) := by
  rw [xs.eq_2, h]; rfl
def tl : Sms → Sms
  | .cons _ s => s
  | .nil => .nil
def hd : Sms → Sm
  | .cons s _ => s
  | .nil => .pas
theorem xs_step {C : Nat → List R → Rs R} {b : Sms} {ρ ρ1 : Sto} (hb : b = .cons (hd b) (tl b)) (h : x1 C (hd b) ρ = .ok (.nx ρ1)) : xs C b ρ = xs C (tl b) ρ1 := by
  have q := xs_nx (ss := tl b) h
  rw [← hb] at q
  exact q
theorem xs_end {C : Nat → List R → Rs R} {b : Sms} {ρ : Sto} {r : R} (hb : b = .cons (hd b) (tl b)) (h : x1 C (hd b) ρ = .ok (.rt r)) : xs C b ρ = .ok (.rt r) := by
  have q := xs_rt (ss := tl b) h
  rw [← hb] at q
  exact q
variable {T : Nat → Option Fn} {n : Nat}
def mixI (c p m : Int) : Int := (c * 48271 % p) * ((c * 48271 % p) + 7) % p % m
theorem mixI_bd {c p m : Int} (hm : 0 < m) : 0 ≤ mixI c p m ∧ mixI c p m < m := ⟨Int.emod_nonneg _ (by omega), Int.emod_lt_of_pos _ hm⟩
theorem c_mix (h : T 4 = some f4_law_mix) {c p m : Int} (hp : 0 < p) (hp2 : p < 100000) (hm : 0 < m) : call T (n+1) 4 [.d (.int c), .d (.int p), .d (.int m)] = .ok (.d (.int (mixI c p m))) := by
  have h1 : 0 ≤ c * 48271 % p := Int.emod_nonneg _ (by omega)
  have h2 : c * 48271 % p < p := Int.emod_lt_of_pos _ hp
  have hb : bnd (c * 48271 % p) = true := by
    unfold bnd
    simp
    omega
  have hb2 : bnd 48271 = true := by decide
  simp [call, h, f4_law_mix, xs, x1, ev, startS, binR, mulR, addR, modR, R.lend, R.frz, setT, outR, retR, hp, hm, hb, hb2, Rs.bind, mixI]
theorem c_cell (h : T 14 = some f14_law_cell) (ns : List Int) (k : Nat) : ∃ c : Int, call T (n+1) 14 [.s (ns.map PyData.int), .d (.int k)] = .ok (.d (.int c)) := by
  by_cases hk : k < ns.length
  · refine ⟨ns[k], ?_⟩
    have e : L2.atI (ns.map PyData.int) (k : Int) = some (.int ns[k]) := L2.atI_nat (by simp [hk])
    have hk' : (k : Int) < ns.length := by omega
    simp [call, h, f14_law_cell, xs, x1, ev, evs, evT, startS, R.lend, cmpR, ltR, bltR, lenR, R.seq?, idxR, outR, retR, e, hk']
  · refine ⟨0, ?_⟩
    have hk' : ¬ (k : Int) < ns.length := by omega
    simp [call, h, f14_law_cell, xs, x1, ev, evs, evT, startS, R.lend, cmpR, ltR, bltR, lenR, R.seq?, idxR, outR, retR, hk']
inductive Tr where
  | pane
  | cut (s : Bool) (at_ : Int) (a b : Tr)
def kd : Bool → Str
  | true => t_side
  | false => t_stack
def Tr.enc : Tr → D
  | .pane => .tuple [.str t_pane]
  | .cut s k a b => .tuple [.str (kd s), .int k, a.enc, b.enc]
def Tr.count : Tr → Nat
  | .pane => 1
  | .cut _ _ a b => a.count + b.count
def Tr.WF : Tr → Int → Int → Prop
  | .pane, w, h => 1 ≤ w ∧ 1 ≤ h
  | .cut true k a b, w, h => 1 ≤ k ∧ k < w ∧ a.WF k h ∧ b.WF (w - k) h
  | .cut false k a b, w, h => 1 ≤ k ∧ k < h ∧ a.WF w k ∧ b.WF w (h - k)
structure TB0 (T : Nat → Option Fn) : Prop where
  mix : T 4 = some f4_law_mix
  parts : T 5 = some f5_law_parts
  tree : T 6 = some f6_law_tree
  window : T 8 = some f8_law_window
  cell : T 14 = some f14_law_cell
def sz (s : Bool) (w g : Int) : Int := if s then w else g
def kindsD (w g : Int) : List D := (if 1 < w then [.str t_side] else []) ++ (if 1 < g then [.str t_stack] else [])
theorem kinds_eval {C : Nat → List R → Rs R} (c w g : Int) (m : D) : x1 C (hd f6_law_tree.body) [some (.d (.int c)), some (.d (.tuple [.int w, .int g])), some (.d m), none, none, none, none, none, none] =
    .ok (.nx [some (.d (.int c)), some (.d (.tuple [.int w, .int g])), some (.d m), some (.d (.list (kindsD w g))), none, none, none, none, none]) := by
  by_cases a1 : 1 < w <;> by_cases a2 : 1 < g <;>
  simp [f6_law_tree, hd, x1, ev, evs, R.lend, R.frz, frzAll, mapR, binR, addR, mulR, R.lst?, bltR, intR, boolR, cmpR, gtR, idxR, R.seq?, L2.atI, L2.ixN, fit, lim, setT, a1, a2, kindsD]
theorem kinds_at (w g : Int) (j : Int) (h0 : 0 ≤ j) (h1 : j < (kindsD w g).length) : ∃ s : Bool, L2.atI (kindsD w g) j = some (.str (kd s)) ∧ 1 < sz s w g := by
  unfold kindsD at *
  by_cases a1 : 1 < w <;> by_cases a2 : 1 < g
  · simp only [a1, a2, if_true] at h1 ⊢
    have : j = 0 ∨ j = 1 := by simp at h1; omega
    rcases this with rfl | rfl
    · exact ⟨true, rfl, a1⟩
    · exact ⟨false, rfl, a2⟩
  · simp only [a1, a2, if_true, if_false] at h1 ⊢
    have : j = 0 := by simp at h1; omega
    subst this
    exact ⟨true, rfl, a1⟩
  · simp only [a1, a2, if_true, if_false] at h1 ⊢
    have : j = 0 := by simp at h1; omega
    subst this
    exact ⟨false, rfl, a2⟩
  · simp only [a1, a2, if_false] at h1
    simp at h1
    omega
theorem kinds_nil' (w g : Int) : PyData.eqvAll (kindsD w g) [] = (kindsD w g).isEmpty := by
  unfold kindsD
  by_cases a1 : 1 < w <;> by_cases a2 : 1 < g <;> simp [a1, a2, PyData.eqvAll]
theorem kinds_nil (w g : Int) : PyData.eqv (.list (kindsD w g)) (.list []) = (kindsD w g).isEmpty := by
  unfold kindsD
  by_cases a1 : 1 < w <;> by_cases a2 : 1 < g <;> simp [a1, a2, PyData.eqv, PyData.eqvAll]
end PP
set_option Elab.async false
set_option linter.all false
set_option autoImplicit false
set_option maxRecDepth 100000
set_option maxHeartbeats 1000000
namespace PP
open PySem
variable {T : Nat → Option Fn} {n : Nat}
theorem fit1 {α : Type} {k : Rs α} : fit 1 k = k := rfl
theorem fit2 {α : Type} {k : Rs α} : fit 2 k = k := rfl
theorem fit3 {α : Type} {k : Rs α} : fit 3 k = k := rfl
theorem fit4 {α : Type} {k : Rs α} : fit 4 k = k := rfl
theorem idx0 (a : D) (xs : List D) : idxR (.d (.tuple (a :: xs))) (.d (.int 0)) = .ok (.d a) := by
  simp [idxR, R.seq?, L2.atI, L2.ixN]; try (rw [if_pos (by omega)]; rfl)
theorem idx1 (a b : D) (xs : List D) : idxR (.d (.tuple (a :: b :: xs))) (.d (.int 1)) = .ok (.d b) := by
  simp [idxR, R.seq?, L2.atI, L2.ixN]; try (rw [if_pos (by omega)]; rfl)
theorem idx2 (a b c : D) (xs : List D) : idxR (.d (.tuple (a :: b :: c :: xs))) (.d (.int 2)) = .ok (.d c) := by
  simp [idxR, R.seq?, L2.atI, L2.ixN]; try (rw [if_pos (by omega)]; rfl)
theorem idx3 (a b c d : D) (xs : List D) : idxR (.d (.tuple (a :: b :: c :: d :: xs))) (.d (.int 3)) = .ok (.d d) := by
  simp [idxR, R.seq?, L2.atI, L2.ixN]; try (rw [if_pos (by omega)]; rfl)
def tD (ns : List Int) : D := .tuple (ns.map .int)
def Tr.panes : Tr → Int → Int → Int → Int → List (List Int)
  | .pane, l, t, w, h => [[l, t, w, h]]
  | .cut true k a b, l, t, w, h => a.panes l t k h ++ b.panes (l + k) t (w - k) h
  | .cut false k a b, l, t, w, h => a.panes l t w k ++ b.panes l (t + k) w (h - k)
theorem panes_len : ∀ (t : Tr) (l tp w h : Int), (t.panes l tp w h).length = t.count
  | .pane, _, _, _, _ => rfl
  | .cut true k a b, l, tp, w, h => by
    show (a.panes l tp k h ++ b.panes (l + k) tp (w - k) h).length = _
    rw [List.length_append, panes_len a, panes_len b]; rfl
  | .cut false k a b, l, tp, w, h => by
    show (a.panes l tp w k ++ b.panes l (tp + k) w (h - k)).length = _
    rw [List.length_append, panes_len a, panes_len b]; rfl
theorem count_pos : ∀ t : Tr, 1 ≤ t.count
  | .pane => Nat.le_refl 1
  | .cut _ _ a b => by have := count_pos a; show 1 ≤ a.count + b.count; omega
def Tr.isP : Tr → Bool
  | .pane => true
  | _ => false
def paneC : D := .tuple [.str t_pane]
theorem shallow_pane (x : D) : shallow x paneC = true := by
  unfold shallow
  have : paneC.depth = 1 := rfl
  rw [this]
  exact decide_eq_true (by omega)
theorem eqv_pane (t : Tr) : PyData.eqv t.enc paneC = t.isP := by
  cases t with
  | pane => rfl
  | cut s k a b => cases s <;> rfl
theorem eq_pane (t : Tr) : eqR (.d t.enc) (.d paneC) = .ok t.isP := by
  show (if (true && true && shallow t.enc paneC) then Rs.ok (PyData.eqv t.enc paneC) else .bad) = _
  rw [shallow_pane, eqv_pane]; rfl
theorem kd_side (s : Bool) : eqR (.d (.str (kd s))) (.d (.str t_side)) = .ok s := by cases s <;> rfl
theorem kd_stack (s : Bool) : eqR (.d (.str (kd s))) (.d (.str t_stack)) = .ok (!s) := by cases s <;> rfl
end PP
set_option Elab.async false
set_option linter.all false
set_option autoImplicit false
set_option maxRecDepth 100000
set_option maxHeartbeats 1000000
namespace PP
open PySem
variable {T : Nat → Option Fn} {n : Nat}
def leI (p q : List Int) : Bool := decide (p ≤ q)
def srt (ps : List (List Int)) : List (List Int) := ps.mergeSort leI
theorem leI_tD (p q : List Int) : PySem.W.dataLe false id (tD p) (tD q) = leI p q := by
  show (!PySem.W.dataLt (tD q) (tD p)) = _
  unfold tD
  rw [PySem.W.dataLt_tuple]
  have := PySem.W.dataLt_ints q p
  unfold PySem.W.rowLt at this
  rw [this]
  unfold leI
  by_cases h : q < p
  · have h' : ¬ p ≤ q := fun z => List.not_lt.mpr z h
    simp [h, h']
  · have h' : p ≤ q := List.not_lt.mp h
    simp [h, h']
theorem sortD_tD (ps : List (List Int)) : sortD (ps.map tD) = (srt ps).map tD := by
  have z := PySem.W.sort_maps (r := leI) (s := PySem.W.dataLe false id) tD (l := ps) (fun a _ b _ => (leI_tD a b).symm)
  exact z.symm
theorem alike_tD (p q : List Int) : PySem.W.alike (tD p) (tD q) = true := PySem.W.alike_ints p q
theorem depth_tD (p : List Int) : (tD p).depth = 1 := by
  simp [tD, PyData.depth, PySem.W.depth_ints]
theorem sortOk_tD {ps : List (List Int)} (h : ∀ p ∈ ps, p ≠ []) (hl : ps.length ≤ lim) : sortOk (ps.map tD) = true := by
  unfold sortOk
  simp only [Bool.and_eq_true, Bool.or_eq_true, List.all_eq_true, List.mem_map, decide_eq_true_eq, List.length_map]
  refine ⟨⟨⟨?_, ?_⟩, hl⟩, .inl ?_⟩
  · rintro _ ⟨p, _, rfl⟩ _ ⟨q, _, rfl⟩
    exact alike_tD p q
  · rintro _ ⟨p, _, rfl⟩
    rw [depth_tD]; decide
  · rintro _ ⟨p, hp, rfl⟩
    cases p with
    | nil => exact absurd rfl (h _ hp)
    | cons x xs => rfl
theorem sortR_tD {ps : List (List Int)} (h : ∀ p ∈ ps, p ≠ []) (hl : ps.length ≤ lim) : sortR (ps.map tD) = .ok ((srt ps).map tD) := by
  unfold sortR
  rw [sortOk_tD h hl, if_pos rfl, sortD_tD]
theorem srt_perm (ps : List (List Int)) : (srt ps).Perm ps := List.mergeSort_perm ps leI
theorem srt_le (ps : List (List Int)) : (srt ps).Pairwise (fun p q => p ≤ q) := by
  have := List.pairwise_mergeSort (le := leI) (fun a b c => by unfold leI; simpa using fun h1 h2 => List.le_trans h1 h2) (fun a b => by unfold leI; simpa using List.le_total a b) ps
  refine this.imp ?_
  intro a b h
  exact of_decide_eq_true h
theorem panes_len4 : ∀ (t : Tr) (l tp w h : Int), ∀ p ∈ t.panes l tp w h, p.length = 4
  | .pane, l, tp, w, h, p, hp => by simp [Tr.panes] at hp; rw [hp]; rfl
  | .cut true k a b, l, tp, w, h, p, hp => by
    simp only [Tr.panes, List.mem_append] at hp
    rcases hp with hp | hp
    · exact panes_len4 a _ _ _ _ p hp
    · exact panes_len4 b _ _ _ _ p hp
  | .cut false k a b, l, tp, w, h, p, hp => by
    simp only [Tr.panes, List.mem_append] at hp
    rcases hp with hp | hp
    · exact panes_len4 a _ _ _ _ p hp
    · exact panes_len4 b _ _ _ _ p hp
def wD (w g : Int) : D := .tuple [.int w, .int g]
def picD (w g : Int) (ps : List (List Int)) : D := .tuple [wD w g, .tuple ((srt ps).map tD)]
end PP
set_option Elab.async false
set_option linter.all false
set_option autoImplicit false
set_option maxRecDepth 100000
set_option maxHeartbeats 4000000
namespace PP
open PySem
variable {T : Nat → Option Fn} {n : Nat}
structure TBm (T : Nat → Option Fn) : Prop where
  mix : T 4 = some f4_law_mix
  parts : T 5 = some f5_law_parts
  tree : T 6 = some f6_law_tree
  panes : T 7 = some f7_law_panes
  pic : T 9 = some f9_law_picture_of
theorem c_lpartsM (h : TBm T) (s : Bool) (k w g : Int) : call T (n+1) 5 [.d (.str (kd s)), .d (.int k), .d (.tuple [.int w, .int g])] =
    .ok (.d (.tuple (if s then [.tuple [.int k, .int g], .tuple [.int (w - k), .int g]] else [.tuple [.int w, .int k], .tuple [.int w, .int (g - k)]]))) := by
  rw [call_eq h.parts rfl]
  cases s <;> rfl
theorem c_treeRestM (h : TBm T) (k : Nat) (s : Bool) (c w g : Int) (m : Nat) (K : D) (hs : 1 < sz s w g) (hm : 2 ≤ m)
    (ih : ∀ (m' : Nat), m' < m → ∀ c' w' g' : Int, 1 ≤ w' → w' ≤ w → 1 ≤ g' → g' ≤ g → ∃ t : Tr, call T (k + 1) 6 [.d (.int c'), .d (.tuple [.int w', .int g']), .d (.int m')] = .ok (.d t.enc) ∧ t.WF w' g' ∧ t.count ≤ max m' 1)
    (hw : 1 ≤ w) (hg : 1 ≤ g) :
    ∃ t : Tr, xs (call T (k + 1)) (tl (tl (tl f6_law_tree.body))) [some (.d (.int c)), some (.d (.tuple [.int w, .int g])), some (.d (.int m)), some (.d K), some (.d (.str (kd s))), none, none, none, none] = .ok (.rt (.d t.enc)) ∧ t.WF w g ∧ t.count ≤ m := by
  have b1 := mixI_bd (c := c) (p := 9931) (m := sz s w g - 1) (by omega)
  have b2 := mixI_bd (c := c) (p := 9929) (m := (m : Int) - 1) (by omega)
  have e1 := c_mix (n := k) h.mix (c := c) (p := 9931) (m := sz s w g - 1) (by decide) (by decide) (by omega)
  have e2 := c_mix (n := k) h.mix (c := c) (p := 9929) (m := (m : Int) - 1) (by decide) (by decide) (by omega)
  generalize hat : mixI c 9931 (sz s w g - 1) = a at *
  generalize hah : mixI c 9929 ((m : Int) - 1) = b at *
  obtain ⟨b', rfl⟩ : ∃ b' : Nat, b = b' := ⟨b.toNat, by omega⟩
  have e3 := c_lpartsM (n := k) h s (1 + a) w g
  have i1 : ((1 : Int) + b') = ((1 + b' : Nat) : Int) := by omega
  have i2 : ((m : Int) - (1 + b')) = ((m - (1 + b') : Nat) : Int) := by omega
  cases s with
  | true =>
    have hs' : 1 < w := hs
    have ew : sz true w g = w := rfl
    rw [ew] at e1 b1
    obtain ⟨t1, q1, w1, n1⟩ := ih (1 + b') (by omega) (c + 7) (1 + a) g (by omega) (by omega) (by omega) (by omega)
    obtain ⟨t2, q2, w2, n2⟩ := ih (m - (1 + b')) (by omega) (c + 11) (w - (1 + a)) g (by omega) (by omega) (by omega) (by omega)
    rw [← i1] at q1
    rw [← i2] at q2
    refine ⟨.cut true (1 + a) t1 t2, ?_, ⟨by omega, by omega, w1, w2⟩, by show t1.count + t2.count ≤ m; omega⟩
    simp only [kd] at e3 ⊢
    simp [f6_law_tree, tl, xs, x1, ev, evs, R.lend, R.arg, R.frz, argAll, frzAll, mapR, binR, addR, subR, bltR, intR, boolR, cmpR, eqR, R.isD, shallow, R.see, PyData.eqv, PyData.depth, idxR, R.seq?, L2.atI, L2.ixN, outR, retR, fit, lim, setT, setAll, e1, e2, e3, q1, q2, Tr.enc, kd]
  | false =>
    have hs' : 1 < g := hs
    have ew : sz false w g = g := rfl
    rw [ew] at e1 b1
    obtain ⟨t1, q1, w1, n1⟩ := ih (1 + b') (by omega) (c + 7) w (1 + a) (by omega) (by omega) (by omega) (by omega)
    obtain ⟨t2, q2, w2, n2⟩ := ih (m - (1 + b')) (by omega) (c + 11) w (g - (1 + a)) (by omega) (by omega) (by omega) (by omega)
    rw [← i1] at q1
    rw [← i2] at q2
    refine ⟨.cut false (1 + a) t1 t2, ?_, ⟨by omega, by omega, w1, w2⟩, by show t1.count + t2.count ≤ m; omega⟩
    simp only [kd] at e3 ⊢
    simp [f6_law_tree, tl, xs, x1, ev, evs, R.lend, R.arg, R.frz, argAll, frzAll, mapR, binR, addR, subR, bltR, intR, boolR, cmpR, eqR, R.isD, shallow, R.see, PyData.eqv, PyData.depth, idxR, R.seq?, L2.atI, L2.ixN, outR, retR, fit, lim, setT, setAll, e1, e2, e3, q1, q2, Tr.enc, kd]
theorem c_treeM (h : TBm T) : ∀ (m : Nat) (n : Nat) (c w g : Int), 1 ≤ w → 1 ≤ g → m + 2 ≤ n →
    ∃ t : Tr, call T n 6 [.d (.int c), .d (.tuple [.int w, .int g]), .d (.int m)] = .ok (.d t.enc) ∧ t.WF w g ∧ t.count ≤ max m 1 := by
  intro m
  induction m using Nat.strongRecOn with
  | ind m ih =>
    intro n c w g hw1 hg1 hn
    obtain ⟨k, rfl⟩ : ∃ k, n = k + 2 := ⟨n - 2, by omega⟩
    rw [call_eq h.tree rfl]
    show ∃ t : Tr, outR (xs (call T (k + 1)) f6_law_tree.body [some (.d (.int c)), some (.d (.tuple [.int w, .int g])), some (.d (.int m)), none, none, none, none, none, none]) = _ ∧ _
    rw [xs_step rfl (kinds_eval c w g _)]
    have m9 := c_mix (n := k) h.mix (c := c) (p := 9949) (m := 9) (by decide) (by decide) (by decide)
    by_cases stop : (m : Int) < 2 ∨ (kindsD w g).isEmpty = true ∨ mixI c 9949 9 = 0
    · refine ⟨.pane, ?_, ⟨hw1, hg1⟩, by show 1 ≤ max m 1; omega⟩
      rw [xs_end (r := .d (.tuple [.str t_pane])) rfl]
      · rfl
      · by_cases s1 : (m : Int) < 2
        · simp [f6_law_tree, hd, tl, x1, xs, ev, evs, evT, R.lend, R.frz, frzAll, mapR, cmpR, ltR, retR, fit, lim, s1]
        · by_cases s2 : (kindsD w g).isEmpty = true
          · simp [f6_law_tree, hd, tl, x1, xs, ev, evs, evT, R.lend, R.frz, frzAll, mapR, cmpR, ltR, eqR, R.isD, shallow, R.see, PyData.depth, PyData.depthAll, kinds_nil, retR, fit, lim, s1, s2]
          · have s3 : mixI c 9949 9 = 0 := by rcases stop with q | q | q; exact absurd q s1; exact absurd q s2; exact q
            simp [f6_law_tree, hd, tl, x1, xs, ev, evs, evT, R.lend, R.frz, R.arg, argAll, frzAll, mapR, cmpR, ltR, eqR, R.isD, shallow, R.see, PyData.depth, PyData.depthAll, PyData.eqv, kinds_nil', retR, fit, lim, s1, s2, m9, s3]
    · have s1 : ¬ (m : Int) < 2 := fun q => stop (.inl q)
      have s2 : (kindsD w g).isEmpty = false := Bool.eq_false_iff.mpr fun q => stop (.inr (.inl q))
      have s3 : ¬ mixI c 9949 9 = 0 := fun q => stop (.inr (.inr q))
      have hl : 0 < ((kindsD w g).length : Int) := by
        cases e : kindsD w g with
        | nil => rw [e] at s2; cases s2
        | cons a b => simp
      have b1 := mixI_bd (c := c) (p := 9941) (m := (kindsD w g).length) hl
      have m1 := c_mix (n := k) h.mix (c := c) (p := 9941) (m := (kindsD w g).length) (by decide) (by decide) hl
      obtain ⟨s, hs1, hs2⟩ := kinds_at w g _ b1.1 b1.2
      rw [xs_step rfl (ρ1 := [some (.d (.int c)), some (.d (.tuple [.int w, .int g])), some (.d (.int m)), some (.d (.list (kindsD w g))), none, none, none, none, none])]
      · rw [xs_step rfl (ρ1 := [some (.d (.int c)), some (.d (.tuple [.int w, .int g])), some (.d (.int m)), some (.d (.list (kindsD w g))), some (.d (.str (kd s))), none, none, none, none])]
        · obtain ⟨t, q1, q2, q3⟩ := c_treeRestM h k s c w g m (.list (kindsD w g)) hs2 (by omega) (fun m' hm' c' w' g' h1 h2 h3 h4 => ih m' hm' (k + 1) c' w' g' h1 h3 (by omega)) hw1 hg1
          exact ⟨t, by rw [q1]; rfl, q2, by omega⟩
        · simp [f6_law_tree, hd, tl, x1, ev, evs, R.lend, R.frz, R.arg, argAll, mapR, bltR, lenR, R.seq?, idxR, setT, m1, hs1]
      · simp [f6_law_tree, hd, tl, x1, xs, ev, evs, evT, R.lend, R.frz, R.arg, argAll, frzAll, mapR, cmpR, ltR, eqR, R.isD, shallow, R.see, PyData.depth, PyData.depthAll, PyData.eqv, kinds_nil', retR, fit, lim, s1, s2, m9, s3]
theorem c_lpanesM (h : TBm T) : ∀ (t : Tr) (n : Nat) (l tp w g : Int), t.count + 1 ≤ n → t.count ≤ 1000 →
    call T n 7 [.d t.enc, .d (.int l), .d (.int tp), .d (.tuple [.int w, .int g])] = .ok (.l ((t.panes l tp w g).map tD))
  | .pane, n, l, tp, w, g, hn, hc => by
    obtain ⟨k, rfl⟩ : ∃ k, n = k + 1 := ⟨n - 1, by have := count_pos .pane; omega⟩
    rw [call_eq h.panes rfl]
    rfl
  | .cut s k a b, n, l, tp, w, g, hn, hc => by
    have hc' : a.count + b.count ≤ 1000 := hc
    have hn' : a.count + b.count + 1 ≤ n := hn
    have ca := count_pos a
    have cb := count_pos b
    obtain ⟨m, rfl⟩ : ∃ m, n = m + 2 := ⟨n - 2, by omega⟩
    rw [call_eq h.panes rfl]
    have e' : eqR (.d (Tr.cut s k a b).enc) (.d (.tuple [.str t_pane])) = .ok false := eq_pane (.cut s k a b)
    have ep := c_lpartsM (n := m) h s k w g
    have es := kd_side s
    have et := kd_stack s
    show outR (xs (call T (m + 1)) f7_law_panes.body [some (.d (Tr.cut s k a b).enc), some (.d (.int l)), some (.d (.int tp)), some (.d (.tuple [.int w, .int g])), none, none, none, none, none]) = _
    rw [xs_step rfl (ρ1 := [some (.d (Tr.cut s k a b).enc), some (.d (.int l)), some (.d (.int tp)), some (.d (.tuple [.int w, .int g])), none, none, none, none, none])]
    · have q0 : slcR (.d (Tr.cut s k a b).enc) none (some 2) = .ok (.d (.tuple [.str (kd s), .int k])) := rfl
      have q1 : idxR (.d (Tr.cut s k a b).enc) (.d (.int 2)) = .ok (.d a.enc) := rfl
      have q2 : idxR (.d (Tr.cut s k a b).enc) (.d (.int 3)) = .ok (.d b.enc) := rfl
      cases s with
      | true =>
        have e1 := c_lpanesM h a (m + 1) l tp k g (by omega) (by omega)
        have e2 := c_lpanesM h b (m + 1) (l + k) tp (w - k) g (by omega) (by omega)
        have l1 := panes_len a l tp k g
        have l2 := panes_len b (l + k) tp (w - k) g
        simp only [if_true] at ep
        have z : (a.panes l tp k g).length + (b.panes (l + k) tp (w - k) g).length ≤ lim := by
          rw [l1, l2]; unfold lim; omega
        simp [f7_law_panes, tl, x1, xs, ev, evs, evT, R.lend, R.arg, R.frz, argAll, frzAll, mapR, binR, addR, mulR, bltR, intR, boolR, optI, bnd, fit1, fit2, fit3, fit4, idx0, idx1, R.lst?, cmpR, setT, setAll, ep, es, et, q0, q1, q2, e1, e2, outR, retR, fit_ok z, Tr.panes]
      | false =>
        have e1 := c_lpanesM h a (m + 1) l tp w k (by omega) (by omega)
        have e2 := c_lpanesM h b (m + 1) l (tp + k) w (g - k) (by omega) (by omega)
        have l1 := panes_len a l tp w k
        have l2 := panes_len b l (tp + k) w (g - k)
        simp only [Bool.false_eq_true, if_false] at ep
        have z : (a.panes l tp w k).length + (b.panes l (tp + k) w (g - k)).length ≤ lim := by
          rw [l1, l2]; unfold lim; omega
        simp [f7_law_panes, tl, x1, xs, ev, evs, evT, R.lend, R.arg, R.frz, argAll, frzAll, mapR, binR, addR, mulR, bltR, intR, boolR, optI, bnd, fit1, fit2, fit3, fit4, idx0, idx1, R.lst?, cmpR, setT, setAll, ep, es, et, q0, q1, q2, e1, e2, outR, retR, fit_ok z, Tr.panes]
    · show x1 (call T (m + 1)) (hd f7_law_panes.body) _ = _
      simp only [f7_law_panes, hd, x1, evT, ev, evs, R.lend, R.frz, frzAll, mapR, List.getElem?_cons_zero, bind_ok, cmpR]
      show (fit 1 _ >>= fun y => eqR (.d (Tr.cut s k a b).enc) y) >>= _ = _
      rw [fit1, bind_ok, e']
      rfl
theorem c_lpicM (h : TBm T) (t : Tr) (n : Nat) (w g : Int) (hn : t.count + 2 ≤ n) (hc : t.count ≤ 1000) :
    call T n 9 [.d t.enc, .d (wD w g)] = .ok (.d (picD w g (t.panes 0 0 w g))) := by
  obtain ⟨m, rfl⟩ : ∃ m, n = m + 1 := ⟨n - 1, by omega⟩
  rw [call_eq h.pic rfl]
  have e := c_lpanesM h t m 0 0 w g (by omega) hc
  have hl := panes_len t 0 0 w g
  have s := sortR_tD (ps := t.panes 0 0 w g) (fun p hp he => by have := panes_len4 t 0 0 w g p hp; rw [he] at this; cases this) (by rw [hl]; unfold lim; omega)
  simp [f9_law_picture_of, startS, x1, xs, ev, evs, evT, R.lend, R.arg, R.frz, argAll, frzAll, mapR, bltR, sortedR, tupleR, R.lst?, wD, e, s, outR, retR, fit2, picD]
end PP
set_option Elab.async false
set_option linter.all false
set_option autoImplicit false
set_option maxRecDepth 100000
set_option maxHeartbeats 1000000
namespace PP
open PySem
section
variable {α β γ δ : Type}
def b1 (m : Rs α) (f : α → Rs β) : Rs β := m >>= f
def b2 (m : Rs α) (n : Rs β) (f : α → β → Rs γ) : Rs γ := m >>= fun x => n >>= fun y => f x y
def b3 (m : Rs α) (n : Rs β) (k : Rs γ) (f : α → β → γ → Rs δ) : Rs δ := m >>= fun x => n >>= fun y => k >>= fun z => f x y z
@[simp] theorem b1_ok (a : α) (f : α → Rs β) : b1 (.ok a) f = f a := id rfl
@[simp] theorem b2_ok (a : α) (b : β) (f : α → β → Rs γ) : b2 (.ok a) (.ok b) f = f a b := id rfl
@[simp] theorem b3_ok (a : α) (b : β) (c : γ) (f : α → β → γ → Rs δ) : b3 (.ok a) (.ok b) (.ok c) f = f a b c := id rfl
end
variable {C : Nat → List R → Rs R} {ρ : Sto}
def varR : Option (Option R) → Rs R
  | some (some r) => .ok r.lend
  | _ => .bad
def tupG (ds : List D) : Rs R := fit ds.length (.ok (.d (.tuple ds)))
def lstG (ds : List D) : Rs R := fit ds.length (.ok (.l ds))
def andG (C : Nat → List R → Rs R) (b : Ex) (ρ : Sto) (x : R) : Rs Bool → Rs R
  | .ok true => ev C b ρ
  | .ok false => .ok x
  | .err c => .err c
  | .bad => .bad
def orG (C : Nat → List R → Rs R) (b : Ex) (ρ : Sto) (x : R) : Rs Bool → Rs R
  | .ok true => .ok x
  | .ok false => ev C b ρ
  | .err c => .err c
  | .bad => .bad
def andF (C : Nat → List R → Rs R) (b : Ex) (ρ : Sto) (x : R) : Rs R := andG C b ρ x (truR x)
def orF (C : Nat → List R → Rs R) (b : Ex) (ρ : Sto) (x : R) : Rs R := orG C b ρ x (truR x)
def iteF (C : Nat → List R → Rs R) (a b : Ex) (ρ : Sto) : Rs Bool → Rs R
  | .ok true => ev C a ρ
  | .ok false => ev C b ρ
  | .err c => .err c
  | .bad => .bad
def chnG (C : Nat → List R → Rs R) (p : Cm) (c : Ex) (ρ : Sto) (y : R) : Rs Bool → Rs Bool
  | .ok true => b1 (ev C c ρ) (cmpR p y)
  | .ok false => .ok false
  | .err c => .err c
  | .bad => .bad
def chnF (C : Nat → List R → Rs R) (o p : Cm) (c : Ex) (ρ : Sto) (x y : R) : Rs Bool := chnG C p c ρ y (cmpR o x y)
def lensF (x : R) : Rs R := lensetR [x]
def consF (x : R) (xs : List R) : Rs (List R) := .ok (x :: xs)
def rngF : R → Rs (List D)
  | .d (.int j) => if smallI j then .ok (rngL 0 j) else .bad
  | _ => .bad
def rngG : R → R → Rs (List D)
  | .d (.int i), .d (.int j) => if smallI i && smallI j then .ok (rngL i j) else .bad
  | _, _ => .bad
def andT (C : Nat → List R → Rs R) (b : Ex) (ρ : Sto) : Rs Bool → Rs Bool
  | .ok true => evT C b ρ
  | .ok false => .ok false
  | .err c => .err c
  | .bad => .bad
def orT (C : Nat → List R → Rs R) (b : Ex) (ρ : Sto) : Rs Bool → Rs Bool
  | .ok true => .ok true
  | .ok false => evT C b ρ
  | .err c => .err c
  | .bad => .bad
def nxF (ρ : Sto) : Rs Out := .ok (.nx ρ)
def asgF (t : Tg) (ρ : Sto) (x : D) : Rs Out := b1 (setT t x ρ) nxF
def prF (a b : R) : Rs (List R) := .ok [a, b]
def parF (i j : Nat) (ρ : Sto) (ds : List D) : Rs Out := if ds.length = 2 then .ok (.nx (setAll [i, j] ds ρ)) else .bad
def appK (ρ : Sto) (i : Nat) : Option (Option R) → Rs D → Rs Out
  | some (some (.l xs)), m => m >>= fun x => appS ρ i xs [x]
  | _, _ => .bad
def extG (ρ : Sto) (i : Nat) (xs : List D) : Option (List D) → Rs Out
  | some ys => appS ρ i xs ys
  | none => .bad
def extK (ρ : Sto) (i : Nat) : Option (Option R) → Rs R → Rs Out
  | some (some (.l xs)), m => m >>= fun r => extG ρ i xs r.lst?
  | _, _ => .bad
def putK (ρ : Sto) (i : Nat) : Option (Option R) → Rs D → Rs R → Rs Out
  | some (some (.l xs)), m, k => m >>= fun y => k >>= fun j => putS ρ i xs j y
  | _, _, _ => .bad
def frzK (ρ : Sto) (i : Nat) : Option (Option R) → Rs Out
  | some (some (.l xs)) => .ok (.nx (ρ.set i (some (.d (.list xs)))))
  | _ => .bad
def rtlK : Option (Option R) → Rs Out
  | some (some (.l xs)) => .ok (.rt (.l xs))
  | _ => .bad
def ifK (C : Nat → List R → Rs R) (a b : Sms) (ρ : Sto) : Rs Bool → Rs Out
  | .ok true => xs C a ρ
  | .ok false => xs C b ρ
  | .err c => .err c
  | .bad => .bad
def seqK (C : Nat → List R → Rs R) (ss : Sms) : Rs Out → Rs Out
  | .ok (.nx ρ) => xs C ss ρ
  | .ok (.rt r) => .ok (.rt r)
  | .err c => .err c
  | .bad => .bad
def outK : Rs Out → Rs R
  | .ok (.nx _) => .ok (.d .none)
  | .ok (.rt r) => .ok r
  | .err c => .err c
  | .bad => .bad
@[simp] theorem varR_ok (r : R) : varR (some (some r)) = .ok r.lend := id rfl
@[simp] theorem andG_t (b : Ex) (x : R) : andG C b ρ x (.ok true) = ev C b ρ := id rfl
@[simp] theorem andG_f (b : Ex) (x : R) : andG C b ρ x (.ok false) = .ok x := id rfl
@[simp] theorem orG_t (b : Ex) (x : R) : orG C b ρ x (.ok true) = .ok x := id rfl
@[simp] theorem orG_f (b : Ex) (x : R) : orG C b ρ x (.ok false) = ev C b ρ := id rfl
@[simp] theorem andF_eq (b : Ex) (x : R) : andF C b ρ x = andG C b ρ x (truR x) := id rfl
@[simp] theorem orF_eq (b : Ex) (x : R) : orF C b ρ x = orG C b ρ x (truR x) := id rfl
@[simp] theorem iteF_t (a b : Ex) : iteF C a b ρ (.ok true) = ev C a ρ := id rfl
@[simp] theorem iteF_f (a b : Ex) : iteF C a b ρ (.ok false) = ev C b ρ := id rfl
@[simp] theorem chnG_t (p : Cm) (c : Ex) (y : R) : chnG C p c ρ y (.ok true) = b1 (ev C c ρ) (cmpR p y) := id rfl
@[simp] theorem chnG_f (p : Cm) (c : Ex) (y : R) : chnG C p c ρ y (.ok false) = .ok false := id rfl
@[simp] theorem chnF_eq (o p : Cm) (c : Ex) (x y : R) : chnF C o p c ρ x y = chnG C p c ρ y (cmpR o x y) := id rfl
@[simp] theorem lensF_eq (x : R) : lensF x = lensetR [x] := id rfl
@[simp] theorem consF_eq (x : R) (xs : List R) : consF x xs = .ok (x :: xs) := id rfl
@[simp] theorem andT_t (b : Ex) : andT C b ρ (.ok true) = evT C b ρ := id rfl
@[simp] theorem andT_f (b : Ex) : andT C b ρ (.ok false) = .ok false := id rfl
@[simp] theorem orT_t (b : Ex) : orT C b ρ (.ok true) = .ok true := id rfl
@[simp] theorem orT_f (b : Ex) : orT C b ρ (.ok false) = evT C b ρ := id rfl
@[simp] theorem nxF_eq (ρ : Sto) : nxF ρ = .ok (.nx ρ) := id rfl
@[simp] theorem asgF_eq (t : Tg) (x : D) : asgF t ρ x = b1 (setT t x ρ) nxF := id rfl
@[simp] theorem prF_eq (a b : R) : prF a b = .ok [a, b] := id rfl
@[simp] theorem parF_eq (i j : Nat) (x y : D) : parF i j ρ [x, y] = .ok (.nx (setAll [i, j] [x, y] ρ)) := id rfl
@[simp] theorem appK_eq (i : Nat) (xs : List D) (x : D) : appK ρ i (some (some (.l xs))) (.ok x) = appS ρ i xs [x] := id rfl
@[simp] theorem extG_eq (i : Nat) (xs ys : List D) : extG ρ i xs (some ys) = appS ρ i xs ys := id rfl
@[simp] theorem extK_eq (i : Nat) (xs : List D) (r : R) : extK ρ i (some (some (.l xs))) (.ok r) = extG ρ i xs r.lst? := id rfl
@[simp] theorem putK_eq (i : Nat) (xs : List D) (y : D) (k : R) : putK ρ i (some (some (.l xs))) (.ok y) (.ok k) = putS ρ i xs k y := id rfl
@[simp] theorem frzK_eq (i : Nat) (xs : List D) : frzK ρ i (some (some (.l xs))) = .ok (.nx (ρ.set i (some (.d (.list xs))))) := id rfl
@[simp] theorem rtlK_eq (xs : List D) : rtlK (some (some (.l xs))) = .ok (.rt (.l xs)) := id rfl
@[simp] theorem ifK_t (a b : Sms) : ifK C a b ρ (.ok true) = xs C a ρ := id rfl
@[simp] theorem ifK_f (a b : Sms) : ifK C a b ρ (.ok false) = xs C b ρ := id rfl
@[simp] theorem seqK_nx (ss : Sms) : seqK C ss (.ok (.nx ρ)) = xs C ss ρ := id rfl
@[simp] theorem seqK_rt (ss : Sms) (r : R) : seqK C ss (.ok (.rt r)) = .ok (.rt r) := id rfl
@[simp] theorem outK_nx : outK (.ok (.nx ρ)) = .ok (.d .none) := id rfl
@[simp] theorem outK_rt (r : R) : outK (.ok (.rt r)) = .ok r := id rfl
theorem outR_eq (m : Rs Out) : outR m = outK m := by
  cases m with
  | ok o => cases o <;> rfl
  | _ => rfl
@[simp] theorem ev_var (i : Nat) : ev C (.var i) ρ = varR ρ[i]? := by
  rw [ev]; cases ρ[i]? with
  | none => rfl
  | some o => cases o <;> rfl
@[simp] theorem ev_cst (x : D) : ev C (.cst x) ρ = .ok (.d x) := by rw [ev]
@[simp] theorem ev_tup (es : Exs) : ev C (.tup es) ρ = b1 (b1 (evs C es ρ) frzAll) tupG := by
  rw [ev]; cases evs C es ρ <;> rfl
@[simp] theorem ev_lst (es : Exs) : ev C (.lst es) ρ = b1 (b1 (evs C es ρ) frzAll) lstG := by
  rw [ev]; cases evs C es ρ <;> rfl
@[simp] theorem ev_bin (o : Op2) (a b : Ex) : ev C (.bin o a b) ρ = b2 (ev C a ρ) (ev C b ρ) (binR o) := by rw [ev]; rfl
@[simp] theorem ev_neg (a : Ex) : ev C (.neg a) ρ = b1 (ev C a ρ) negR := by rw [ev]; rfl
@[simp] theorem ev_cmp (o : Cm) (a b : Ex) : ev C (.cmp o a b) ρ = boolR (b2 (ev C a ρ) (ev C b ρ) (cmpR o)) := by
  rw [ev]; cases ev C a ρ <;> cases ev C b ρ <;> rfl
@[simp] theorem ev_chn (o p : Cm) (a b c : Ex) : ev C (.chn o p a b c) ρ = boolR (b2 (ev C a ρ) (ev C b ρ) (chnF C o p c ρ)) := by
  rw [ev]
  cases ev C a ρ with
  | ok x =>
    cases ev C b ρ with
    | ok y =>
      show (cmpR o x y >>= _) = boolR (chnG C p c ρ y (cmpR o x y))
      cases cmpR o x y with
      | ok k =>
        cases k with
        | true => show (ev C c ρ >>= _) = boolR (b1 (ev C c ρ) (cmpR p y)); cases ev C c ρ <;> rfl
        | false => rfl
      | _ => rfl
    | _ => rfl
  | _ => rfl
@[simp] theorem ev_and (a b : Ex) : ev C (.and a b) ρ = b1 (ev C a ρ) (andF C b ρ) := by
  rw [ev]
  cases ev C a ρ with
  | ok x =>
    show (truR x >>= _) = andG C b ρ x (truR x)
    cases truR x with
    | ok k => cases k <;> rfl
    | _ => rfl
  | _ => rfl
@[simp] theorem ev_or (a b : Ex) : ev C (.or a b) ρ = b1 (ev C a ρ) (orF C b ρ) := by
  rw [ev]
  cases ev C a ρ with
  | ok x =>
    show (truR x >>= _) = orG C b ρ x (truR x)
    cases truR x with
    | ok k => cases k <;> rfl
    | _ => rfl
  | _ => rfl
@[simp] theorem ev_not (a : Ex) : ev C (.not a) ρ = boolR (notB (b1 (ev C a ρ) truR)) := by
  rw [ev]; cases ev C a ρ <;> rfl
@[simp] theorem ev_ite (c a b : Ex) : ev C (.ite c a b) ρ = iteF C a b ρ (evT C c ρ) := by
  rw [ev]
  cases evT C c ρ with
  | ok k => cases k <;> rfl
  | _ => rfl
@[simp] theorem ev_idx (a b : Ex) : ev C (.idx a b) ρ = b2 (ev C a ρ) (ev C b ρ) idxR := by rw [ev]; rfl
@[simp] theorem ev_slc (a : Ex) (lo hi : Exs) : ev C (.slc a lo hi) ρ = b3 (ev C a ρ) (b1 (evs C lo ρ) optI) (b1 (evs C hi ρ) optI) slcR := by rw [ev]; rfl
@[simp] theorem ev_rev (a : Ex) : ev C (.rev a) ρ = b1 (ev C a ρ) revR := by rw [ev]; rfl
@[simp] theorem ev_call (f : Nat) (es : Exs) : ev C (.call f es) ρ = b1 (b1 (evs C es ρ) argAll) (C f) := by
  rw [ev]; cases evs C es ρ <;> rfl
@[simp] theorem ev_blt (f : Bf) (es : Exs) : ev C (.blt f es) ρ = b1 (evs C es ρ) (bltR f) := by rw [ev]; rfl
@[simp] theorem ev_isi (t : Ty) (a : Ex) : ev C (.isi t a) ρ = boolR (b1 (ev C a ρ) (isiR [t])) := by
  rw [ev]; cases ev C a ρ <;> rfl
@[simp] theorem ev_isi2 (t u : Ty) (a : Ex) : ev C (.isi2 t u a) ρ = boolR (b1 (ev C a ρ) (isiR [t, u])) := by
  rw [ev]; cases ev C a ρ <;> rfl
@[simp] theorem ev_lenset (a : Ex) : ev C (.lenset a) ρ = b1 (ev C a ρ) lensF := by rw [ev]; rfl
@[simp] theorem ev_dget (kvs : List (Str × D)) (a : Ex) : ev C (.dget kvs a) ρ = b1 (ev C a ρ) (dgetR kvs) := by rw [ev]; rfl
@[simp] theorem ev_stp (a k : Ex) : ev C (.stp a k) ρ = b2 (ev C a ρ) (ev C k ρ) stpR := by rw [ev]; rfl
@[simp] theorem ev_dsel (ks : List Str) (es : Exs) (a : Ex) : ev C (.dsel ks es a) ρ = b2 (b1 (evs C es ρ) frzAll) (ev C a ρ) (dselR ks) := by
  rw [ev]; cases evs C es ρ <;> rfl
@[simp] theorem evs_nil : evs C .nil ρ = .ok [] := by rw [evs]
@[simp] theorem evs_cons (e : Ex) (es : Exs) : evs C (.cons e es) ρ = b2 (ev C e ρ) (evs C es ρ) consF := by rw [evs]; rfl
@[simp] theorem evI_seq (e : Ex) : evI C (.seq e) ρ = b1 (ev C e ρ) R.itm := by rw [evI]; rfl
@[simp] theorem evI_rng1 (a : Ex) : evI C (.rng1 a) ρ = b1 (ev C a ρ) rngF := by
  rw [evI]; cases ev C a ρ with
  | ok x => cases x with
    | d x => cases x <;> rfl
    | _ => rfl
  | _ => rfl
@[simp] theorem evI_rng2 (a b : Ex) : evI C (.rng2 a b) ρ = b2 (ev C a ρ) (ev C b ρ) rngG := by
  rw [evI]; cases ev C a ρ with
  | ok x => cases ev C b ρ with
    | ok y => cases x with
      | d x => cases x <;> (cases y with
        | d y => cases y <;> rfl
        | _ => rfl)
      | _ => rfl
    | _ => rfl
  | _ => rfl
@[simp] theorem evI_enum (e : Ex) : evI C (.enum e) ρ = b1 (ev C e ρ) enumR := by rw [evI]; rfl
@[simp] theorem enum_t (xs : List D) : enumR (.d (.tuple xs)) = .ok (enumL 0 xs) := id rfl
@[simp] theorem evI_zip (a b : Ex) : evI C (.zip a b) ρ = b2 (ev C a ρ) (ev C b ρ) zipR := by rw [evI]; rfl
@[simp] theorem evI_dks (kvs : List (Str × D)) : evI C (.dks kvs) ρ = .ok (kvs.map fun p => .str p.1) := by rw [evI]
@[simp] theorem evT_and (a b : Ex) : evT C (.and a b) ρ = andT C b ρ (evT C a ρ) := by
  rw [evT]
  cases evT C a ρ with
  | ok k => cases k <;> rfl
  | _ => rfl
@[simp] theorem evT_or (a b : Ex) : evT C (.or a b) ρ = orT C b ρ (evT C a ρ) := by
  rw [evT]
  cases evT C a ρ with
  | ok k => cases k <;> rfl
  | _ => rfl
@[simp] theorem evT_not (a : Ex) : evT C (.not a) ρ = notB (evT C a ρ) := by rw [evT]
@[simp] theorem evT_cmp (o : Cm) (a b : Ex) : evT C (.cmp o a b) ρ = b2 (ev C a ρ) (ev C b ρ) (cmpR o) := by rw [evT]; rfl
@[simp] theorem evT_chn (o p : Cm) (a b c : Ex) : evT C (.chn o p a b c) ρ = b2 (ev C a ρ) (ev C b ρ) (chnF C o p c ρ) := by
  rw [evT]
  cases ev C a ρ with
  | ok x =>
    cases ev C b ρ with
    | ok y =>
      show (cmpR o x y >>= _) = chnG C p c ρ y (cmpR o x y)
      cases cmpR o x y with
      | ok k => cases k <;> rfl
      | _ => rfl
    | _ => rfl
  | _ => rfl
@[simp] theorem evT_var (i : Nat) : evT C (.var i) ρ = b1 (varR ρ[i]?) truR := by
  rw [evT]; cases ρ[i]? with
  | none => rfl
  | some o => cases o <;> rfl
@[simp] theorem evT_idx (a b : Ex) : evT C (.idx a b) ρ = b1 (b2 (ev C a ρ) (ev C b ρ) idxR) truR := by rw [evT]; rfl
@[simp] theorem evT_call (f : Nat) (es : Exs) : evT C (.call f es) ρ = b1 (b1 (b1 (evs C es ρ) argAll) (C f)) truR := by
  rw [evT]; cases evs C es ρ <;> rfl
@[simp] theorem evT_blt (f : Bf) (es : Exs) : evT C (.blt f es) ρ = b1 (b1 (evs C es ρ) (bltR f)) truR := by rw [evT]; rfl
@[simp] theorem evT_isi (t : Ty) (a : Ex) : evT C (.isi t a) ρ = b1 (ev C a ρ) (isiR [t]) := by rw [evT]; rfl
@[simp] theorem evT_isi2 (t u : Ty) (a : Ex) : evT C (.isi2 t u a) ρ = b1 (ev C a ρ) (isiR [t, u]) := by rw [evT]; rfl
@[simp] theorem x1_asg (t : Tg) (e : Ex) : x1 C (.asg t e) ρ = b1 (b1 (ev C e ρ) R.frz) (asgF t ρ) := by
  rw [x1]; cases ev C e ρ <;> rfl
@[simp] theorem x1_own (i : Nat) (e : Ex) : x1 C (.own i e) ρ = b1 (ev C e ρ) (ownS ρ i) := by rw [x1]; rfl
@[simp] theorem x1_par (i j : Nat) (x y : Ex) : x1 C (.par i j x y) ρ = b1 (b1 (b2 (ev C x ρ) (ev C y ρ) prF) frzAll) (parF i j ρ) := by
  rw [x1]; cases ev C x ρ <;> cases ev C y ρ <;> rfl
@[simp] theorem x1_app (i : Nat) (e : Ex) : x1 C (.app i e) ρ = appK ρ i ρ[i]? (b1 (ev C e ρ) R.frz) := by
  rw [x1, ownX]
  match ρ[i]? with
  | none => rfl
  | some none => rfl
  | some (some (.l xs)) => cases ev C e ρ <;> rfl
  | some (some (.d _)) => rfl
  | some (some (.b _)) => rfl
  | some (some (.s _)) => rfl
  | some (some (.m _)) => rfl
  | some (some (.n _)) => rfl
  | some (some .q) => rfl
  | some (some (.o _)) => rfl
  | some (some (.t _)) => rfl
@[simp] theorem x1_ext (i : Nat) (e : Ex) : x1 C (.ext i e) ρ = extK ρ i ρ[i]? (ev C e ρ) := by
  rw [x1, ownX]
  match ρ[i]? with
  | none => rfl
  | some none => rfl
  | some (some (.l xs)) =>
    cases ev C e ρ with
    | ok r => show (match r.lst? with | some ys => appS ρ i xs ys | none => .bad) = extG ρ i xs r.lst?; cases r.lst? <;> rfl
    | _ => rfl
  | some (some (.d _)) => rfl
  | some (some (.b _)) => rfl
  | some (some (.s _)) => rfl
  | some (some (.m _)) => rfl
  | some (some (.n _)) => rfl
  | some (some .q) => rfl
  | some (some (.o _)) => rfl
  | some (some (.t _)) => rfl
@[simp] theorem x1_put (i : Nat) (k e : Ex) : x1 C (.put i k e) ρ = putK ρ i ρ[i]? (b1 (ev C e ρ) R.frz) (ev C k ρ) := by
  rw [x1, ownX]
  match ρ[i]? with
  | none => rfl
  | some none => rfl
  | some (some (.l xs)) => cases ev C e ρ <;> rfl
  | some (some (.d _)) => rfl
  | some (some (.b _)) => rfl
  | some (some (.s _)) => rfl
  | some (some (.m _)) => rfl
  | some (some (.n _)) => rfl
  | some (some .q) => rfl
  | some (some (.o _)) => rfl
  | some (some (.t _)) => rfl
@[simp] theorem x1_frz (i : Nat) : x1 C (.frz i) ρ = frzK ρ i ρ[i]? := by
  rw [x1, frzS]
  match ρ[i]? with
  | none => rfl
  | some none => rfl
  | some (some (.l xs)) => rfl
  | some (some (.d _)) => rfl
  | some (some (.b _)) => rfl
  | some (some (.s _)) => rfl
  | some (some (.m _)) => rfl
  | some (some (.n _)) => rfl
  | some (some .q) => rfl
  | some (some (.o _)) => rfl
  | some (some (.t _)) => rfl
@[simp] theorem x1_ifs (c : Ex) (a b : Sms) : x1 C (.ifs c a b) ρ = ifK C a b ρ (evT C c ρ) := by
  rw [x1]
  cases evT C c ρ with
  | ok k => cases k <;> rfl
  | _ => rfl
@[simp] theorem x1_ret (e : Ex) : x1 C (.ret e) ρ = b1 (ev C e ρ) retR := by rw [x1]; rfl
@[simp] theorem x1_rtl (i : Nat) : x1 C (.rtl i) ρ = rtlK ρ[i]? := by
  rw [x1, rtlS]
  match ρ[i]? with
  | none => rfl
  | some none => rfl
  | some (some (.l xs)) => rfl
  | some (some (.d _)) => rfl
  | some (some (.b _)) => rfl
  | some (some (.s _)) => rfl
  | some (some (.m _)) => rfl
  | some (some (.n _)) => rfl
  | some (some .q) => rfl
  | some (some (.o _)) => rfl
  | some (some (.t _)) => rfl
@[simp] theorem x1_rse (c : Nat) : x1 C (.rse c) ρ = .err c := by rw [x1]
@[simp] theorem x1_pas : x1 C .pas ρ = .ok (.nx ρ) := by rw [x1]
@[simp] theorem xs_nil' : xs C .nil ρ = .ok (.nx ρ) := by rw [xs]
@[simp] theorem xs_cons' (s : Sm) (ss : Sms) : xs C (.cons s ss) ρ = seqK C ss (x1 C s ρ) := by
  rw [xs]
  cases x1 C s ρ with
  | ok o => cases o <;> rfl
  | _ => rfl
@[simp] theorem lend_d (x : D) : (R.d x).lend = .d x := id rfl
@[simp] theorem lend_l (x : List D) : (R.l x).lend = .b x := id rfl
@[simp] theorem lend_b (x : List D) : (R.b x).lend = .b x := id rfl
@[simp] theorem lend_s (x : List D) : (R.s x).lend = .s x := id rfl
@[simp] theorem frz_d (x : D) : (R.d x).frz = .ok x := id rfl
@[simp] theorem frz_l (x : List D) : (R.l x).frz = .ok (.list x) := id rfl
@[simp] theorem arg_d (x : D) : (R.d x).arg = .ok (.d x) := id rfl
@[simp] theorem arg_l (x : List D) : (R.l x).arg = .ok (.d (.list x)) := id rfl
@[simp] theorem arg_s (x : List D) : (R.s x).arg = .ok (.s x) := id rfl
def consG (x : R) (xs : List R) : Rs (List R) := .ok (x :: xs)
def consD (x : D) (xs : List D) : Rs (List D) := .ok (x :: xs)
@[simp] theorem argAll_nil : argAll [] = .ok [] := id rfl
@[simp] theorem argAll_consE (r : R) (rs : List R) : argAll (r :: rs) = b2 r.arg (argAll rs) consG := id rfl
@[simp] theorem consG_eq (x : R) (xs : List R) : consG x xs = .ok (x :: xs) := id rfl
@[simp] theorem frzAll_nil : frzAll [] = .ok [] := id rfl
@[simp] theorem frzAll_consE (r : R) (rs : List R) : frzAll (r :: rs) = b2 r.frz (frzAll rs) consD := id rfl
@[simp] theorem consD_eq (x : D) (xs : List D) : consD x xs = .ok (x :: xs) := id rfl
@[simp] theorem ret_d (x : D) : retR (.d x) = .ok (.rt (.d x)) := id rfl
@[simp] theorem ret_l (x : List D) : retR (.l x) = .ok (.rt (.l x)) := id rfl
@[simp] theorem ret_s (x : List D) : retR (.s x) = .ok (.rt (.s x)) := id rfl
@[simp] theorem tupG_0 : tupG [] = .ok (.d (.tuple [])) := id rfl
@[simp] theorem tupG_1 (a : D) : tupG [a] = .ok (.d (.tuple [a])) := id rfl
@[simp] theorem tupG_2 (a b : D) : tupG [a, b] = .ok (.d (.tuple [a, b])) := id rfl
@[simp] theorem tupG_3 (a b c : D) : tupG [a, b, c] = .ok (.d (.tuple [a, b, c])) := id rfl
@[simp] theorem tupG_4 (a b c d : D) : tupG [a, b, c, d] = .ok (.d (.tuple [a, b, c, d])) := id rfl
@[simp] theorem lstG_0 : lstG [] = .ok (.l []) := id rfl
@[simp] theorem lstG_1 (a : D) : lstG [a] = .ok (.l [a]) := id rfl
@[simp] theorem lstG_2 (a b : D) : lstG [a, b] = .ok (.l [a, b]) := id rfl
@[simp] theorem lstG_3 (a b c : D) : lstG [a, b, c] = .ok (.l [a, b, c]) := id rfl
@[simp] theorem boolR_ok (c : Bool) : boolR (.ok c) = .ok (.d (.bool c)) := id rfl
@[simp] theorem notB_ok (c : Bool) : notB (.ok c) = .ok (!c) := id rfl
@[simp] theorem setT_nm (i : Nat) (x : D) : setT (.nm i) x ρ = .ok (ρ.set i (some (.d x))) := id rfl
@[simp] theorem setT_2 (i j : Nat) (x y : D) : setT (.tp [i, j]) (.tuple [x, y]) ρ = .ok ((ρ.set i (some (.d x))).set j (some (.d y))) := id rfl
@[simp] theorem setT_3 (i j k : Nat) (x y z : D) : setT (.tp [i, j, k]) (.tuple [x, y, z]) ρ = .ok (((ρ.set i (some (.d x))).set j (some (.d y))).set k (some (.d z))) := id rfl
@[simp] theorem setT_4 (i j k l : Nat) (x y z w : D) : setT (.tp [i, j, k, l]) (.tuple [x, y, z, w]) ρ = .ok ((((ρ.set i (some (.d x))).set j (some (.d y))).set k (some (.d z))).set l (some (.d w))) := id rfl
@[simp] theorem ownS_l (i : Nat) (xs : List D) : ownS ρ i (.l xs) = .ok (.nx (ρ.set i (some (.l xs)))) := id rfl
@[simp] theorem cmp_eq (a b : R) : cmpR .eq a b = eqR a b := id rfl
@[simp] theorem cmp_ne (a b : R) : cmpR .ne a b = notB (eqR a b) := id rfl
@[simp] theorem cmp_lt (i j : Int) : cmpR .lt (.d (.int i)) (.d (.int j)) = .ok (decide (i < j)) := id rfl
@[simp] theorem cmp_le (i j : Int) : cmpR .le (.d (.int i)) (.d (.int j)) = .ok (decide (i ≤ j)) := id rfl
@[simp] theorem cmp_gt (i j : Int) : cmpR .gt (.d (.int i)) (.d (.int j)) = .ok (decide (j < i)) := id rfl
@[simp] theorem cmp_ge (i j : Int) : cmpR .ge (.d (.int i)) (.d (.int j)) = .ok (decide (j ≤ i)) := id rfl
@[simp] theorem cmp_in (a b : R) : cmpR .in_ a b = inR a b := id rfl
@[simp] theorem cmp_nin (a b : R) : cmpR .nin a b = notB (inR a b) := id rfl
@[simp] theorem cmp_is (a b : R) : cmpR .is_ a b = isR a b := id rfl
@[simp] theorem cmp_isn (a b : R) : cmpR .isn a b = notB (isR a b) := id rfl
@[simp] theorem is_bb (c e : Bool) : isR (.d (.bool c)) (.d (.bool e)) = .ok (decide (c = e)) := id rfl
@[simp] theorem is_nn : isR (.d .none) (.d .none) = .ok true := id rfl
@[simp] theorem is_in (i : Int) : isR (.d (.int i)) (.d .none) = .ok false := id rfl
@[simp] theorem is_sn (i : Str) : isR (.d (.str i)) (.d .none) = .ok false := id rfl
@[simp] theorem is_bn (i : Bool) : isR (.d (.bool i)) (.d .none) = .ok false := id rfl
@[simp] theorem is_tn (i : List D) : isR (.d (.tuple i)) (.d .none) = .ok false := id rfl
@[simp] theorem is_ln (i : List D) : isR (.d (.list i)) (.d .none) = .ok false := id rfl
@[simp] theorem eq_ii (i j : Int) : eqR (.d (.int i)) (.d (.int j)) = .ok (decide (i = j)) := by
  simp [eqR, R.isD, shallow, R.see, PyData.depth, PyData.eqv]
  by_cases h : i = j <;> simp [h]
@[simp] theorem eq_ss (i j : Str) : eqR (.d (.str i)) (.d (.str j)) = .ok (decide (i = j)) := by
  simp [eqR, R.isD, shallow, R.see, PyData.depth, PyData.eqv]
  by_cases h : i = j <;> simp [h]
@[simp] theorem add_ii (i j : Int) : binR .add (.d (.int i)) (.d (.int j)) = .ok (.d (.int (i + j))) := id rfl
@[simp] theorem sub_ii (i j : Int) : binR .sub (.d (.int i)) (.d (.int j)) = .ok (.d (.int (i - j))) := id rfl
@[simp] theorem isi1 (x : D) (t : Ty) : isiR [t] (.d x) = .ok (tyR (.d x) t) := by
  show Rs.ok ([t].any (tyR (.d x))) = _
  simp
@[simp] theorem isi2 (x : D) (t u : Ty) : isiR [t, u] (.d x) = .ok (tyR (.d x) t || tyR (.d x) u) := by
  show Rs.ok ([t, u].any (tyR (.d x))) = _
  simp
@[simp] theorem ty_tt (x : List D) : tyR (.d (.tuple x)) .tuple = true := id rfl
@[simp] theorem ty_ti (x : List D) : tyR (.d (.tuple x)) .int = false := id rfl
@[simp] theorem ty_tb (x : List D) : tyR (.d (.tuple x)) .bool = false := id rfl
@[simp] theorem ty_ts (x : List D) : tyR (.d (.tuple x)) .str = false := id rfl
@[simp] theorem ty_it (x : Int) : tyR (.d (.int x)) .tuple = false := id rfl
@[simp] theorem ty_ii (x : Int) : tyR (.d (.int x)) .int = true := id rfl
@[simp] theorem ty_ib (x : Int) : tyR (.d (.int x)) .bool = false := id rfl
@[simp] theorem ty_is (x : Int) : tyR (.d (.int x)) .str = false := id rfl
@[simp] theorem ty_st (x : Str) : tyR (.d (.str x)) .tuple = false := id rfl
@[simp] theorem ty_si (x : Str) : tyR (.d (.str x)) .int = false := id rfl
@[simp] theorem ty_sb (x : Str) : tyR (.d (.str x)) .bool = false := id rfl
@[simp] theorem ty_ss (x : Str) : tyR (.d (.str x)) .str = true := id rfl
@[simp] theorem ty_bt (x : Bool) : tyR (.d (.bool x)) .tuple = false := id rfl
@[simp] theorem ty_bi (x : Bool) : tyR (.d (.bool x)) .int = true := id rfl
@[simp] theorem ty_bb (x : Bool) : tyR (.d (.bool x)) .bool = true := id rfl
@[simp] theorem ty_bs (x : Bool) : tyR (.d (.bool x)) .str = false := id rfl
@[simp] theorem ty_nt : tyR (.d .none) .tuple = false := id rfl
@[simp] theorem ty_ni : tyR (.d .none) .int = false := id rfl
@[simp] theorem ty_nb : tyR (.d .none) .bool = false := id rfl
@[simp] theorem ty_ns : tyR (.d .none) .str = false := id rfl
@[simp] theorem ty_lt (x : List D) : tyR (.d (.list x)) .tuple = false := id rfl
@[simp] theorem tru_b (c : Bool) : truR (.d (.bool c)) = .ok c := id rfl
@[simp] theorem idx_0 (a : D) (xs : List D) : idxR (.d (.tuple (a :: xs))) (.d (.int 0)) = .ok (.d a) := idx0 a xs
@[simp] theorem idx_1 (a b : D) (xs : List D) : idxR (.d (.tuple (a :: b :: xs))) (.d (.int 1)) = .ok (.d b) := idx1 a b xs
@[simp] theorem idx_2 (a b c : D) (xs : List D) : idxR (.d (.tuple (a :: b :: c :: xs))) (.d (.int 2)) = .ok (.d c) := idx2 a b c xs
@[simp] theorem idx_3 (a b c d : D) (xs : List D) : idxR (.d (.tuple (a :: b :: c :: d :: xs))) (.d (.int 3)) = .ok (.d d) := idx3 a b c d xs
@[simp] theorem len_t (xs : List D) : bltR .len [.d (.tuple xs)] = .ok (.d (.int xs.length)) := id rfl
@[simp] theorem len_L (xs : List D) : bltR .len [.d (.list xs)] = .ok (.d (.int xs.length)) := id rfl
@[simp] theorem len_l (xs : List D) : bltR .len [.l xs] = .ok (.d (.int xs.length)) := id rfl
@[simp] theorem len_b (xs : List D) : bltR .len [.b xs] = .ok (.d (.int xs.length)) := id rfl
@[simp] theorem len_sE (xs : List D) : bltR .len [.s xs] = .ok (.d (.int xs.length)) := id rfl
@[simp] theorem int_i (i : Int) : bltR .int [.d (.int i)] = .ok (.d (.int i)) := id rfl
@[simp] theorem int_b (c : Bool) : bltR .int [.d (.bool c)] = .ok (.d (.int (if c then 1 else 0))) := id rfl
@[simp] theorem tuple_l (xs : List D) : bltR .tuple [.l xs] = .ok (.d (.tuple xs)) := id rfl
@[simp] theorem tuple_L (xs : List D) : bltR .tuple [.d (.list xs)] = .ok (.d (.tuple xs)) := id rfl
@[simp] theorem list_t (xs : List D) : bltR .list [.d (.tuple xs)] = .ok (.l xs) := id rfl
@[simp] theorem max_ii (i j : Int) : bltR .max [.d (.int i), .d (.int j)] = .ok (.d (.int (if j > i then j else i))) := id rfl
@[simp] theorem min_ii (i j : Int) : bltR .min [.d (.int i), .d (.int j)] = .ok (.d (.int (if j < i then j else i))) := id rfl
@[simp] theorem opt0 : optI [] = .ok none := id rfl
@[simp] theorem opt1 (i : Int) : optI [.d (.int i)] = .ok (some i) := id rfl
@[simp] theorem lst_l (xs : List D) : (R.l xs).lst? = some xs := id rfl
@[simp] theorem lst_b (xs : List D) : (R.b xs).lst? = some xs := id rfl
@[simp] theorem lst_L (xs : List D) : (R.d (.list xs)).lst? = some xs := id rfl
@[simp] theorem itm_t (xs : List D) : (R.d (.tuple xs)).itm = .ok xs := id rfl
@[simp] theorem itm_L (xs : List D) : (R.d (.list xs)).itm = .ok xs := id rfl
@[simp] theorem itm_l (xs : List D) : (R.l xs).itm = .ok xs := id rfl
@[simp] theorem zip_tt (xs ys : List D) : zipR (.d (.tuple xs)) (.d (.tuple ys)) = .ok (zipL xs ys) := id rfl
theorem call_go {T : Nat → Option Fn} {n i : Nat} {fn : Fn} {as : List R} (h : T i = some fn) (hl : as.length = fn.np) {st : Sto} (hs : startS fn.n as = st) : call T (n + 1) i as = outK (xs (call T n) fn.body st) := by
  rw [call_eq h hl, outR_eq, hs]
theorem ev_lc {t : Tg} {it : It} {e : Ex} {ys zs : List D} (h1 : evI C it ρ = .ok ys) (h2 : ys.length ≤ lim)
    (h3 : lcL t (fun _ => .ok true) (fun ρ1 => ev C e ρ1) (wipeS ρ t.own) ys = .ok zs) : ev C (.lc t it e) ρ = .ok (.l zs) := by
  rw [ev, h1, bind_ok, fit_ok h2, h3]; rfl
theorem x1_for {t : Tg} {it : It} {b : Sms} {ys : List D} {o : Out} (h1 : evI C it ρ = .ok ys) (h2 : forL t (fun ρ1 => xs C b ρ1) ys ρ = .ok o) : x1 C (.for_ t it b) ρ = .ok o := by
  rw [x1, h1, bind_ok, h2]
/-- a comprehension over a row, item by item -/
theorem lc_map {α : Type} {t : Tg} {e : Ex} (f : α → D) (g : α → D) : ∀ (as : List α), (∀ a ∈ as, ∃ ρ1, setT t (f a) ρ = .ok ρ1 ∧ ∃ r, ev C e ρ1 = .ok r ∧ r.frz = .ok (g a)) →
    lcL t (fun _ => .ok true) (fun ρ1 => ev C e ρ1) ρ (as.map f) = .ok (as.map g)
  | [], _ => rfl
  | a :: as, h => by
    obtain ⟨ρ1, h1, r, h2, h3⟩ := h a (List.mem_cons_self ..)
    have ih := lc_map f g as fun a ha => h a (List.mem_cons_of_mem _ ha)
    show lcL t _ _ ρ (f a :: as.map f) = .ok (g a :: as.map g)
    rw [lcL, h1]
    show (ev C e ρ1 >>= _) = _
    rw [h2, bind_ok, h3, bind_ok, ih]
    rfl
end PP
set_option Elab.async false
set_option linter.all false
set_option autoImplicit false
set_option maxRecDepth 100000
set_option maxHeartbeats 1000000
namespace PP
open PySem
variable {T : Nat → Option Fn} {n : Nat}
mutual
def plain : D → Bool
  | .none => true
  | .bool _ => true
  | .int _ => true
  | .str _ => true
  | .tuple xs => decide (xs.length ≤ lim) && plainAll xs
  | _ => false
def plainAll : List D → Bool
  | [] => true
  | x :: xs => plain x && plainAll xs
end
end PP
set_option Elab.async false
set_option linter.all false
set_option autoImplicit false
set_option maxRecDepth 100000
set_option maxHeartbeats 1000000
namespace PP
open PySem
variable {T : Nat → Option Fn} {n : Nat}
theorem forL_inv {α : Type} {t : Tg} {b : Sto → Rs Out} (f : α → D) (I : List α → Sto → Prop) : ∀ (as pre : List α) (ρ : Sto), I pre ρ →
    (∀ pre' a ρ, I pre' ρ → (∃ post, pre' ++ a :: post = pre ++ as) → ∃ ρ1 ρ2, setT t (f a) ρ = .ok ρ1 ∧ b ρ1 = .ok (.nx ρ2) ∧ I (pre' ++ [a]) ρ2) →
    ∃ ρ', forL t b (as.map f) ρ = .ok (.nx ρ') ∧ I (pre ++ as) ρ'
  | [], pre, ρ, h, _ => ⟨ρ, rfl, by simpa using h⟩
  | a :: as, pre, ρ, h, st => by
    obtain ⟨ρ1, ρ2, h1, h2, h3⟩ := st pre a ρ h ⟨as, rfl⟩
    obtain ⟨ρ', e, h'⟩ := forL_inv f I as (pre ++ [a]) ρ2 h3 (fun pre' c ρ hi hp => st pre' c ρ hi (by simpa using hp))
    refine ⟨ρ', ?_, by simpa using h'⟩
    show forL t b (f a :: as.map f) ρ = _
    rw [forL, h1, bind_ok, h2]
    exact e
def irange (a b : Int) : List Int := (List.range (b - a).toNat).map fun (k : Nat) => a + k
theorem rngL_eq (a b : Int) : rngL a b = (irange a b).map .int := by
  simp [rngL, irange]
theorem mem_irange {a b x : Int} : x ∈ irange a b ↔ a ≤ x ∧ x < b := by
  simp only [irange, List.mem_map, List.mem_range]
  constructor
  · rintro ⟨k, h, rfl⟩; omega
  · intro h; exact ⟨(x - a).toNat, by omega, by omega⟩
theorem len_irange (a b : Int) : (irange a b).length = (b - a).toNat := by simp [irange]
theorem irange_lt (a b : Int) : (irange a b).Pairwise (· < ·) := by
  unfold irange
  rw [List.pairwise_map]
  exact List.pairwise_lt_range.imp (fun h => by omega)
def rowS (l w y : Int) : List (List Int) := (irange l (l + w)).map fun x => [x, y]
def spotsP : List Int → List (List Int)
  | [l, t, w, h] => (irange t (t + h)).flatMap (rowS l w)
  | _ => []
theorem mem_spots {l t w h : Int} {s : List Int} : s ∈ spotsP [l, t, w, h] ↔ ∃ x y, s = [x, y] ∧ l ≤ x ∧ x < l + w ∧ t ≤ y ∧ y < t + h := by
  simp only [spotsP, List.mem_flatMap, mem_irange, rowS, List.mem_map]
  constructor
  · rintro ⟨y, hy, x, hx, rfl⟩; exact ⟨x, y, rfl, hx.1, hx.2, hy.1, hy.2⟩
  · rintro ⟨x, y, rfl, h1, h2, h3, h4⟩; exact ⟨y, ⟨h3, h4⟩, x, ⟨h1, h2⟩, rfl⟩
theorem nodup_spots (l t w h : Int) : (spotsP [l, t, w, h]).Nodup := by
  unfold spotsP List.Nodup
  rw [List.pairwise_flatMap]
  constructor
  · intro y _
    unfold rowS
    rw [List.pairwise_map]
    exact (irange_lt _ _).imp (fun h e => by simp at e; omega)
  · refine (irange_lt _ _).imp ?_
    intro a b hab x hx y hy e
    simp only [rowS, List.mem_map] at hx hy
    obtain ⟨_, _, rfl⟩ := hx
    obtain ⟨_, _, rfl⟩ := hy
    simp at e; omega
theorem len_flat (l w : Int) : ∀ ys : List Int, (ys.flatMap (rowS l w)).length = ys.length * w.toNat
  | [] => by simp
  | y :: ys => by
    rw [List.flatMap_cons, List.length_append, len_flat l w ys]
    simp only [rowS, List.length_map, len_irange, List.length_cons]
    rw [show l + w - l = w by omega, Nat.succ_mul, Nat.add_comm]
theorem len_spots (l t w h : Int) : (spotsP [l, t, w, h]).length = h.toNat * w.toNat := by
  show ((irange t (t + h)).flatMap (rowS l w)).length = _
  rw [len_flat, len_irange, show t + h - t = h by omega]
theorem small_ok {i : Int} (h : -1000000 ≤ i) (h' : i ≤ 1000000) : smallI i = true := by
  unfold smallI; simp [h, h']
theorem rngG_ok {i j : Int} (h1 : -1000000 ≤ i) (h2 : i ≤ 1000000) (h3 : -1000000 ≤ j) (h4 : j ≤ 1000000) : rngG (.d (.int i)) (.d (.int j)) = .ok ((irange i j).map .int) := by
  show (if smallI i && smallI j then Rs.ok (rngL i j) else .bad) = _
  rw [small_ok h1 h2, small_ok h3 h4, rngL_eq]; rfl
theorem rngF_ok {j : Int} (h3 : -1000000 ≤ j) (h4 : j ≤ 1000000) : rngF (.d (.int j)) = .ok ((irange 0 j).map .int) := by
  show (if smallI j then Rs.ok (rngL 0 j) else .bad) = _
  rw [small_ok h3 h4, rngL_eq]; rfl
structure TS (T : Nat → Option Fn) : Prop where
  whole : T 0 = some f0_is_whole
  window : T 1 = some f1_is_window
  part : T 2 = some f2_is_part
  spots : T 3 = some f3_spots_of
  picture : T 16 = some f16_is_picture
end PP
set_option Elab.async false
set_option linter.all false
set_option autoImplicit false
set_option maxRecDepth 100000
set_option maxHeartbeats 1000000
namespace PP
open PySem
variable {T : Nat → Option Fn} {n : Nat}
/-- a picture, as the program tells it -/
structure Pic (W H : Int) (qs : List (List Int)) : Prop where
  w : 1 ≤ W ∧ W ≤ 6
  h : 1 ≤ H ∧ H ≤ 6
  len : 1 ≤ qs.length ∧ qs.length ≤ 7
  part : ∀ q ∈ qs, ∃ l t w g, q = [l, t, w, g] ∧ 0 ≤ l ∧ 0 ≤ t ∧ 0 < w ∧ 0 < g ∧ l + w ≤ W ∧ t + g ≤ H
  lt : qs.Pairwise (· < ·)
  nodup : (qs.flatMap spotsP).Nodup
  full : (qs.flatMap spotsP).length = W.toNat * H.toNat
theorem ints_map : ∀ ns : List Int, ints? (ns.map .int) = some ns
  | [] => rfl
  | n :: ns => by simp [ints?, ints_map ns]
theorem idx_nat {xs : List D} {k : Nat} {x : D} (h : xs[k]? = some x) : idxR (.d (.tuple xs)) (.d (.int k)) = .ok (.d x) := by
  have hk : k < xs.length := by
    rcases Nat.lt_or_ge k xs.length with z | z
    · exact z
    · rw [List.getElem?_eq_none z] at h; cases h
  have e : L2.atI xs (k : Int) = some x := L2.atI_nat h
  show (match L2.atI xs (k : Int) with | some x => Rs.ok (R.d x) | none => .bad) = _
  rw [e]
end PP
set_option Elab.async false
set_option linter.all false
set_option autoImplicit false
set_option maxRecDepth 100000
set_option maxHeartbeats 1000000
namespace PP
open PySem
variable {T : Nat → Option Fn} {n : Nat}
theorem WF_pos : ∀ (t : Tr) {w g : Int}, t.WF w g → 1 ≤ w ∧ 1 ≤ g
  | .pane, _, _, h => h
  | .cut true k a b, w, g, h => by
    have := WF_pos a h.2.2.1
    have := h.1; have := h.2.1
    omega
  | .cut false k a b, w, g, h => by
    have := WF_pos a h.2.2.1
    have := h.1; have := h.2.1
    omega
theorem depth_rows : ∀ ps : List (List Int), PyData.depthAll (ps.map tD) ≤ 1
  | [] => by simp [PyData.depthAll]
  | p :: ps => by
    have := depth_rows ps
    have := depth_tD p
    simp only [List.map_cons, PyData.depthAll]; omega
theorem plain_ints : ∀ ns : List Int, plainAll (ns.map .int) = true
  | [] => rfl
  | n :: ns => by simp [plainAll, plain, plain_ints ns]
theorem plain_rows : ∀ {ps : List (List Int)}, (∀ p ∈ ps, p.length ≤ lim) → plainAll (ps.map tD) = true
  | [], _ => rfl
  | p :: ps, h => by
    have h1 := h p (List.mem_cons_self ..)
    have h2 := plain_rows fun q hq => h q (List.mem_cons_of_mem _ hq)
    simp [plainAll, tD, plain, plain_ints, h1]
    simpa [tD] using h2
@[simp] theorem mod_ii {i j : Int} (h : 0 < j) : binR .mod (.d (.int i)) (.d (.int j)) = .ok (.d (.int (i % j))) := by
  show (if 0 < j then Rs.ok (R.d (.int (i % j))) else .bad) = _
  rw [if_pos h]
theorem mul_ii' {i j : Int} (h : -1000000 < i ∧ i < 1000000) : binR .mul (.d (.int i)) (.d (.int j)) = .ok (.d (.int (i * j))) := by
  show (if bnd j || bnd i then Rs.ok (R.d (.int (i * j))) else .bad) = _
  have : bnd i = true := by unfold bnd; simp; omega
  rw [this, Bool.or_true]; rfl
end PP
set_option Elab.async false
set_option linter.all false
set_option autoImplicit false
set_option maxRecDepth 100000
set_option maxHeartbeats 1000000
namespace PP
open PySem
variable {C : Nat → List R → Rs R} {ρ : Sto}
theorem lim_eq : lim = 100000 := id rfl
theorem wipe1 (i : Nat) (x : Option R) : (wipeS ρ [i]).set i x = ρ.set i x := by
  simp [wipeS]
theorem b1_frz {m : Rs R} {y : D} (h : b1 m R.frz = .ok y) : ∃ r, m = .ok r ∧ r.frz = .ok y := by
  cases m with
  | ok r => exact ⟨r, rfl, h⟩
  | err c => cases h
  | bad => cases h
theorem b1_inv {α β : Type} {m : Rs α} {k : α → Rs β} {y : β} (h : b1 m k = .ok y) : ∃ r, m = .ok r ∧ k r = .ok y := by
  cases m with
  | ok r => exact ⟨r, rfl, h⟩
  | err c => cases h
  | bad => cases h
/-- a comprehension over one name -/
theorem lc_nm {α : Type} {i : Nat} {it : It} {e : Ex} (f g : α → D) (as : List α) (h1 : evI C it ρ = .ok (as.map f)) (hl : as.length ≤ lim)
    (h : ∀ a ∈ as, b1 (ev C e (ρ.set i (some (.d (f a))))) R.frz = .ok (g a)) : ev C (.lc (.nm i) it e) ρ = .ok (.l (as.map g)) := by
  refine ev_lc h1 (by rw [List.length_map]; exact hl) (lc_map f g as fun a ha => ?_)
  obtain ⟨r, h2, h3⟩ := b1_frz (h a ha)
  exact ⟨_, setT_nm .., r, by show ev C e ((wipeS ρ [i]).set i _) = _; rw [wipe1]; exact h2, h3⟩
theorem lc_mapF {α : Type} {t : Tg} {c e : Ex} (f : α → D) (p : α → Bool) (g : α → D) : ∀ (as : List α), (∀ a ∈ as, ∃ ρ1, setT t (f a) ρ = .ok ρ1 ∧ evT C c ρ1 = .ok (p a) ∧ (p a = true → ∃ r, ev C e ρ1 = .ok r ∧ r.frz = .ok (g a))) →
    lcL t (fun ρ1 => evT C c ρ1) (fun ρ1 => ev C e ρ1) ρ (as.map f) = .ok ((as.filter p).map g)
  | [], _ => rfl
  | a :: as, h => by
    obtain ⟨ρ1, h1, hc, hr⟩ := h a (List.mem_cons_self ..)
    have ih := lc_mapF f p g as fun a ha => h a (List.mem_cons_of_mem _ ha)
    show lcL t _ _ ρ (f a :: as.map f) = _
    rw [lcL, h1]
    show (evT C c ρ1 >>= _) = _
    rw [hc]
    cases hp : p a with
    | true =>
      obtain ⟨r, h2, h3⟩ := hr hp
      show (ev C e ρ1 >>= _) = _
      rw [h2, bind_ok, h3, bind_ok, ih, List.filter_cons_of_pos hp]
      rfl
    | false =>
      show lcL t _ _ ρ (as.map f) = _
      rw [ih, List.filter_cons_of_neg (by simp [hp])]
theorem ev_lcf {t : Tg} {it : It} {c e : Ex} {ys zs : List D} (h1 : evI C it ρ = .ok ys) (h2 : ys.length ≤ lim)
    (h3 : lcL t (fun ρ1 => evT C c ρ1) (fun ρ1 => ev C e ρ1) (wipeS ρ t.own) ys = .ok zs) : ev C (.lcf t it c e) ρ = .ok (.l zs) := by
  rw [ev, h1, bind_ok, fit_ok h2, h3]; rfl
theorem lcf_nm {α : Type} {i : Nat} {it : It} {c e : Ex} (f : α → D) (p : α → Bool) (g : α → D) (as : List α) (h1 : evI C it ρ = .ok (as.map f)) (hl : as.length ≤ lim)
    (h : ∀ a ∈ as, evT C c (ρ.set i (some (.d (f a)))) = .ok (p a) ∧ (p a = true → b1 (ev C e (ρ.set i (some (.d (f a))))) R.frz = .ok (g a))) : ev C (.lcf (.nm i) it c e) ρ = .ok (.l ((as.filter p).map g)) := by
  refine ev_lcf h1 (by rw [List.length_map]; exact hl) (lc_mapF f p g as fun a ha => ?_)
  obtain ⟨h2, h3⟩ := h a ha
  refine ⟨_, setT_nm .., ?_, fun hp => ?_⟩
  · show evT C c ((wipeS ρ [i]).set i _) = _; rw [wipe1]; exact h2
  · show ∃ r, ev C e ((wipeS ρ [i]).set i _) = _ ∧ _; rw [wipe1]; exact b1_frz (h3 hp)
/-- a block goes on, with a store st v where I v -/
def Nx {V : Type} (st : V → Sto) (I : V → Prop) (z : Rs Out) : Prop := ∃ v, z = .ok (.nx (st v)) ∧ I v
theorem Nx.mk {V : Type} {st : V → Sto} {I : V → Prop} (v : V) {ρ' : Sto} (h : ρ' = st v) (hi : I v) : Nx st I (.ok (.nx ρ')) := ⟨v, by rw [h], hi⟩
/-- a for, by its invariant: the store is st pre v, with I pre v; P (K z) is asked, z being the for -/
theorem for_go {α β V : Type} {t : Tg} {it : It} {b : Sms} (P : β → Prop) (K : Rs Out → β) (f : α → D) (as : List α) (st : List α → V → Sto) (I : List α → V → Prop) (v0 : V)
    (h1 : evI C it ρ = .ok (as.map f)) (h0 : ρ = st [] v0) (hi0 : I [] v0)
    (hs : ∀ pre a post v, pre ++ a :: post = as → I pre v → Nx (st (pre ++ [a])) (I (pre ++ [a])) (b1 (setT t (f a) (st pre v)) (xs C b)))
    (hr : ∀ v, I as v → P (K (.ok (.nx (st as v))))) : P (K (x1 C (.for_ t it b) ρ)) := by
  obtain ⟨ρ', e, v, rfl, hi⟩ := forL_inv (t := t) (b := fun ρ1 => xs C b ρ1) f (fun pre ρ => ∃ v, ρ = st pre v ∧ I pre v) as [] ρ ⟨v0, h0, hi0⟩ (by
    rintro pre a ρ ⟨v, rfl, hi⟩ ⟨post, hp⟩
    obtain ⟨v', h2, h3⟩ := hs pre a post v hp hi
    obtain ⟨ρ1, h4, h5⟩ := b1_inv h2
    exact ⟨ρ1, _, h4, h5, v', rfl, h3⟩)
  rw [x1_for h1 e]
  exact hr v hi
@[simp] theorem lend_m (x : List (List Int × D)) : (R.m x).lend = .m x := id rfl
@[simp] theorem arg_m (x : List (List Int × D)) : (R.m x).arg = .ok (.m x) := id rfl
def mgetK (kvs : Option (List (List Int × D))) (m : Rs (List D)) : Rs R := match kvs with
  | some kvs => m >>= fun ds => fit ds.length (mgetR kvs ds)
  | none => .bad
@[simp] theorem ev_mget (i : Nat) (es : Exs) : ev C (.mget i es) ρ = mgetK (slotM ρ i) (b1 (evs C es ρ) frzAll) := by
  rw [ev, slotX]
  cases slotM ρ i with
  | none => rfl
  | some kvs => cases evs C es ρ <;> rfl
@[simp] theorem x1_mnew (i : Nat) : x1 C (.mnew i) ρ = .ok (.nx (ρ.set i (some (.n [])))) := by rw [x1]
def mputK (ρ : Sto) (i : Nat) : Option (Option R) → Rs D → Rs (List D) → Rs Out
  | some (some (.n kvs)), m, k => m >>= fun y => k >>= fun ds => fit ds.length (mputS ρ i kvs ds y)
  | _, _, _ => .bad
@[simp] theorem x1_mput (i : Nat) (es : Exs) (e : Ex) : x1 C (.mput i es e) ρ = mputK ρ i ρ[i]? (b1 (ev C e ρ) R.frz) (b1 (evs C es ρ) frzAll) := by
  rw [x1, mapX]
  match ρ[i]? with
  | none => rfl
  | some none => rfl
  | some (some (.n kvs)) =>
    show (ev C e ρ >>= _) = ((b1 (ev C e ρ) R.frz) >>= fun y => (b1 (evs C es ρ) frzAll) >>= fun ds => fit ds.length (mputS ρ i kvs ds y))
    cases ev C e ρ with
    | ok r =>
      show (r.frz >>= _) = (r.frz >>= _)
      cases r.frz with
      | ok y =>
        show (evs C es ρ >>= _) = _
        cases evs C es ρ with
        | ok rs => rfl
        | _ => rfl
      | _ => rfl
    | _ => rfl
  | some (some (.d _)) => rfl
  | some (some (.b _)) => rfl
  | some (some (.s _)) => rfl
  | some (some (.m _)) => rfl
  | some (some (.l _)) => rfl
  | some (some .q) => rfl
  | some (some (.o _)) => rfl
  | some (some (.t _)) => rfl
@[simp] theorem x1_rtm (i : Nat) : x1 C (.rtm i) ρ = rtmS ρ i := by rw [x1]
@[simp] theorem x1_mas (i : Nat) (e : Ex) : x1 C (.mas i e) ρ = b1 (ev C e ρ) (masS ρ i) := by rw [x1]; rfl
@[simp] theorem masS_m (i : Nat) (kvs : List (List Int × D)) : masS ρ i (.m kvs) = .ok (.nx (ρ.set i (some (.m kvs)))) := id rfl
@[simp] theorem x1_exp (e : Ex) : x1 C (.exp e) ρ = b1 (ev C e ρ) (fun _ => nxF ρ) := by rw [x1]; rfl
end PP
set_option Elab.async false
set_option linter.all false
set_option autoImplicit false
set_option maxRecDepth 100000
set_option maxHeartbeats 1000000
namespace PP
open PySem
structure Pn where
  l : Int
  t : Int
  w : Int
  h : Int
  deriving DecidableEq
def Pn.L (p : Pn) : List Int := [p.l, p.t, p.w, p.h]
def Pn.D (p : Pn) : D := tD p.L
theorem Pn.L_inj {p q : Pn} (h : p.L = q.L) : p = q := by
  cases p; cases q; simp [Pn.L] at h; simp [h]
/-- s: true: columns; false: rows -/
def Pn.lo (p : Pn) : Bool → Int
  | true => p.l
  | false => p.t
def Pn.sz (p : Pn) : Bool → Int
  | true => p.w
  | false => p.h
def Pn.has (p : Pn) (x y : Int) : Prop := p.l ≤ x ∧ x < p.l + p.w ∧ p.t ≤ y ∧ y < p.t + p.h
instance (p : Pn) (x y : Int) : Decidable (p.has x y) := by unfold Pn.has; infer_instance
def Pn.pos (p : Pn) : Prop := 0 < p.w ∧ 0 < p.h
def Pn.sub (p q : Pn) : Prop := q.l ≤ p.l ∧ p.l + p.w ≤ q.l + q.w ∧ q.t ≤ p.t ∧ p.t + p.h ≤ q.t + q.h
instance (p : Pn) : Decidable p.pos := by unfold Pn.pos; infer_instance
instance (p q : Pn) : Decidable (p.sub q) := by unfold Pn.sub; infer_instance
def Pn.c1 (p : Pn) (s : Bool) (c : Int) : Pn := match s with
  | true => ⟨p.l, p.t, c - p.l, p.h⟩
  | false => ⟨p.l, p.t, p.w, c - p.t⟩
def Pn.c2 (p : Pn) (s : Bool) (c : Int) : Pn := match s with
  | true => ⟨c, p.t, p.l + p.w - c, p.h⟩
  | false => ⟨p.l, c, p.w, p.t + p.h - c⟩
structure Til (P : Pn) (ps : List Pn) : Prop where
  inn : ∀ p ∈ ps, p.pos ∧ p.sub P
  dis : ∀ p ∈ ps, ∀ q ∈ ps, ∀ x y, p.has x y → q.has x y → p = q
  nd : ps.Nodup
  cov : ∀ x y, P.has x y → ∃ p ∈ ps, p.has x y
theorem Til.perm {P : Pn} {ps qs : List Pn} (h : Til P ps) (e : ps.Perm qs) : Til P qs :=
  ⟨fun p hp => h.inn p (e.mem_iff.mpr hp), fun p hp q hq => h.dis p (e.mem_iff.mpr hp) q (e.mem_iff.mpr hq), e.nodup_iff.mp h.nd,
   fun x y hx => let ⟨p, hp, hh⟩ := h.cov x y hx; ⟨p, e.mem_iff.mp hp, hh⟩⟩
/-- a place at which no pane goes on -/
def isLine (s : Bool) (ps : List Pn) (c : Int) : Prop := ∀ p ∈ ps, ¬ (p.lo s < c ∧ c < p.lo s + p.sz s)
instance (s : Bool) (ps : List Pn) (c : Int) : Decidable (isLine s ps c) := by unfold isLine; infer_instance
def fst (s : Bool) (c : Int) (ps : List Pn) : List Pn := ps.filter fun p => decide (p.lo s < c)
def snd (s : Bool) (c : Int) (ps : List Pn) : List Pn := ps.filter fun p => decide (c ≤ p.lo s)
theorem mem_fst {s : Bool} {c : Int} {ps : List Pn} {p : Pn} : p ∈ fst s c ps ↔ p ∈ ps ∧ p.lo s < c := by simp [fst]
theorem mem_snd {s : Bool} {c : Int} {ps : List Pn} {p : Pn} : p ∈ snd s c ps ↔ p ∈ ps ∧ c ≤ p.lo s := by simp [snd]
theorem Til.fst {P : Pn} {ps : List Pn} (h : Til P ps) {s : Bool} {c : Int} (hc : P.lo s < c ∧ c < P.lo s + P.sz s) (hl : isLine s ps c) : Til (P.c1 s c) (fst s c ps) := by
  refine ⟨fun p hp => ?_, fun p hp q hq => ?_, h.nd.filter _, fun x y hx => ?_⟩
  · rw [mem_fst] at hp
    obtain ⟨a, b⟩ := h.inn p hp.1
    have z := hl p hp.1
    refine ⟨a, ?_⟩
    cases s <;> simp only [Pn.sub, Pn.c1, Pn.lo, Pn.sz, Pn.pos] at * <;> omega
  · rw [mem_fst] at hp hq
    exact h.dis p hp.1 q hq.1
  · obtain ⟨p, hp, hh⟩ := h.cov x y (by cases s <;> simp only [Pn.has, Pn.c1, Pn.lo, Pn.sz] at * <;> omega)
    refine ⟨p, mem_fst.mpr ⟨hp, ?_⟩, hh⟩
    cases s <;> simp only [Pn.has, Pn.c1, Pn.lo, Pn.sz] at * <;> omega
theorem Til.snd {P : Pn} {ps : List Pn} (h : Til P ps) {s : Bool} {c : Int} (hc : P.lo s < c ∧ c < P.lo s + P.sz s) (hl : isLine s ps c) : Til (P.c2 s c) (snd s c ps) := by
  refine ⟨fun p hp => ?_, fun p hp q hq => ?_, h.nd.filter _, fun x y hx => ?_⟩
  · rw [mem_snd] at hp
    obtain ⟨a, b⟩ := h.inn p hp.1
    have z := hl p hp.1
    refine ⟨a, ?_⟩
    cases s <;> simp only [Pn.sub, Pn.c2, Pn.lo, Pn.sz, Pn.pos] at * <;> omega
  · rw [mem_snd] at hp hq
    exact h.dis p hp.1 q hq.1
  · obtain ⟨p, hp, hh⟩ := h.cov x y (by cases s <;> simp only [Pn.has, Pn.c2, Pn.lo, Pn.sz] at * <;> omega)
    refine ⟨p, mem_snd.mpr ⟨hp, ?_⟩, hh⟩
    have z := hl p hp
    cases s <;> simp only [Pn.has, Pn.c2, Pn.lo, Pn.sz] at * <;> omega
def Tr.pns : Tr → Pn → List Pn
  | .pane, P => [P]
  | .cut s k a b, P => a.pns (P.c1 s (P.lo s + k)) ++ b.pns (P.c2 s (P.lo s + k))
theorem pns_L : ∀ (t : Tr) (P : Pn), (t.pns P).map Pn.L = t.panes P.l P.t P.w P.h
  | .pane, P => rfl
  | .cut true k a b, P => by
    rw [Tr.pns, List.map_append, pns_L a, pns_L b, Tr.panes]
    simp only [Pn.c1, Pn.c2, Pn.lo]
    congr 2 <;> omega
  | .cut false k a b, P => by
    rw [Tr.pns, List.map_append, pns_L a, pns_L b, Tr.panes]
    simp only [Pn.c1, Pn.c2, Pn.lo]
    congr 2 <;> omega
theorem pns_len (t : Tr) (P : Pn) : (t.pns P).length = t.count := by
  rw [← panes_len t P.l P.t P.w P.h, ← pns_L, List.length_map]
def Tr.Fit (t : Tr) (P : Pn) : Prop := t.WF P.w P.h
theorem fit_cut {s : Bool} {k : Int} {a b : Tr} {P : Pn} : (Tr.cut s k a b).Fit P ↔ (1 ≤ k ∧ k < P.sz s) ∧ a.Fit (P.c1 s (P.lo s + k)) ∧ b.Fit (P.c2 s (P.lo s + k)) := by
  cases s
  · show (1 ≤ k ∧ k < P.h ∧ a.WF P.w k ∧ b.WF P.w (P.h - k)) ↔ (1 ≤ k ∧ k < P.h) ∧ a.WF P.w (P.t + k - P.t) ∧ b.WF P.w (P.t + P.h - (P.t + k))
    rw [show P.t + k - P.t = k by omega, show P.t + P.h - (P.t + k) = P.h - k by omega]
    exact and_assoc.symm
  · show (1 ≤ k ∧ k < P.w ∧ a.WF k P.h ∧ b.WF (P.w - k) P.h) ↔ (1 ≤ k ∧ k < P.w) ∧ a.WF (P.l + k - P.l) P.h ∧ b.WF (P.l + P.w - (P.l + k)) P.h
    rw [show P.l + k - P.l = k by omega, show P.l + P.w - (P.l + k) = P.w - k by omega]
    exact and_assoc.symm
theorem Tr.Fit.pos {t : Tr} {P : Pn} (h : t.Fit P) : P.pos := by
  have := WF_pos t h
  exact ⟨by omega, by omega⟩
theorem til_one {P : Pn} (h : P.pos) : Til P [P] := by
  refine ⟨?_, ?_, by simp, fun x y hx => ⟨P, by simp, hx⟩⟩
  · intro p hp
    simp at hp; subst hp
    exact ⟨h, by simp [Pn.sub]⟩
  · intro p hp q hq x y _ _
    simp at hp hq; rw [hp, hq]
/-- two tilings side by side -/
theorem til_app {P : Pn} {s : Bool} {c : Int} {ps qs : List Pn} (hc : P.lo s < c ∧ c < P.lo s + P.sz s) (h1 : Til (P.c1 s c) ps) (h2 : Til (P.c2 s c) qs) :
    Til P (ps ++ qs) ∧ isLine s (ps ++ qs) c ∧ fst s c (ps ++ qs) = ps ∧ snd s c (ps ++ qs) = qs := by
  have a1 : ∀ p ∈ ps, p.lo s + p.sz s ≤ c := fun p hp => by
    have := (h1.inn p hp).2
    cases s <;> simp only [Pn.sub, Pn.c1, Pn.lo, Pn.sz] at * <;> omega
  have a1' : ∀ p ∈ ps, p.lo s < c := fun p hp => by
    have := a1 p hp
    have := (h1.inn p hp).1
    cases s <;> simp only [Pn.pos, Pn.lo, Pn.sz] at * <;> omega
  have a2 : ∀ p ∈ qs, c ≤ p.lo s := fun p hp => by
    have := (h2.inn p hp).2
    cases s <;> simp only [Pn.sub, Pn.c2, Pn.lo, Pn.sz] at * <;> omega
  have ap : ∀ p ∈ ps, ∀ q ∈ qs, ∀ x y, p.has x y → ¬ q.has x y := fun p hp q hq x y hx hy => by
    have z1 := a1 p hp
    have z2 := a2 q hq
    cases s <;> simp only [Pn.has, Pn.lo, Pn.sz] at * <;> omega
  refine ⟨⟨fun p hp => ?_, fun p hp q hq x y hx hy => ?_, ?_, fun x y hx => ?_⟩, fun p hp => ?_, ?_, ?_⟩
  · rcases List.mem_append.mp hp with hp | hp
    · have := h1.inn p hp
      refine ⟨this.1, ?_⟩
      have := this.2
      cases s <;> simp only [Pn.sub, Pn.c1, Pn.lo, Pn.sz] at * <;> omega
    · have := h2.inn p hp
      refine ⟨this.1, ?_⟩
      have := this.2
      cases s <;> simp only [Pn.sub, Pn.c2, Pn.lo, Pn.sz] at * <;> omega
  · rcases List.mem_append.mp hp with hp | hp <;> rcases List.mem_append.mp hq with hq | hq
    · exact h1.dis p hp q hq x y hx hy
    · exact absurd hy (ap p hp q hq x y hx)
    · exact absurd hx (ap q hq p hp x y hy)
    · exact h2.dis p hp q hq x y hx hy
  · rw [List.nodup_append]
    refine ⟨h1.nd, h2.nd, fun p hp q hq e => ?_⟩
    subst e
    have := a1' p hp
    have := a2 p hq
    omega
  · by_cases z : (P.c1 s c).has x y
    · obtain ⟨p, hp, hh⟩ := h1.cov x y z
      exact ⟨p, List.mem_append.mpr (.inl hp), hh⟩
    · obtain ⟨p, hp, hh⟩ := h2.cov x y (by cases s <;> simp only [Pn.has, Pn.c1, Pn.c2, Pn.lo, Pn.sz] at * <;> omega)
      exact ⟨p, List.mem_append.mpr (.inr hp), hh⟩
  · rcases List.mem_append.mp hp with hp | hp
    · have := a1 p hp; omega
    · have := a2 p hp; omega
  · unfold PP.fst
    rw [List.filter_append, List.filter_eq_self.mpr (fun p hp => decide_eq_true (a1' p hp)), List.filter_eq_nil_iff.mpr (fun p hp => by have := a2 p hp; simp; omega), List.append_nil]
  · unfold PP.snd
    rw [List.filter_append, List.filter_eq_nil_iff.mpr (fun p hp => by have := a1' p hp; simp; omega), List.filter_eq_self.mpr (fun p hp => decide_eq_true (a2 p hp)), List.nil_append]
theorem til_tree : ∀ (t : Tr) (P : Pn), t.Fit P → Til P (t.pns P)
  | .pane, P, h => til_one h.pos
  | .cut s k a b, P, h => by
    obtain ⟨h1, h2, h3⟩ := fit_cut.mp h
    exact (til_app (by omega) (til_tree a _ h2) (til_tree b _ h3)).1
end PP
set_option Elab.async false
set_option linter.all false
set_option autoImplicit false
set_option maxRecDepth 100000
set_option maxHeartbeats 1000000
namespace PP
open PySem
variable {T : Nat → Option Fn} {n : Nat}
theorem D_map (ps : List Pn) : ps.map Pn.D = (ps.map Pn.L).map tD := by simp [Pn.D]
@[simp] theorem setT_D (i j k l : Nat) (p : Pn) (ρ : Sto) : setT (.tp [i, j, k, l]) p.D ρ = .ok ((((ρ.set i (some (.d (.int p.l)))).set j (some (.d (.int p.t)))).set k (some (.d (.int p.w)))).set l (some (.d (.int p.h)))) := id rfl
@[simp] theorem idx_D0 (p : Pn) : idxR (.d p.D) (.d (.int 0)) = .ok (.d (.int p.l)) := idx0 ..
@[simp] theorem idx_D1 (p : Pn) : idxR (.d p.D) (.d (.int 1)) = .ok (.d (.int p.t)) := idx1 ..
@[simp] theorem idx_D2 (p : Pn) : idxR (.d p.D) (.d (.int 2)) = .ok (.d (.int p.w)) := idx2 ..
@[simp] theorem idx_D3 (p : Pn) : idxR (.d p.D) (.d (.int 3)) = .ok (.d (.int p.h)) := idx3 ..
@[simp 2000] theorem tup_D (a b c d : Int) : tupG [.int a, .int b, .int c, .int d] = .ok (.d (Pn.mk a b c d).D) := id rfl
@[simp] theorem add_bl {xs ys : List D} (h : xs.length + ys.length ≤ lim) : binR .add (.d (.list xs)) (.l ys) = .ok (.l (xs ++ ys)) := by
  show fit _ _ = _
  rw [fit_ok h]
@[simp] theorem add_ll {xs ys : List D} (h : xs.length + ys.length ≤ lim) : binR .add (.l xs) (.l ys) = .ok (.l (xs ++ ys)) := by
  show fit _ _ = _
  rw [fit_ok h]
@[simp] theorem add_tt {xs ys : List D} (h : xs.length + ys.length ≤ lim) : binR .add (.d (.tuple xs)) (.d (.tuple ys)) = .ok (.d (.tuple (xs ++ ys))) := by
  show fit _ _ = _
  rw [fit_ok h]
@[simp] theorem slc_D1 (p : Pn) : slcR (.d p.D) (some 1) none = .ok (.d (.tuple [.int p.t, .int p.w, .int p.h])) := id rfl
@[simp] theorem itm_b' (xs : List D) : (R.d (.list xs)).itm = .ok xs := id rfl
end PP
set_option Elab.async false
set_option linter.all false
set_option autoImplicit false
set_option maxRecDepth 100000
set_option maxHeartbeats 1000000
namespace PP
open PySem
variable {T : Nat → Option Fn} {n : Nat}
theorem eqv_ints : ∀ xs ys : List Int, PyData.eqvAll (xs.map .int) (ys.map .int) = decide (xs = ys)
  | [], [] => by simp [PyData.eqvAll]
  | [], y :: ys => by simp [PyData.eqvAll]
  | x :: xs, [] => by simp [PyData.eqvAll]
  | x :: xs, y :: ys => by
    simp only [List.map_cons, PyData.eqvAll, eqv_ints xs ys, PyData.eqv]
    by_cases h : x = y <;> simp [h]
theorem eqv_tD (xs ys : List Int) : PyData.eqv (tD xs) (tD ys) = decide (xs = ys) := by
  show PyData.eqvAll (xs.map .int) (ys.map .int) = _
  exact eqv_ints xs ys
theorem eqv_DD (p q : Pn) : PyData.eqv p.D q.D = decide (p = q) := by
  rw [Pn.D, Pn.D, eqv_tD]
  by_cases h : p = q
  · simp [h]
  · have : ¬ p.L = q.L := fun z => h (Pn.L_inj z)
    simp [h, this]
theorem shallow_l {a b : D} (h : a.depth ≤ 60) : shallow a b = true := by
  unfold shallow; exact decide_eq_true (by omega)
theorem shallow_r {a b : D} (h : b.depth ≤ 60) : shallow a b = true := by
  unfold shallow; exact decide_eq_true (by omega)
theorem depth_D (p : Pn) : p.D.depth = 1 := depth_tD _
@[simp] theorem eq_DD (p q : Pn) : eqR (.d p.D) (.d q.D) = .ok (decide (p = q)) := by
  show (if (true && true && shallow p.D q.D) then Rs.ok (PyData.eqv p.D q.D) else .bad) = _
  rw [shallow_l (by rw [depth_D]; decide), eqv_DD]; rfl
def wo (P : Pn) (ps : List Pn) : List Pn := ps.filter fun p => !decide (p = P)
def srtP (ps : List Pn) : List Pn := ps.mergeSort fun p q => leI p.L q.L
theorem srtP_L (ps : List Pn) : (srtP ps).map Pn.L = srt (ps.map Pn.L) := by
  have z := PySem.W.sort_maps (r := fun p q : Pn => leI p.L q.L) (s := leI) Pn.L (l := ps) (fun _ _ _ _ => rfl)
  exact z
theorem srtP_D (ps : List Pn) : (srt (ps.map Pn.L)).map tD = (srtP ps).map Pn.D := by rw [← srtP_L, ← D_map]
theorem srtP_perm (ps : List Pn) : (srtP ps).Perm ps := List.mergeSort_perm ps _
theorem L_ne (p : Pn) : p.L ≠ [] := by simp [Pn.L]
theorem sortR_D {ps : List Pn} (hl : ps.length ≤ lim) : sortR (ps.map Pn.D) = .ok ((srtP ps).map Pn.D) := by
  rw [D_map, sortR_tD (by simp [L_ne]) (by simpa using hl), srtP_D]
def pcD (W H : Int) (ps : List Pn) : D := .tuple [wD W H, .tuple (ps.map Pn.D)]
structure Pict (W H : Int) (ps : List Pn) : Prop where
  w : 1 ≤ W ∧ W ≤ 6
  h : 1 ≤ H ∧ H ≤ 6
  til : Til ⟨0, 0, W, H⟩ ps
  lt : (ps.map Pn.L).Pairwise (· < ·)
  len : ps.length ≤ 7
theorem picD_pcD (w g : Int) (ps : List Pn) : picD w g (ps.map Pn.L) = pcD w g (srtP ps) := by
  unfold picD pcD; rw [srtP_D]
@[simp] theorem eqT (t : Tr) : eqR (.d t.enc) (.d (.tuple [.str t_pane])) = .ok t.isP := eq_pane t
@[simp] theorem wD_0 (w g : Int) : idxR (.d (wD w g)) (.d (.int 0)) = .ok (.d (.int w)) := idx0 ..
@[simp] theorem wD_1 (w g : Int) : idxR (.d (wD w g)) (.d (.int 1)) = .ok (.d (.int g)) := idx1 ..
@[simp 2000] theorem tup_w (w g : Int) : tupG [.int w, .int g] = .ok (.d (wD w g)) := id rfl
@[simp] theorem setT_w (i j : Nat) (w g : Int) (ρ : Sto) : setT (.tp [i, j]) (wD w g) ρ = .ok ((ρ.set i (some (.d (.int w)))).set j (some (.d (.int g)))) := id rfl
@[simp] theorem tru_L (xs : List D) : truR (.d (.list xs)) = .ok (!xs.isEmpty) := id rfl
@[simp] theorem tru_t (xs : List D) : truR (.d (.tuple xs)) = .ok (!xs.isEmpty) := id rfl
theorem sorted_Dl {ps : List Pn} (hl : ps.length ≤ lim) : bltR .sorted [.l (ps.map Pn.D)] = .ok (.l ((srtP ps).map Pn.D)) := by
  show (sortR (ps.map Pn.D) >>= fun ys => Rs.ok (R.l ys)) = _
  rw [sortR_D hl]; rfl
theorem idxL_nat {xs : List D} {k : Nat} {x : D} (h : xs[k]? = some x) : idxR (.d (.list xs)) (.d (.int k)) = .ok (.d x) := by
  have e : L2.atI xs (k : Int) = some x := L2.atI_nat h
  show (match L2.atI xs (k : Int) with | some x => Rs.ok (R.d x) | none => .bad) = _
  rw [e]
theorem idx_mem {α : Type} (f : α → D) (ps : List α) {j : Int} (h0 : 0 ≤ j) (h1 : j < ps.length) : ∃ p ∈ ps, idxR (.d (.list (ps.map f))) (.d (.int j)) = .ok (.d (f p)) ∧ idxR (.d (.tuple (ps.map f))) (.d (.int j)) = .ok (.d (f p)) := by
  obtain ⟨k, rfl⟩ : ∃ k : Nat, j = k := ⟨j.toNat, by omega⟩
  have hk : k < ps.length := by omega
  refine ⟨ps[k], List.getElem_mem hk, idxL_nat (by simp [hk]), idx_nat (by simp [hk])⟩
end PP
set_option Elab.async false
set_option linter.all false
set_option autoImplicit false
set_option maxRecDepth 100000
set_option maxHeartbeats 1000000
namespace PP
open PySem
end PP
set_option Elab.async false
set_option linter.all false
set_option autoImplicit false
set_option maxRecDepth 100000
set_option maxHeartbeats 1000000
namespace PP
open PySem
variable {T : Nat → Option Fn} {n : Nat}
abbrev Mp := List (List Int × D)
def PnB (p : Pn) : Prop := (-100 ≤ p.l ∧ p.l ≤ 100) ∧ (-100 ≤ p.t ∧ p.t ≤ 100) ∧ (0 ≤ p.w ∧ p.w ≤ 20) ∧ (0 ≤ p.h ∧ p.h ≤ 20)
end PP
set_option Elab.async false
set_option linter.all false
set_option autoImplicit false
set_option maxRecDepth 100000
set_option maxHeartbeats 1000000
namespace PP
open PySem
variable {T : Nat → Option Fn} {n : Nat}
theorem bools_map {α : Type} (q : α → Bool) : ∀ as : List α, bools? (as.map fun a => .bool (q a)) = some (as.map q)
  | [] => rfl
  | a :: as => by rw [List.map_cons, bools?, bools_map q as]; rfl
@[simp] theorem any_map {α : Type} (q : α → Bool) (as : List α) : bltR .any [.l (as.map fun a => .bool (q a))] = .ok (.d (.bool (as.any q))) := by
  show (match bools? (as.map fun a => .bool (q a)) with | some bs => Rs.ok (R.d (.bool (bs.any id))) | none => .bad) = _
  rw [bools_map]; simp [List.any_map]
@[simp] theorem all_map {α : Type} (q : α → Bool) (as : List α) : bltR .all [.l (as.map fun a => .bool (q a))] = .ok (.d (.bool (as.all q))) := by
  show (match bools? (as.map fun a => .bool (q a)) with | some bs => Rs.ok (R.d (.bool (bs.all id))) | none => .bad) = _
  rw [bools_map]; simp [List.all_map]
/-- a tuple or a list -/
def sq (c : Bool) (xs : List D) : D := match c with
  | true => .tuple xs
  | false => .list xs
@[simp] theorem itm_sq (c : Bool) (xs : List D) : (R.d (sq c xs)).itm = .ok xs := by cases c <;> rfl
@[simp] theorem len_sq (c : Bool) (xs : List D) : bltR .len [.d (sq c xs)] = .ok (.d (.int xs.length)) := by cases c <;> rfl
/-- lines -/
def lineB (s : Bool) (ps : List Pn) (c : Int) : Bool := !ps.any fun p => decide (p.lo s < c) && decide (c < p.lo s + p.sz s)
theorem lineB_iff {s : Bool} {ps : List Pn} {c : Int} : lineB s ps c = true ↔ isLine s ps c := by
  simp [lineB, isLine]
def linesL (s : Bool) (P : Pn) (ps : List Pn) : List Int := (irange (P.lo s + 1) (P.lo s + P.sz s)).filter (lineB s ps)
theorem mem_linesL {s : Bool} {P : Pn} {ps : List Pn} {c : Int} : c ∈ linesL s P ps ↔ (P.lo s < c ∧ c < P.lo s + P.sz s) ∧ isLine s ps c := by
  rw [linesL, List.mem_filter, mem_irange, lineB_iff]
  constructor
  · rintro ⟨h1, h2⟩; exact ⟨⟨by omega, by omega⟩, h2⟩
  · rintro ⟨h1, h2⟩; exact ⟨⟨by omega, by omega⟩, h2⟩
theorem linesL_len (s : Bool) (P : Pn) (ps : List Pn) : (linesL s P ps).length ≤ (P.sz s).toNat := by
  have := List.length_filter_le (lineB s ps) (irange (P.lo s + 1) (P.lo s + P.sz s))
  rw [len_irange] at this
  unfold linesL; omega
theorem c_lines_in (h : T 26 = some f26_lines_in) {P : Pn} (hP : PnB P) (c : Bool) {ps : List Pn} (hl : ps.length ≤ lim) :
    call T (n + 1) 26 [.d P.D, .d (sq c (ps.map Pn.D))] = .ok (.d (.tuple [.list ((linesL true P ps).map .int), .list ((linesL false P ps).map .int)])) := by
  obtain ⟨b1, b2, b3, b4⟩ := hP
  rw [call_go h rfl (st := [some (.d P.D), some (.d (sq c (ps.map Pn.D))), none, none, none, none, none, none, none, none, none]) rfl]
  simp [f26_lines_in]
  rw [lcf_nm PyData.int (lineB true ps) PyData.int (irange (P.l + 1) (P.l + P.w)) (by simp; exact rngG_ok (by omega) (by omega) (by omega) (by omega)) (by rw [len_irange, lim_eq]; omega) (by
    intro x hx
    simp
    rw [lc_nm Pn.D (fun p => .bool (decide (p.l < x) && decide (x < p.l + p.w))) ps (by simp) hl (by
      intro p hp
      by_cases h1 : p.l < x <;> simp [h1])]
    simp [lineB, Pn.lo, Pn.sz]; rfl)]
  simp
  rw [lcf_nm PyData.int (lineB false ps) PyData.int (irange (P.t + 1) (P.t + P.h)) (by simp; exact rngG_ok (by omega) (by omega) (by omega) (by omega)) (by rw [len_irange, lim_eq]; omega) (by
    intro x hx
    simp
    rw [lc_nm Pn.D (fun p => .bool (decide (p.t < x) && decide (x < p.t + p.h))) ps (by simp) hl (by
      intro p hp
      by_cases h1 : p.t < x <;> simp [h1])]
    simp [lineB, Pn.lo, Pn.sz]; rfl)]
  simp [linesL, Pn.lo, Pn.sz]
@[simp 2000] theorem add_zw (w g : Int) : binR .add (.d (wD 0 0)) (.d (wD w g)) = .ok (.d (Pn.mk 0 0 w g).D) := id rfl
theorem Til.at {P : Pn} {ps : List Pn} (h : Til P ps) {x y : Int} (hx : P.has x y) : ∃ (i : Nat) (p : Pn), ps[i]? = some p ∧ p.has x y := by
  obtain ⟨p, hp, hh⟩ := h.cov x y hx
  obtain ⟨i, hi⟩ := List.getElem?_of_mem hp
  exact ⟨i, p, hi, hh⟩
end PP
set_option Elab.async false
set_option linter.all false
set_option autoImplicit false
set_option maxRecDepth 100000
set_option maxHeartbeats 1000000
namespace PP
open PySem
variable {T : Nat → Option Fn} {n : Nat}
theorem eqv_nil (xs : List D) : PyData.eqv (.list xs) (.list []) = xs.isEmpty := by
  show PyData.eqvAll xs [] = _
  cases xs <;> simp [PyData.eqvAll]
@[simp] theorem eq_nil_ll (xs : List D) : eqR (.l xs) (.l []) = .ok xs.isEmpty := by
  show (if (true && true && shallow (.list xs) (.list [])) then Rs.ok (PyData.eqv (.list xs) (.list [])) else .bad) = _
  rw [shallow_r (by simp [PyData.depth, PyData.depthAll]), eqv_nil]; rfl
@[simp] theorem eq_nil_Ll (xs : List D) : eqR (.d (.list xs)) (.l []) = .ok xs.isEmpty := by
  show (if (true && true && shallow (.list xs) (.list [])) then Rs.ok (PyData.eqv (.list xs) (.list [])) else .bad) = _
  rw [shallow_r (by simp [PyData.depth, PyData.depthAll]), eqv_nil]; rfl
@[simp] theorem slotM_m (kvs : Mp) (ρ : Sto) : slotM (some (.m kvs) :: ρ) 0 = some kvs := id rfl
end PP
set_option Elab.async false
set_option linter.all false
set_option autoImplicit false
set_option maxRecDepth 100000
set_option maxHeartbeats 1000000
namespace PP
open PySem
variable {T : Nat → Option Fn} {n : Nat}
theorem Pict.b {W H : Int} {ps : List Pn} (h : Pict W H ps) : ∀ p ∈ ps, PnB p := by
  intro p hp
  have a := (h.til.inn p hp).2
  have b := (h.til.inn p hp).1
  have := h.w
  have := h.h
  simp only [Pn.sub, Pn.pos, PnB] at *
  omega
@[simp] theorem pcD_0 (W H : Int) (ps : List Pn) : idxR (.d (pcD W H ps)) (.d (.int 0)) = .ok (.d (wD W H)) := idx0 ..
@[simp] theorem pcD_1 (W H : Int) (ps : List Pn) : idxR (.d (pcD W H ps)) (.d (.int 1)) = .ok (.d (.tuple (ps.map Pn.D))) := idx1 ..
theorem depth_ints (ns : List Int) : PyData.depthAll (ns.map .int) = 0 := by
  induction ns with
  | nil => simp [PyData.depthAll]
  | cons a as ih => simp [PyData.depthAll, PyData.depth, ih]
end PP
set_option Elab.async false
set_option linter.all false
set_option autoImplicit false
set_option maxRecDepth 100000
set_option maxHeartbeats 1000000
namespace PP
open PySem
theorem Til.pos {P : Pn} {ps : List Pn} (h : Til P ps) (hp : ps ≠ []) : P.pos := by
  obtain ⟨p, hp⟩ := List.exists_mem_of_ne_nil ps hp
  have a := (h.inn p hp).1
  have b := (h.inn p hp).2
  simp only [Pn.pos, Pn.sub] at *; omega
theorem Til.ne {P : Pn} {ps : List Pn} (h : Til P ps) (hp : P.pos) : ps ≠ [] := by
  obtain ⟨p, hp, _⟩ := h.cov P.l P.t (by simp only [Pn.has, Pn.pos] at *; omega)
  exact List.ne_nil_of_mem hp
theorem Til.one {P p : Pn} (h : Til P [p]) : p = P := by
  have hp := h.pos (by simp)
  have b := (h.inn p (by simp)).2
  obtain ⟨q, hq, c1⟩ := h.cov P.l P.t (by simp only [Pn.has, Pn.pos] at *; omega)
  obtain ⟨r, hr, c2⟩ := h.cov (P.l + P.w - 1) (P.t + P.h - 1) (by simp only [Pn.has, Pn.pos] at *; omega)
  simp at hq hr
  subst hq; subst hr
  cases r; cases P
  simp only [Pn.has, Pn.sub, Pn.mk.injEq] at *
  omega
theorem c1_pos {P : Pn} {s : Bool} {c : Int} (h : P.pos) (hc : P.lo s < c ∧ c < P.lo s + P.sz s) : (P.c1 s c).pos := by
  cases s <;> simp only [Pn.pos, Pn.c1, Pn.lo, Pn.sz] at * <;> omega
theorem c2_pos {P : Pn} {s : Bool} {c : Int} (h : P.pos) (hc : P.lo s < c ∧ c < P.lo s + P.sz s) : (P.c2 s c).pos := by
  cases s <;> simp only [Pn.pos, Pn.c2, Pn.lo, Pn.sz] at * <;> omega
theorem split_len (s : Bool) (c : Int) : ∀ ps : List Pn, (fst s c ps).length + (snd s c ps).length = ps.length
  | [] => rfl
  | p :: ps => by
    have := split_len s c ps
    unfold fst snd at *
    by_cases h : p.lo s < c
    · rw [List.filter_cons_of_pos (by simpa using h), List.filter_cons_of_neg (by simp; omega)]
      simp only [List.length_cons]; omega
    · rw [List.filter_cons_of_neg (by simpa using h), List.filter_cons_of_pos (by simp; omega)]
      simp only [List.length_cons]; omega
theorem split_perm (s : Bool) (c : Int) (ps : List Pn) : (fst s c ps ++ snd s c ps).Perm ps := by
  have e : snd s c ps = ps.filter fun p => !decide (p.lo s < c) := by
    unfold snd
    refine List.filter_congr fun p _ => ?_
    by_cases h : p.lo s < c
    · simp [h]
    · simp [h]; omega
  rw [e]
  exact List.filter_append_perm _ _
theorem Til.lens {P : Pn} {ps : List Pn} (h : Til P ps) (hP : P.pos) {s : Bool} {c : Int} (hc : c ∈ linesL s P ps) : 1 ≤ (PP.fst s c ps).length ∧ 1 ≤ (PP.snd s c ps).length ∧ (PP.fst s c ps).length + (PP.snd s c ps).length = ps.length := by
  rw [mem_linesL] at hc
  have a := (h.fst hc.1 hc.2).ne (c1_pos hP hc.1)
  have b := (h.snd hc.1 hc.2).ne (c2_pos hP hc.1)
  exact ⟨List.length_pos_iff.mpr a, List.length_pos_iff.mpr b, split_len s c ps⟩
def cutsL (P : Pn) (ps : List Pn) : List (Bool × Int) := (linesL true P ps).map (fun c => (true, c)) ++ (linesL false P ps).map (fun c => (false, c))
theorem mem_cutsL {P : Pn} {ps : List Pn} {a : Bool × Int} : a ∈ cutsL P ps ↔ a.2 ∈ linesL a.1 P ps := by
  obtain ⟨s, c⟩ := a
  simp only [cutsL, List.mem_append, List.mem_map, Prod.mk.injEq]
  cases s <;> simp
def treesF : Nat → Pn → List Pn → List Tr
  | 0, _, _ => []
  | k + 1, P, ps => if ps.length = 1 then [.pane] else (cutsL P ps).flatMap fun a => (treesF k (P.c1 a.1 a.2) (fst a.1 a.2 ps)).flatMap fun x => (treesF k (P.c2 a.1 a.2) (snd a.1 a.2 ps)).map fun y => .cut a.1 (a.2 - P.lo a.1) x y
theorem flatMap_le {α β : Type} {f : α → List β} {k : Nat} : ∀ (as : List α), (∀ a ∈ as, (f a).length ≤ k) → (as.flatMap f).length ≤ as.length * k
  | [], _ => by simp
  | a :: as, h => by
    have := flatMap_le as fun b hb => h b (List.mem_cons_of_mem _ hb)
    have := h a (List.mem_cons_self ..)
    rw [List.flatMap_cons, List.length_append, List.length_cons, Nat.succ_mul]; omega
theorem tree_line {s : Bool} {k : Int} {a b : Tr} {P : Pn} (h : (Tr.cut s k a b).Fit P) : (P.lo s + k) ∈ linesL s P ((Tr.cut s k a b).pns P) ∧ fst s (P.lo s + k) ((Tr.cut s k a b).pns P) = a.pns (P.c1 s (P.lo s + k)) ∧ snd s (P.lo s + k) ((Tr.cut s k a b).pns P) = b.pns (P.c2 s (P.lo s + k)) := by
  obtain ⟨h1, h2, h3⟩ := fit_cut.mp h
  have := til_app (P := P) (s := s) (c := P.lo s + k) (by omega) (til_tree a _ h2) (til_tree b _ h3)
  exact ⟨mem_linesL.mpr ⟨by omega, this.2.1⟩, this.2.2.1, this.2.2.2⟩
theorem isLine_perm {s : Bool} {ps qs : List Pn} (e : ps.Perm qs) {c : Int} : isLine s ps c ↔ isLine s qs c :=
  ⟨fun h p hp => h p (e.mem_iff.mpr hp), fun h p hp => h p (e.mem_iff.mp hp)⟩
theorem lines_perm {s : Bool} {P : Pn} {ps qs : List Pn} (e : ps.Perm qs) {c : Int} : c ∈ linesL s P ps ↔ c ∈ linesL s P qs := by
  rw [mem_linesL, mem_linesL, isLine_perm e]
theorem count1 {t : Tr} (h : t.count = 1) : t = .pane := by
  cases t with
  | pane => rfl
  | cut s k a b =>
    have := count_pos a
    have := count_pos b
    simp only [Tr.count] at h; omega
theorem mem_treesF : ∀ (k : Nat) (P : Pn) (ps : List Pn), Til P ps → P.pos → ps.length ≤ k → ∀ t : Tr, t ∈ treesF k P ps ↔ t.Fit P ∧ (t.pns P).Perm ps
  | 0, P, ps, h, hP, hl, t => by
    have := List.length_pos_iff.mpr (h.ne hP)
    omega
  | k + 1, P, ps, h, hP, hl, t => by
    unfold treesF
    by_cases h1 : ps.length = 1
    · rw [if_pos h1]
      obtain ⟨p, rfl⟩ := List.length_eq_one_iff.mp h1
      have e := h.one
      subst e
      simp only [List.mem_singleton]
      constructor
      · rintro rfl
        exact ⟨⟨by simp only [Pn.pos] at hP; omega, by simp only [Pn.pos] at hP; omega⟩, .refl _⟩
      · rintro ⟨_, e⟩
        have := e.length_eq
        rw [pns_len] at this
        exact count1 this
    · rw [if_neg h1]
      simp only [List.mem_flatMap, List.mem_map]
      constructor
      · rintro ⟨⟨s, c⟩, ha, x, hx, y, hy, rfl⟩
        have ha : c ∈ linesL s P ps := mem_cutsL.mp ha
        obtain ⟨q1, q2, q3⟩ := h.lens hP ha
        have hm := mem_linesL.mp ha
        have t1 := (mem_treesF k _ _ (h.fst hm.1 hm.2) (c1_pos hP hm.1) (by omega) x).mp hx
        have t2 := (mem_treesF k _ _ (h.snd hm.1 hm.2) (c2_pos hP hm.1) (by omega) y).mp hy
        have e : P.lo s + (c - P.lo s) = c := by omega
        show (Tr.cut s (c - P.lo s) x y).Fit P ∧ ((Tr.cut s (c - P.lo s) x y).pns P).Perm ps
        refine ⟨fit_cut.mpr ⟨by have := hm.1; omega, by rw [e]; exact t1.1, by rw [e]; exact t2.1⟩, ?_⟩
        simp only [Tr.pns, e]
        exact (t1.2.append t2.2).trans (split_perm s c ps)
      · rintro ⟨hf, e⟩
        cases t with
        | pane =>
          have := e.length_eq
          rw [pns_len] at this
          simp only [Tr.count] at this; omega
        | cut s j a b =>
          obtain ⟨l1, l2, l3⟩ := tree_line hf
          have hc := (lines_perm e).mp l1
          obtain ⟨q1, q2, q3⟩ := h.lens hP hc
          have hm := mem_linesL.mp hc
          obtain ⟨f1, f2, f3⟩ := fit_cut.mp hf
          have e1 : (a.pns (P.c1 s (P.lo s + j))).Perm (fst s (P.lo s + j) ps) := by
            rw [← l2]; exact e.filter _
          have e2 : (b.pns (P.c2 s (P.lo s + j))).Perm (snd s (P.lo s + j) ps) := by
            rw [← l3]; exact e.filter _
          refine ⟨(s, P.lo s + j), mem_cutsL.mpr hc, a, ?_, b, ?_, by simp; omega⟩
          · exact (mem_treesF k _ _ (h.fst hm.1 hm.2) (c1_pos hP hm.1) (by omega) a).mpr ⟨f2, e1⟩
          · exact (mem_treesF k _ _ (h.snd hm.1 hm.2) (c2_pos hP hm.1) (by omega) b).mpr ⟨f3, e2⟩
end PP
set_option Elab.async false
set_option linter.all false
set_option autoImplicit false
set_option maxRecDepth 100000
set_option maxHeartbeats 1000000
namespace PP
open PySem
def apart (p q : Pn) : Prop := ∀ x y, p.has x y → ¬ q.has x y
theorem apart_sub {p q r : Pn} (h : apart p q) (hr : r.sub q) : apart p r := fun x y hx hy => h x y hx (by simp only [Pn.has, Pn.sub] at *; omega)
theorem sub_apart {p q : Pn} (hp : p.pos) (h : p.sub q) : ¬ apart p q := fun h' => by
  refine h' p.l p.t ?_ ?_ <;> simp only [Pn.has, Pn.sub, Pn.pos] at * <;> omega
def ins (Q : Pn) (ps : List Pn) : List Pn := ps.filter fun p => decide (p.sub Q)
theorem mem_ins {Q : Pn} {ps : List Pn} {p : Pn} : p ∈ ins Q ps ↔ p ∈ ps ∧ p.sub Q := by simp [ins]
theorem sub_tree : ∀ (t : Tr) (P Q : Pn), t.Fit P → Q.pos → Q.sub P → (∀ p ∈ t.pns P, p.sub Q ∨ apart p Q) → ∃ t' : Tr, t'.Fit Q ∧ (t'.pns Q).Perm (ins Q (t.pns P))
  | .pane, P, Q, hf, hQ, hs, h => by
    have hP := hf.pos
    have e : P = Q := by
      rcases h P (by simp [Tr.pns]) with z | z
      · cases P; cases Q
        simp only [Pn.sub, Pn.mk.injEq] at *; omega
      · exfalso
        refine z Q.l Q.t ?_ ?_ <;> simp only [Pn.has, Pn.sub, Pn.pos] at * <;> omega
    subst e
    exact ⟨.pane, hf, by simp [Tr.pns, ins, Pn.sub]⟩
  | .cut s k a b, P, Q, hf, hQ, hs, h => by
    obtain ⟨f1, f2, f3⟩ := fit_cut.mp hf
    generalize hc : P.lo s + k = c at *
    have ta := til_tree a _ f2
    have tb := til_tree b _ f3
    have hpn : (Tr.cut s k a b).pns P = a.pns (P.c1 s c) ++ b.pns (P.c2 s c) := by rw [Tr.pns, hc]
    rw [hpn] at h ⊢
    have ha : ∀ p ∈ a.pns (P.c1 s c), p.sub Q ∨ apart p Q := fun p hp => h p (List.mem_append.mpr (.inl hp))
    have hb : ∀ p ∈ b.pns (P.c2 s c), p.sub Q ∨ apart p Q := fun p hp => h p (List.mem_append.mpr (.inr hp))
    have ie : ins Q (a.pns (P.c1 s c) ++ b.pns (P.c2 s c)) = ins Q (a.pns (P.c1 s c)) ++ ins Q (b.pns (P.c2 s c)) := by simp [ins]
    rw [ie]
    by_cases h1 : Q.lo s + Q.sz s ≤ c
    · -- all of it in the first part
      obtain ⟨t', q1, q2⟩ := sub_tree a (P.c1 s c) Q f2 hQ (by cases s <;> simp only [Pn.sub, Pn.c1, Pn.lo, Pn.sz] at * <;> omega) ha
      have e : ins Q (b.pns (P.c2 s c)) = [] := by
        refine List.filter_eq_nil_iff.mpr fun p hp z => ?_
        have z : p.sub Q := of_decide_eq_true z
        have y := tb.inn p hp
        cases s <;> simp only [Pn.sub, Pn.c2, Pn.lo, Pn.sz, Pn.pos] at * <;> omega
      exact ⟨t', q1, by rw [e, List.append_nil]; exact q2⟩
    · by_cases h2 : c ≤ Q.lo s
      · obtain ⟨t', q1, q2⟩ := sub_tree b (P.c2 s c) Q f3 hQ (by cases s <;> simp only [Pn.sub, Pn.c2, Pn.lo, Pn.sz] at * <;> omega) hb
        have e : ins Q (a.pns (P.c1 s c)) = [] := by
          refine List.filter_eq_nil_iff.mpr fun p hp z => ?_
          have z : p.sub Q := of_decide_eq_true z
          have y := ta.inn p hp
          cases s <;> simp only [Pn.sub, Pn.c1, Pn.lo, Pn.sz, Pn.pos] at * <;> omega
        exact ⟨t', q1, by rw [e, List.nil_append]; exact q2⟩
      · have hcQ : Q.lo s < c ∧ c < Q.lo s + Q.sz s := by omega
        have sb1 : (Q.c1 s c).sub Q := by cases s <;> simp only [Pn.sub, Pn.c1, Pn.lo, Pn.sz] at * <;> omega
        have sb2 : (Q.c2 s c).sub Q := by cases s <;> simp only [Pn.sub, Pn.c2, Pn.lo, Pn.sz] at * <;> omega
        have i1 : ∀ p ∈ a.pns (P.c1 s c), p.sub Q ↔ p.sub (Q.c1 s c) := fun p hp => by
          have y := (ta.inn p hp).2
          cases s <;> simp only [Pn.sub, Pn.c1, Pn.lo, Pn.sz] at * <;> omega
        have i2 : ∀ p ∈ b.pns (P.c2 s c), p.sub Q ↔ p.sub (Q.c2 s c) := fun p hp => by
          have y := (tb.inn p hp).2
          cases s <;> simp only [Pn.sub, Pn.c2, Pn.lo, Pn.sz] at * <;> omega
        obtain ⟨t1, q1, q2⟩ := sub_tree a (P.c1 s c) (Q.c1 s c) f2 (c1_pos hQ hcQ) (by cases s <;> simp only [Pn.sub, Pn.c1, Pn.lo, Pn.sz] at * <;> omega) (fun p hp => by
          rcases ha p hp with z | z
          · exact .inl ((i1 p hp).mp z)
          · exact .inr (apart_sub z sb1))
        obtain ⟨t2, q3, q4⟩ := sub_tree b (P.c2 s c) (Q.c2 s c) f3 (c2_pos hQ hcQ) (by cases s <;> simp only [Pn.sub, Pn.c2, Pn.lo, Pn.sz] at * <;> omega) (fun p hp => by
          rcases hb p hp with z | z
          · exact .inl ((i2 p hp).mp z)
          · exact .inr (apart_sub z sb2))
        have ec : Q.lo s + (c - Q.lo s) = c := by omega
        refine ⟨.cut s (c - Q.lo s) t1 t2, fit_cut.mpr ⟨by omega, by rw [ec]; exact q1, by rw [ec]; exact q3⟩, ?_⟩
        simp only [Tr.pns, ec]
        have e1 : ins Q (a.pns (P.c1 s c)) = ins (Q.c1 s c) (a.pns (P.c1 s c)) := List.filter_congr fun p hp => by
          rw [decide_eq_decide]; exact i1 p hp
        have e2 : ins Q (b.pns (P.c2 s c)) = ins (Q.c2 s c) (b.pns (P.c2 s c)) := List.filter_congr fun p hp => by
          rw [decide_eq_decide]; exact i2 p hp
        rw [e1, e2]
        exact q2.append q4
/-- a tiling within another -/
theorem til_in {P Q : Pn} {ps qs : List Pn} (h : Til P ps) (h' : Til Q qs) (hsub : ∀ p ∈ qs, p ∈ ps) : ∀ p ∈ ps, (p ∈ qs ∧ p.sub Q) ∨ apart p Q := by
  intro p hp
  by_cases hq : p ∈ qs
  · exact .inl ⟨hq, (h'.inn p hq).2⟩
  · refine .inr fun x y hx hy => hq ?_
    obtain ⟨q, hq', hh⟩ := h'.cov x y hy
    rw [h.dis p hp q (hsub q hq') x y hx hh]; exact hq'
theorem ins_perm {P Q : Pn} {ps qs : List Pn} (h : Til P ps) (h' : Til Q qs) (hsub : ∀ p ∈ qs, p ∈ ps) : (ins Q ps).Perm qs := by
  refine (List.perm_ext_iff_of_nodup (h.nd.filter _) h'.nd).mpr fun p => ?_
  constructor
  · intro hp
    have hp := mem_ins.mp hp
    rcases til_in h h' hsub p hp.1 with z | z
    · exact z.1
    · exact absurd z (sub_apart (h.inn p hp.1).1 hp.2)
  · intro hp
    exact mem_ins.mpr ⟨hsub p hp, (h'.inn p hp).2⟩
/-- trees of parts -/
theorem tree_part {t : Tr} {P Q : Pn} {ps qs : List Pn} (hf : t.Fit P) (e : (t.pns P).Perm ps) (h : Til P ps) (h' : Til Q qs) (hQ : Q.pos) (hs : Q.sub P) (hsub : ∀ p ∈ qs, p ∈ ps) : ∃ t' : Tr, t'.Fit Q ∧ (t'.pns Q).Perm qs := by
  obtain ⟨t', q1, q2⟩ := sub_tree t P Q hf hQ hs (fun p hp => by
    rcases til_in h h' hsub p (e.mem_iff.mp hp) with z | z
    · exact .inl z.2
    · exact .inr z)
  exact ⟨t', q1, q2.trans ((e.filter _).trans (ins_perm h h' hsub))⟩
def knotF : Nat → Pn → List Pn → Option Pn
  | 0, _, _ => none
  | k + 1, P, ps => if ps.length = 1 then none else match cutsL P ps with
    | [] => some P
    | a :: _ => match knotF k (P.c1 a.1 a.2) (fst a.1 a.2 ps) with
      | some q => some q
      | none => knotF k (P.c2 a.1 a.2) (snd a.1 a.2 ps)
/-- what a knot is -/
structure IsK (P : Pn) (ps : List Pn) (Q : Pn) (qs : List Pn) : Prop where
  sub : Q.sub P
  til : Til Q qs
  has : ∀ p ∈ qs, p ∈ ps
  two : 2 ≤ qs.length
  none : ∀ s, linesL s Q qs = []
theorem c1_sub {P : Pn} {s : Bool} {c : Int} (hc : P.lo s < c ∧ c < P.lo s + P.sz s) : (P.c1 s c).sub P := by
  cases s <;> simp only [Pn.sub, Pn.c1, Pn.lo, Pn.sz] at * <;> omega
theorem c2_sub {P : Pn} {s : Bool} {c : Int} (hc : P.lo s < c ∧ c < P.lo s + P.sz s) : (P.c2 s c).sub P := by
  cases s <;> simp only [Pn.sub, Pn.c2, Pn.lo, Pn.sz] at * <;> omega
theorem sub_trans {p q r : Pn} (h : p.sub q) (h' : q.sub r) : p.sub r := by simp only [Pn.sub] at *; omega
theorem knotF_some : ∀ (k : Nat) (P : Pn) (ps : List Pn) (Q : Pn), Til P ps → P.pos → ps.length ≤ k → knotF k P ps = some Q → ∃ qs, IsK P ps Q qs
  | 0, P, ps, Q, h, hP, hl, e => by cases e
  | k + 1, P, ps, Q, h, hP, hl, e => by
    unfold knotF at e
    have hn := List.length_pos_iff.mpr (h.ne hP)
    by_cases h1 : ps.length = 1
    · rw [if_pos h1] at e; cases e
    · rw [if_neg h1] at e
      cases hc : cutsL P ps with
      | nil =>
        rw [hc] at e
        cases e
        have hs : ∀ s, linesL s P ps = [] := by
          intro s
          refine List.eq_nil_iff_forall_not_mem.mpr fun c hm => ?_
          have : (s, c) ∈ cutsL P ps := mem_cutsL.mpr hm
          rw [hc] at this; cases this
        exact ⟨ps, by simp [Pn.sub], h, fun p hp => hp, by omega, hs⟩
      | cons a as =>
        obtain ⟨s, c⟩ := a
        have ha : c ∈ linesL s P ps := (mem_cutsL (a := (s, c))).mp (by rw [hc]; exact List.mem_cons_self ..)
        rw [hc] at e
        obtain ⟨q1, q2, q3⟩ := h.lens hP ha
        have hm := mem_linesL.mp ha
        simp only at e
        cases hk : knotF k (P.c1 s c) (fst s c ps) with
        | some q =>
          rw [hk] at e
          cases e
          obtain ⟨qs, z⟩ := knotF_some k _ _ Q (h.fst hm.1 hm.2) (c1_pos hP hm.1) (by omega) hk
          exact ⟨qs, sub_trans z.sub (c1_sub hm.1), z.til, fun p hp => (mem_fst.mp (z.has p hp)).1, z.two, z.none⟩
        | none =>
          rw [hk] at e
          obtain ⟨qs, z⟩ := knotF_some k _ _ Q (h.snd hm.1 hm.2) (c2_pos hP hm.1) (by omega) e
          exact ⟨qs, sub_trans z.sub (c2_sub hm.1), z.til, fun p hp => (mem_snd.mp (z.has p hp)).1, z.two, z.none⟩
theorem knotF_none : ∀ (k : Nat) (P : Pn) (ps : List Pn), Til P ps → P.pos → ps.length ≤ k → knotF k P ps = none → ∃ t : Tr, t.Fit P ∧ (t.pns P).Perm ps
  | 0, P, ps, h, hP, hl, e => by
    have := List.length_pos_iff.mpr (h.ne hP)
    omega
  | k + 1, P, ps, h, hP, hl, e => by
    unfold knotF at e
    by_cases h1 : ps.length = 1
    · obtain ⟨p, rfl⟩ := List.length_eq_one_iff.mp h1
      have e := h.one
      subst e
      exact ⟨.pane, ⟨by simp only [Pn.pos] at hP; omega, by simp only [Pn.pos] at hP; omega⟩, .refl _⟩
    · rw [if_neg h1] at e
      cases hc : cutsL P ps with
      | nil => rw [hc] at e; cases e
      | cons a as =>
        obtain ⟨s, c⟩ := a
        have ha : c ∈ linesL s P ps := (mem_cutsL (a := (s, c))).mp (by rw [hc]; exact List.mem_cons_self ..)
        rw [hc] at e
        obtain ⟨q1, q2, q3⟩ := h.lens hP ha
        have hm := mem_linesL.mp ha
        simp only at e
        cases hk : knotF k (P.c1 s c) (fst s c ps) with
        | some q => rw [hk] at e; cases e
        | none =>
          rw [hk] at e
          obtain ⟨x, x1, x2⟩ := knotF_none k _ _ (h.fst hm.1 hm.2) (c1_pos hP hm.1) (by omega) hk
          obtain ⟨y, y1, y2⟩ := knotF_none k _ _ (h.snd hm.1 hm.2) (c2_pos hP hm.1) (by omega) e
          have ec : P.lo s + (c - P.lo s) = c := by omega
          refine ⟨.cut s (c - P.lo s) x y, fit_cut.mpr ⟨by omega, by rw [ec]; exact x1, by rw [ec]; exact y1⟩, ?_⟩
          simp only [Tr.pns, ec]
          exact (x2.append y2).trans (split_perm s c ps)
theorem knot_no_tree {P Q : Pn} {ps qs : List Pn} (h : Til P ps) (z : IsK P ps Q qs) {t : Tr} (hf : t.Fit P) (e : (t.pns P).Perm ps) : False := by
  have hQ : Q.pos := z.til.pos (by intro e; have := z.two; rw [e] at this; simp at this)
  obtain ⟨t', f', e'⟩ := tree_part hf e h z.til hQ z.sub z.has
  cases t' with
  | pane =>
    have := e'.length_eq
    rw [pns_len] at this
    have := z.two
    simp only [Tr.count] at *; omega
  | cut s k a b =>
    have l := (tree_line f').1
    rw [lines_perm e', z.none s] at l
    cases l
theorem knot_iff {P : Pn} {ps : List Pn} (h : Til P ps) (hP : P.pos) {k : Nat} (hk : ps.length ≤ k) : treesF k P ps = [] ↔ knotF k P ps ≠ none := by
  constructor
  · intro e hn
    obtain ⟨t, h1, h2⟩ := knotF_none k P ps h hP hk hn
    have := (mem_treesF k P ps h hP hk t).mpr ⟨h1, h2⟩
    rw [e] at this; cases this
  · intro hn
    cases hq : knotF k P ps with
    | none => exact absurd hq hn
    | some Q =>
      obtain ⟨qs, z⟩ := knotF_some k P ps Q h hP hk hq
      refine List.eq_nil_iff_forall_not_mem.mpr fun t ht => ?_
      obtain ⟨f, e⟩ := (mem_treesF k P ps h hP hk t).mp ht
      exact knot_no_tree h z f e
end PP
set_option Elab.async false
set_option linter.all false
set_option autoImplicit false
set_option maxRecDepth 100000
set_option maxHeartbeats 1000000
namespace PP
open PySem
end PP
set_option Elab.async false
set_option linter.all false
set_option autoImplicit false
set_option maxRecDepth 100000
set_option maxHeartbeats 1000000
namespace PP
open PySem
variable {T : Nat → Option Fn} {n : Nat}
structure TC0 (T : Nat → Option Fn) : Prop where
  lines_in : T 26 = some f26_lines_in
  halves : T 30 = some f30_halves
  cuts_in : T 32 = some f32_cuts_in
@[simp] theorem tru_l (xs : List D) : truR (.l xs) = .ok (!xs.isEmpty) := id rfl
@[simp] theorem tru_bb (xs : List D) : truR (.b xs) = .ok (!xs.isEmpty) := id rfl
@[simp 2000] theorem kd_eq_stack (s : Bool) : eqR (.d (.str (kd s))) (.d (.str t_stack)) = .ok (!s) := kd_stack s
@[simp 2000] theorem kd_eq_side (s : Bool) : eqR (.d (.str (kd s))) (.d (.str t_side)) = .ok s := kd_side s
@[simp] theorem idx_lo (p : Pn) (s : Bool) : idxR (.d p.D) (.d (.int (if (!s) = true then 1 else 0))) = .ok (.d (.int (p.lo s))) := by
  cases s
  · exact idx_D1 p
  · exact idx_D0 p
@[simp] theorem idx_lo' (p : Pn) (s : Bool) : idxR (.d p.D) (.d (.int (if s = false then 1 else 0))) = .ok (.d (.int (p.lo s))) := by
  cases s
  · exact idx_D1 p
  · exact idx_D0 p
def hvD (P : Pn) (s : Bool) (c : Int) (ps : List Pn) : D := .tuple [.tuple [(P.c1 s c).D, .list ((fst s c ps).map Pn.D)], .tuple [(P.c2 s c).D, .list ((snd s c ps).map Pn.D)]]
theorem c_halves0 (h : TC0 T) (P : Pn) (b : Bool) {ps : List Pn} (hl : ps.length ≤ lim) (s : Bool) (c : Int) :
    call T (n + 1) 30 [.d P.D, .d (sq b (ps.map Pn.D)), .d (.str (kd s)), .d (.int c)] = .ok (.d (hvD P s c ps)) := by
  rw [call_go h.halves rfl (st := [some (.d P.D), some (.d (sq b (ps.map Pn.D))), some (.d (.str (kd s))), some (.d (.int c)), none, none, none, none, none, none, none, none]) rfl]
  simp [f30_halves]
  rw [lcf_nm Pn.D (fun p => decide (p.lo s < c)) Pn.D ps (by simp) hl (by intro p _; simp)]
  simp
  rw [lcf_nm Pn.D (fun p => decide (c ≤ p.lo s)) Pn.D ps (by simp) hl (by intro p _; simp)]
  cases s <;> simp [hvD, fst, snd, Pn.c1, Pn.c2]
def ctD (a : Bool × Int) : D := .tuple [.str (kd a.1), .int a.2]
theorem c_cuts_in0 (h : TC0 T) {P : Pn} (hP : PnB P) (b : Bool) {ps : List Pn} (hl : ps.length ≤ lim) :
    call T (n + 2) 32 [.d P.D, .d (sq b (ps.map Pn.D))] = .ok (.l ((cutsL P ps).map ctD)) := by
  have e := c_lines_in (n := n) h.lines_in hP b hl
  have l1 := linesL_len true P ps
  have l2 := linesL_len false P ps
  obtain ⟨b1, b2, b3, b4⟩ := hP
  simp only [Pn.sz] at l1 l2
  rw [call_go h.cuts_in rfl (st := [some (.d P.D), some (.d (sq b (ps.map Pn.D))), none, none, none]) rfl]
  simp [f32_cuts_in, e]
  rw [lc_nm PyData.int (fun c => ctD (true, c)) (linesL true P ps) (by simp) (by rw [lim_eq]; omega) (by intro p _; simp [ctD, kd])]
  rw [lc_nm PyData.int (fun c => ctD (false, c)) (linesL false P ps) (by simp) (by rw [lim_eq]; omega) (by intro p _; simp [ctD, kd])]
  simp
  rw [add_ll (by simp [lim_eq]; omega)]
  simp [cutsL]; rfl
theorem PnB.c1 {P : Pn} (h : PnB P) {s : Bool} {c : Int} (hc : P.lo s < c ∧ c < P.lo s + P.sz s) : PnB (P.c1 s c) := by
  cases s <;> simp only [PnB, Pn.c1, Pn.lo, Pn.sz] at * <;> omega
/-- a part of a window -/
def PnW (P : Pn) : Prop := 0 ≤ P.l ∧ 0 ≤ P.t ∧ P.l + P.w ≤ 20 ∧ P.t + P.h ≤ 20 ∧ 0 < P.w ∧ 0 < P.h
theorem PnW.b {P : Pn} (h : PnW P) : PnB P := by simp only [PnW, PnB] at *; omega
theorem PnW.pos {P : Pn} (h : PnW P) : P.pos := by simp only [PnW, Pn.pos] at *; omega
theorem PnW.c1 {P : Pn} (h : PnW P) {s : Bool} {c : Int} (hc : P.lo s < c ∧ c < P.lo s + P.sz s) : PnW (P.c1 s c) := by
  cases s <;> simp only [PnW, Pn.c1, Pn.lo, Pn.sz] at * <;> omega
theorem PnW.c2 {P : Pn} (h : PnW P) {s : Bool} {c : Int} (hc : P.lo s < c ∧ c < P.lo s + P.sz s) : PnW (P.c2 s c) := by
  cases s <;> simp only [PnW, Pn.c2, Pn.lo, Pn.sz] at * <;> omega
end PP
set_option Elab.async false
set_option linter.all false
set_option autoImplicit false
set_option maxRecDepth 100000
set_option maxHeartbeats 1000000
namespace PP
open PySem
variable {T : Nat → Option Fn} {n : Nat}
theorem Pict.W {W H : Int} {ps : List Pn} (h : Pict W H ps) : PnW ⟨0, 0, W, H⟩ := by
  have := h.w
  have := h.h
  simp only [PnW]; omega
def optD : Option Pn → D
  | some p => p.D
  | none => .none
@[simp] theorem is_Dn (p : Pn) : isR (.d p.D) (.d .none) = .ok false := id rfl
theorem c_knot_in0 (h : TC0 T) (h43 : T 43 = some f43_knot_in) : ∀ (k : Nat) (P : Pn) (b : Bool) (ps : List Pn) (n : Nat), Til P ps → PnW P → ps.length ≤ k → ps.length ≤ 9 → k + 3 ≤ n →
    call T n 43 [.d P.D, .d (sq b (ps.map Pn.D))] = .ok (.d (optD (knotF k P ps)))
  | 0, P, b, ps, n, ht, hw, hk, h7, hn => by
    have := List.length_pos_iff.mpr (ht.ne hw.pos)
    omega
  | k + 1, P, b, ps, n, ht, hw, hk, h7, hn => by
    obtain ⟨m, rfl⟩ : ∃ m, n = m + 1 := ⟨n - 1, by omega⟩
    rw [call_go h43 rfl (st := [some (.d P.D), some (.d (sq b (ps.map Pn.D))), none, none, none, none]) rfl]
    by_cases h1 : ps.length = 1
    · simp [f43_knot_in, h1, knotF, optD]
    · have hlim : ps.length ≤ lim := by rw [lim_eq]; omega
      obtain ⟨m', rfl⟩ : ∃ m', m = m' + 2 := ⟨m - 2, by omega⟩
      have ec := c_cuts_in0 (n := m') h hw.b b hlim
      have h1' : ¬ ((ps.length : Int) = 1) := by omega
      cases hc : cutsL P ps with
      | nil =>
        rw [hc] at ec
        simp [f43_knot_in, h1', ec, knotF, h1, hc, optD]
      | cons a as =>
        obtain ⟨s, c⟩ := a
        have ha : c ∈ linesL s P ps := (mem_cutsL (a := (s, c))).mp (by rw [hc]; exact List.mem_cons_self ..)
        obtain ⟨q1, q2, q3⟩ := ht.lens hw.pos ha
        have hm := mem_linesL.mp ha
        have eh := c_halves0 (n := m' + 1) h P b hlim s c
        have e1 := c_knot_in0 h h43 k (P.c1 s c) false (fst s c ps) (m' + 2) (ht.fst hm.1 hm.2) (hw.c1 hm.1) (by omega) (by omega) (by omega)
        have e2 := c_knot_in0 h h43 k (P.c2 s c) false (snd s c ps) (m' + 2) (ht.snd hm.1 hm.2) (hw.c2 hm.1) (by omega) (by omega) (by omega)
        simp only [sq] at e1 e2
        rw [hc] at ec
        have i0 : idxR (.d (.list (ctD (s, c) :: as.map ctD))) (.d (.int 0)) = .ok (.d (ctD (s, c))) := idxL_nat (k := 0) rfl
        simp [f43_knot_in, h1', ec, knotF, h1, hc, i0]
        simp [ctD, eh, hvD, e1]
        cases hk : knotF k (P.c1 s c) (fst s c ps) with
        | some q => simp [optD]
        | none => simp [optD, e2]
def apB (p q : Pn) : Bool := decide (q.l + q.w ≤ p.l) || decide (p.l + p.w ≤ q.l) || decide (q.t + q.h ≤ p.t) || decide (p.t + p.h ≤ q.t)
/-- is it a knot? -/
def knotB (ps : List Pn) (Q : Pn) : Bool := (ps.all fun p => decide (p.sub Q) || apB p Q) && decide (2 ≤ (ins Q ps).length) && (cutsL Q (ins Q ps)).isEmpty
end PP
set_option Elab.async false
set_option linter.all false
set_option autoImplicit false
set_option maxRecDepth 100000
set_option maxHeartbeats 2000000
namespace PP
open PySem
variable {T : Nat → Option Fn} {n : Nat}
@[simp] theorem eq_bb (a b : Bool) : eqR (.d (.bool a)) (.d (.bool b)) = .ok (decide (a = b)) := by
  cases a <;> cases b <;> rfl
theorem IsK.pos {P Q : Pn} {ps qs : List Pn} (z : IsK P ps Q qs) : Q.pos := z.til.pos (by intro e; have := z.two; rw [e] at this; simp at this)
end PP
set_option Elab.async false
set_option linter.all false
set_option autoImplicit false
set_option maxRecDepth 100000
set_option maxHeartbeats 2000000
namespace PP
open PySem
variable {T : Nat → Option Fn} {n : Nat}
@[simp] theorem tup_cut (s : Bool) (k : Int) (a b : Tr) : tupG [.str (kd s), .int k, a.enc, b.enc] = .ok (.d (Tr.cut s k a b).enc) := id rfl
@[simp] theorem ev_lensi {C : Nat → List R → Rs R} {ρ : Sto} (a : Ex) : ev C (.lensi a) ρ = b1 (ev C a ρ) lensiR := by rw [ev]; rfl
structure TL (T : Nat → Option Fn) : Prop where
  through : T 27 = some f27_law_through
  all : T 34 = some f34_law_all_trees
end PP
set_option Elab.async false
set_option linter.all false
set_option autoImplicit false
set_option maxRecDepth 100000
set_option maxHeartbeats 2000000
namespace PP
open PySem
end PP
set_option Elab.async false
set_option linter.all false
set_option autoImplicit false
set_option maxRecDepth 100000
set_option maxHeartbeats 2000000
namespace PP
open PySem
theorem srt_eq {ps qs : List (List Int)} (e : ps.Perm qs) : srt ps = srt qs :=
  List.Perm.eq_of_pairwise (fun _ _ _ _ h1 h2 => List.le_antisymm h1 h2) (srt_le ps) (srt_le qs) ((srt_perm ps).trans (e.trans (srt_perm qs).symm))
theorem map_L_inj : ∀ {ps qs : List Pn}, ps.map Pn.L = qs.map Pn.L → ps = qs
  | [], [], _ => rfl
  | [], _ :: _, h => by simp at h
  | _ :: _, [], h => by simp at h
  | p :: ps, q :: qs, h => by
    simp only [List.map_cons, List.cons.injEq] at h
    rw [Pn.L_inj h.1, map_L_inj h.2]
theorem srtP_eq {ps qs : List Pn} (e : ps.Perm qs) : srtP ps = srtP qs := by
  apply map_L_inj
  rw [srtP_L, srtP_L]
  exact srt_eq (e.map _)
mutual
theorem eqv_refl : ∀ {x : D}, plain x = true → PyData.eqv x x = true
  | .none, _ => by simp [PyData.eqv]
  | .bool a, _ => by simp [PyData.eqv]
  | .int a, _ => by simp [PyData.eqv]
  | .str a, _ => by simp [PyData.eqv]
  | .tuple a, h => by
    simp only [plain, Bool.and_eq_true] at h
    simp only [PyData.eqv]; exact eqv_reflAll h.2
  | .list a, h => by cases h
  | .dict a, h => by cases h
theorem eqv_reflAll : ∀ {xs : List D}, plainAll xs = true → PyData.eqvAll xs xs = true
  | [], _ => by simp [PyData.eqvAll]
  | x :: xs, h => by
    simp only [plainAll, Bool.and_eq_true] at h
    simp only [PyData.eqvAll, Bool.and_eq_true]
    exact ⟨eqv_refl h.1, eqv_reflAll h.2⟩
end
structure Tn where
  o : Bool
  m : Bool
  f : Bool
  deriving DecidableEq
def Tn.nm : Tn → Str
  | ⟨false, false, false⟩ => t_same
  | ⟨true, false, true⟩ => t_right
  | ⟨false, true, true⟩ => t_half
  | ⟨true, true, false⟩ => t_left
  | ⟨false, true, false⟩ => t_mirror
  | ⟨false, false, true⟩ => t_flip
  | ⟨true, false, false⟩ => t_over
  | ⟨true, true, true⟩ => t_under
def tX (τ : Tn) (W : Int) (p : Pn) : Int := match τ.m with
  | true => W - p.l - p.w
  | false => p.l
def tY (τ : Tn) (H : Int) (p : Pn) : Int := match τ.f with
  | true => H - p.t - p.h
  | false => p.t
def tPn (τ : Tn) (W H : Int) (p : Pn) : Pn := match τ.o with
  | true => ⟨tY τ H p, tX τ W p, p.h, p.w⟩
  | false => ⟨tX τ W p, tY τ H p, p.w, p.h⟩
def tW (τ : Tn) (W H : Int) : Int := match τ.o with
  | true => H
  | false => W
def tH (τ : Tn) (W H : Int) : Int := match τ.o with
  | true => W
  | false => H
theorem tPn_whole (τ : Tn) (W H : Int) : tPn τ W H ⟨0, 0, W, H⟩ = ⟨0, 0, tW τ W H, tH τ W H⟩ := by
  obtain ⟨o, m, f⟩ := τ
  cases o <;> cases m <;> cases f <;> simp [tPn, tX, tY, tW, tH]
end PP
set_option Elab.async false
set_option linter.all false
set_option autoImplicit false
set_option maxRecDepth 100000
set_option maxHeartbeats 2000000
namespace PP
open PySem
structure Q4 where
  a : Int
  b : Int
  c : Int
  d : Int
  deriving DecidableEq
def Q4.D (q : Q4) : D := .tuple [wD q.a q.b, wD q.c q.d]
def cutS (P : Pn) (s : Bool) (c : Int) : List Q4 := match s with
  | true => (irange 0 P.h).map fun j => ⟨c - 1, P.t + j, c, P.t + j⟩
  | false => (irange 0 P.w).map fun j => ⟨P.l + j, c - 1, P.l + j, c⟩
def sX (τ : Tn) (W x : Int) : Int := match τ.m with
  | true => W - 1 - x
  | false => x
def sY (τ : Tn) (H y : Int) : Int := match τ.f with
  | true => H - 1 - y
  | false => y
def spT (τ : Tn) (W H x y : Int) : Int × Int := match τ.o with
  | true => (sY τ H y, sX τ W x)
  | false => (sX τ W x, sY τ H y)
end PP
set_option Elab.async false
set_option linter.all false
set_option autoImplicit false
set_option maxRecDepth 100000
set_option maxHeartbeats 2000000
namespace PP
open PySem
variable {T : Nat → Option Fn} {n : Nat}
@[simp] theorem dget_turn (τ : Tn) : dgetR [(t_same, .tuple [.bool false, .bool false, .bool false]), (t_right, .tuple [.bool true, .bool false, .bool true]), (t_half, .tuple [.bool false, .bool true, .bool true]), (t_left, .tuple [.bool true, .bool true, .bool false]), (t_mirror, .tuple [.bool false, .bool true, .bool false]), (t_flip, .tuple [.bool false, .bool false, .bool true]), (t_over, .tuple [.bool true, .bool false, .bool false]), (t_under, .tuple [.bool true, .bool true, .bool true])] (.d (.str τ.nm)) = .ok (.d (.tuple [.bool τ.o, .bool τ.m, .bool τ.f])) := by
  obtain ⟨o, m, f⟩ := τ
  cases o <;> cases m <;> cases f <;> rfl
@[simp] theorem dget_other (s : Bool) : dgetR [(t_side, .str t_stack), (t_stack, .str t_side)] (.d (.str (kd s))) = .ok (.d (.str (kd (!s)))) := by cases s <;> rfl
@[simp] theorem rev_w (w g : Int) : revR (.d (wD w g)) = .ok (.d (wD g w)) := id rfl
@[simp] theorem rev_2 (a b : D) : revR (.d (.tuple [a, b])) = .ok (.d (.tuple [b, a])) := id rfl
theorem c_turned_pane (h : T 115 = some f115_turned_pane) (τ : Tn) (W H : Int) (p : Pn) : call T (n + 1) 115 [.d p.D, .d (wD W H), .d (.str τ.nm)] = .ok (.d (tPn τ W H p).D) := by
  rw [call_go h rfl (st := [some (.d p.D), some (.d (wD W H)), some (.d (.str τ.nm)), none, none, none, none, none, none, none]) rfl]
  simp only [f115_turned_pane]
  obtain ⟨o, m, f⟩ := τ
  cases o <;> cases m <;> cases f <;> simp [tPn, tX, tY]
theorem c_turned (h : T 115 = some f115_turned_pane) (h116 : T 116 = some f116_turned) (τ : Tn) (W H : Int) {ps : List Pn} (hl : ps.length ≤ lim) :
    call T (n + 2) 116 [.d (pcD W H ps), .d (.str τ.nm)] = .ok (.d (pcD (tW τ W H) (tH τ W H) (srtP (ps.map (tPn τ W H))))) := by
  have hs := sorted_Dl (ps := ps.map (tPn τ W H)) (by simpa using hl)
  rw [call_go h116 rfl (st := [some (.d (pcD W H ps)), some (.d (.str τ.nm)), none, none, none, none]) rfl]
  have e : ∀ p, call T (n + 1) 115 [.d p.D, .d (wD W H), .d (.str τ.nm)] = .ok (.d (tPn τ W H p).D) := c_turned_pane h τ W H
  cases ho : τ.o with
  | true =>
    simp [f116_turned, pcD, ho]
    rw [lc_nm Pn.D (fun p => (tPn τ W H p).D) ps (by simp) hl (by intro p _; simp [e])]
    rw [show ps.map (fun p => (tPn τ W H p).D) = (ps.map (tPn τ W H)).map Pn.D by simp]
    simp [hs, tW, tH, ho, -List.map_map]
  | false =>
    simp [f116_turned, pcD, ho]
    rw [lc_nm Pn.D (fun p => (tPn τ W H p).D) ps (by simp) hl (by intro p _; simp [e])]
    rw [show ps.map (fun p => (tPn τ W H p).D) = (ps.map (tPn τ W H)).map Pn.D by simp]
    simp [hs, tW, tH, ho, -List.map_map]
@[simp] theorem add_ww (a b c d : Int) : binR .add (.d (wD a b)) (.d (wD c d)) = .ok (.d (Pn.mk a b c d).D) := id rfl
end PP
set_option Elab.async false
set_option linter.all false
set_option autoImplicit false
set_option maxRecDepth 100000
set_option maxHeartbeats 2000000
namespace PP
open PySem
variable {T : Nat → Option Fn} {n : Nat}
@[simp] theorem setT_cut (i j k l : Nat) (s : Bool) (c : Int) (a b : Tr) (ρ : Sto) : setT (.tp [i, j, k, l]) (Tr.cut s c a b).enc ρ = .ok ((((ρ.set i (some (.d (.str (kd s))))).set j (some (.d (.int c)))).set k (some (.d a.enc))).set l (some (.d b.enc))) := id rfl
@[simp] theorem isP_pane : Tr.pane.isP = true := rfl
@[simp] theorem isP_cut (s : Bool) (c : Int) (a b : Tr) : (Tr.cut s c a b).isP = false := rfl
@[simp] theorem idx_w (P : Pn) (s : Bool) : idxR (.d (wD P.w P.h)) (.d (.int (if s = false then 1 else 0))) = .ok (.d (.int (P.sz s))) := by
  cases s
  · exact wD_1 ..
  · exact wD_0 ..
@[simp] theorem add_enc (s : Bool) (k : Int) (a b : Tr) : binR .add (.d (.tuple [.str (kd s), .int k])) (.d (.tuple [a.enc, b.enc])) = .ok (.d (Tr.cut s k a b).enc) := id rfl
@[simp 2000] theorem tup_q (a b c d : Int) : tupG [wD a b, wD c d] = .ok (.d (Q4.mk a b c d).D) := id rfl
end PP
set_option Elab.async false
set_option linter.all false
set_option autoImplicit false
set_option maxRecDepth 100000
set_option maxHeartbeats 2000000
namespace PP
open PySem
variable {T : Nat → Option Fn} {n : Nat}
theorem plain_pc {W H : Int} {ps : List Pn} (hl : ps.length ≤ lim) : plain (pcD W H ps) = true := by
  have := plain_rows (ps := ps.map Pn.L) (fun p hp => by
    obtain ⟨q, _, rfl⟩ := List.mem_map.mp hp
    simp [Pn.L, lim_eq])
  rw [← D_map] at this
  simp [pcD, wD, plain, plainAll, this, hl]
  rw [lim_eq]; decide
theorem depth_pc (W H : Int) (ps : List Pn) : (pcD W H ps).depth ≤ 4 := by
  have := depth_rows (ps.map Pn.L)
  rw [← D_map] at this
  simp [pcD, wD, PyData.depth, PyData.depthAll]; omega
theorem Pict.pos {W H : Int} {ps : List Pn} (h : Pict W H ps) : ∀ p ∈ ps, p.pos := fun p hp => (h.til.inn p hp).1
end PP
set_option Elab.async false
set_option linter.all false
set_option autoImplicit false
set_option maxRecDepth 100000
set_option maxHeartbeats 2000000
namespace PP
open PySem
variable {T : Nat → Option Fn} {n : Nat}
@[simp] theorem idx_Q0 (q : Q4) : idxR (.d q.D) (.d (.int 0)) = .ok (.d (wD q.a q.b)) := idx0 ..
@[simp] theorem idx_Q1 (q : Q4) : idxR (.d q.D) (.d (.int 1)) = .ok (.d (wD q.c q.d)) := idx1 ..
end PP
set_option Elab.async false
set_option linter.all false
set_option autoImplicit false
set_option maxRecDepth 100000
set_option maxHeartbeats 2000000
namespace PP
open PySem
end PP
set_option Elab.async false
set_option linter.all false
set_option autoImplicit false
set_option maxRecDepth 100000
set_option maxHeartbeats 2000000
namespace PP
open PySem
end PP
set_option Elab.async false
set_option linter.all false
set_option autoImplicit false
set_option maxRecDepth 100000
set_option maxHeartbeats 4000000
namespace PP
open PySem
def Tn.comp (τ σ : Tn) : Tn := match τ.o with
  | true => ⟨!σ.o, τ.m != σ.f, τ.f != σ.m⟩
  | false => ⟨σ.o, τ.m != σ.m, τ.f != σ.f⟩
def Tn.inv (τ : Tn) : Tn := match τ.o with
  | true => ⟨true, τ.f, τ.m⟩
  | false => τ
def Tn.one : Tn := ⟨false, false, false⟩
theorem comp_inv (τ : Tn) : τ.comp τ.inv = Tn.one := by
  obtain ⟨o, m, f⟩ := τ
  cases o <;> cases m <;> cases f <;> rfl
theorem tPn_comp (τ σ : Tn) (W H : Int) (p : Pn) : tPn σ (tW τ W H) (tH τ W H) (tPn τ W H p) = tPn (τ.comp σ) W H p := by
  obtain ⟨o, m, f⟩ := τ
  obtain ⟨o', m', f'⟩ := σ
  cases o <;> cases m <;> cases f <;> cases o' <;> cases m' <;> cases f' <;> simp [tPn, tX, tY, tW, tH, Tn.comp] <;> omega
theorem tPn_one (W H : Int) (p : Pn) : tPn Tn.one W H p = p := rfl
theorem tPn_back (τ : Tn) (W H : Int) (p : Pn) : tPn τ.inv (tW τ W H) (tH τ W H) (tPn τ W H p) = p := by rw [tPn_comp, comp_inv, tPn_one]
theorem tPn_inj {τ : Tn} {W H : Int} {p q : Pn} (h : tPn τ W H p = tPn τ W H q) : p = q := by
  rw [← tPn_back τ W H p, h, tPn_back]
theorem has_turn {τ : Tn} {W H : Int} {p : Pn} {x y : Int} : (tPn τ W H p).has (spT τ W H x y).1 (spT τ W H x y).2 ↔ p.has x y := by
  obtain ⟨o, m, f⟩ := τ
  cases o <;> cases m <;> cases f <;> simp only [tPn, tX, tY, spT, sX, sY, Pn.has] <;> constructor <;> intro h <;> omega
theorem spT_back (τ : Tn) (W H u v : Int) : ∃ x y, spT τ W H x y = (u, v) := by
  obtain ⟨o, m, f⟩ := τ
  cases o <;> cases m <;> cases f <;> simp only [spT, sX, sY, Prod.mk.injEq]
  · exact ⟨u, v, rfl, rfl⟩
  · exact ⟨u, H - 1 - v, rfl, by omega⟩
  · exact ⟨W - 1 - u, v, by omega, rfl⟩
  · exact ⟨W - 1 - u, H - 1 - v, by omega, by omega⟩
  · exact ⟨v, u, rfl, rfl⟩
  · exact ⟨v, H - 1 - u, by omega, rfl⟩
  · exact ⟨W - 1 - v, u, rfl, by omega⟩
  · exact ⟨W - 1 - v, H - 1 - u, by omega, by omega⟩
theorem pos_turn {τ : Tn} {W H : Int} {p : Pn} : (tPn τ W H p).pos ↔ p.pos := by
  obtain ⟨o, m, f⟩ := τ
  cases o <;> simp only [tPn, Pn.pos] <;> constructor <;> intro h <;> omega
theorem sub_turn {τ : Tn} {W H : Int} {p q : Pn} : (tPn τ W H p).sub (tPn τ W H q) ↔ p.sub q := by
  obtain ⟨o, m, f⟩ := τ
  cases o <;> cases m <;> cases f <;> simp only [tPn, tX, tY, Pn.sub] <;> constructor <;> intro h <;> omega
theorem til_turn {P : Pn} {ps : List Pn} (h : Til P ps) (τ : Tn) (W H : Int) : Til (tPn τ W H P) (ps.map (tPn τ W H)) := by
  refine ⟨fun p hp => ?_, fun p hp q hq u v hx hy => ?_, ?_, fun u v hx => ?_⟩
  · obtain ⟨r, hr, rfl⟩ := List.mem_map.mp hp
    exact ⟨pos_turn.mpr (h.inn r hr).1, sub_turn.mpr (h.inn r hr).2⟩
  · obtain ⟨r, hr, rfl⟩ := List.mem_map.mp hp
    obtain ⟨s, hs, rfl⟩ := List.mem_map.mp hq
    obtain ⟨x, y, e⟩ := spT_back τ W H u v
    have e1 : u = (spT τ W H x y).1 := by rw [e]
    have e2 : v = (spT τ W H x y).2 := by rw [e]
    rw [e1, e2, has_turn] at hx hy
    rw [h.dis r hr s hs x y hx hy]
  · exact List.pairwise_map.mpr (h.nd.imp fun a e => a (tPn_inj e))
  · obtain ⟨x, y, e⟩ := spT_back τ W H u v
    have e1 : u = (spT τ W H x y).1 := by rw [e]
    have e2 : v = (spT τ W H x y).2 := by rw [e]
    rw [e1, e2, has_turn] at hx
    obtain ⟨p, hp, hh⟩ := h.cov x y hx
    exact ⟨tPn τ W H p, List.mem_map.mpr ⟨p, hp, rfl⟩, by rw [e1, e2, has_turn]; exact hh⟩
end PP
set_option Elab.async false
set_option linter.all false
set_option autoImplicit false
set_option maxRecDepth 100000
set_option maxHeartbeats 4000000
namespace PP
open PySem
end PP
set_option Elab.async false
set_option linter.all false
set_option autoImplicit false
set_option maxRecDepth 100000
set_option maxHeartbeats 4000000
namespace PP
open PySem
variable {T : Nat → Option Fn} {n : Nat}
theorem eq_refl' {x : D} (hp : plain x = true) (hd : x.depth ≤ 60) : eqR (.d x) (.d x) = .ok true := by
  show (if (true && true && shallow x x) then Rs.ok (PyData.eqv x x) else .bad) = _
  rw [shallow_l hd, eqv_refl hp]; rfl
end PP
set_option Elab.async false
set_option linter.all false
set_option autoImplicit false
set_option maxRecDepth 100000
set_option maxHeartbeats 4000000
namespace PP
open PySem
end PP
set_option Elab.async false
set_option linter.all false
set_option autoImplicit false
set_option maxRecDepth 100000
set_option maxHeartbeats 4000000
namespace PP
open PySem
end PP
set_option Elab.async false
set_option linter.all false
set_option autoImplicit false
set_option maxRecDepth 100000
set_option maxHeartbeats 1000000
namespace PP
open PySem
def cut2 (P : Pn) (s : Bool) (c : Int) : List Pn := [P.c1 s c, P.c2 s c]
theorem wo_not {P : Pn} {ps : List Pn} (h : ¬ P ∈ ps) : wo P ps = ps := by
  refine List.filter_eq_self.mpr fun p hp => ?_
  have : ¬ p = P := fun e => h (e ▸ hp)
  simp [this]
theorem wo_app (P : Pn) (ps qs : List Pn) : wo P (ps ++ qs) = wo P ps ++ wo P qs := List.filter_append ..
theorem grow : ∀ (t : Tr) (Q P : Pn) (s : Bool) (c : Int), t.Fit Q → P ∈ t.pns Q → P.lo s < c ∧ c < P.lo s + P.sz s → ∃ t' : Tr, t'.Fit Q ∧ (t'.pns Q).Perm (wo P (t.pns Q) ++ cut2 P s c)
  | .pane, Q, P, s, c, hf, hP, hc => by
    simp only [Tr.pns, List.mem_cons, List.not_mem_nil, or_false] at hP; subst hP
    have pp := hf.pos
    refine ⟨.cut s (c - P.lo s) .pane .pane, fit_cut.mpr ⟨by omega, ?_, ?_⟩, ?_⟩
    · rw [show P.lo s + (c - P.lo s) = c by omega]
      have := c1_pos pp hc
      simp only [Tr.Fit, Tr.WF, Pn.pos] at *; omega
    · rw [show P.lo s + (c - P.lo s) = c by omega]
      have := c2_pos pp hc
      simp only [Tr.Fit, Tr.WF, Pn.pos] at *; omega
    · simp only [Tr.pns, show P.lo s + (c - P.lo s) = c by omega]
      simp [wo, cut2]
  | .cut s' k a b, Q, P, s, c, hf, hP, hc => by
    obtain ⟨h1, h2, h3⟩ := fit_cut.mp hf
    have nd := (til_tree _ _ hf).nd
    simp only [Tr.pns] at hP nd ⊢
    rw [List.nodup_append] at nd
    rcases List.mem_append.mp hP with hP | hP
    · obtain ⟨t', f', e'⟩ := grow a _ P s c h2 hP hc
      refine ⟨.cut s' k t' b, fit_cut.mpr ⟨h1, f', h3⟩, ?_⟩
      simp only [Tr.pns]
      rw [wo_app, wo_not (ps := b.pns _) (fun z => nd.2.2 _ hP _ z rfl)]
      refine (e'.append_right _).trans ?_
      rw [List.append_assoc, List.append_assoc]
      exact List.Perm.append_left _ List.perm_append_comm
    · obtain ⟨t', f', e'⟩ := grow b _ P s c h3 hP hc
      refine ⟨.cut s' k a t', fit_cut.mpr ⟨h1, h2, f'⟩, ?_⟩
      simp only [Tr.pns]
      rw [wo_app, wo_not (ps := a.pns _) (fun z => nd.2.2 _ z _ hP rfl), List.append_assoc]
      exact List.Perm.append_left _ e'
end PP
set_option Elab.async false
set_option linter.all false
set_option autoImplicit false
set_option maxRecDepth 100000
set_option maxHeartbeats 1000000
namespace PP
open PySem
variable {T : Nat → Option Fn} {n : Nat}
theorem any_D (p : Pn) : ∀ ps : List Pn, ((ps.map Pn.D).any fun z => PyData.eqv z p.D) = decide (p ∈ ps)
  | [] => by simp
  | q :: ps => by
    rw [List.map_cons, List.any_cons, any_D p ps, eqv_DD]
    by_cases h : q = p
    · simp [h]
    · have : ¬ p = q := fun z => h z.symm
      simp [h, this]
@[simp] theorem in_D (p : Pn) (ps : List Pn) : inR (.d p.D) (.d (.tuple (ps.map Pn.D))) = .ok (decide (p ∈ ps)) := by
  show (if (R.d p.D).isD && decide (p.D.depth ≤ 60) then Rs.ok ((ps.map Pn.D).any fun z => PyData.eqv z p.D) else .bad) = _
  rw [depth_D, any_D]; rfl
@[simp] theorem min_D (p q : Pn) : bltR .min [.d p.D, .d q.D] = .ok (.d (if q.L < p.L then q else p).D) := by
  show (match ints? (p.L.map .int), ints? (q.L.map .int) with | some a, some b => Rs.ok (R.d (.tuple (if HT.lexLt b a then q.L.map .int else p.L.map .int))) | _, _ => .bad) = _
  rw [ints_map, ints_map]
  show Rs.ok (R.d (.tuple (if HT.lexLt q.L p.L then q.L.map .int else p.L.map .int))) = _
  rw [lexLt_dec]
  by_cases h : q.L < p.L <;> simp [h] <;> rfl
@[simp] theorem max_D (p q : Pn) : bltR .max [.d p.D, .d q.D] = .ok (.d (if p.L < q.L then q else p).D) := by
  show (match ints? (p.L.map .int), ints? (q.L.map .int) with | some a, some b => Rs.ok (R.d (.tuple (if HT.lexLt a b then q.L.map .int else p.L.map .int))) | _, _ => .bad) = _
  rw [ints_map, ints_map]
  show Rs.ok (R.d (.tuple (if HT.lexLt p.L q.L then q.L.map .int else p.L.map .int))) = _
  rw [lexLt_dec]
  by_cases h : p.L < q.L <;> simp [h] <;> rfl
def prD (a : Pn × Pn) : D := .tuple [a.1.D, a.2.D]
end PP
set_option Elab.async false
set_option linter.all false
set_option autoImplicit false
set_option maxRecDepth 100000
set_option maxHeartbeats 1000000
namespace PP
open PySem
variable {T : Nat → Option Fn} {n : Nat}
theorem slc_drop (xs : List D) (k : Nat) : slcR (.d (.tuple xs)) (some ((k : Int) + 1)) none = .ok (.d (.tuple (xs.drop (k + 1)))) := by
  show Rs.ok (R.d (.tuple (cutD xs _ _))) = _
  have hk : HT.sIx xs.length 0 (some ((k : Int) + 1)) = min (k + 1) xs.length := by
    simp only [HT.sIx]; rw [if_neg (by omega)]; omega
  have hk2 : HT.sIx xs.length xs.length none = xs.length := rfl
  unfold cutD
  rw [hk, hk2]
  congr 3
  rcases Nat.le_total (k + 1) xs.length with z | z
  · rw [Nat.min_eq_left z]
    exact List.take_of_length_le (by rw [List.length_drop]; omega)
  · rw [Nat.min_eq_right z, List.drop_eq_nil_of_le z, List.drop_eq_nil_of_le (Nat.le_refl _)]; simp
theorem spots_has {p : Pn} {s : List Int} : s ∈ spotsP p.L ↔ ∃ x y, s = [x, y] ∧ p.has x y := by
  rw [Pn.L, mem_spots]; rfl
theorem Pict.pic {W H : Int} {ps : List Pn} (h : Pict W H ps) : Pic W H (ps.map Pn.L) := by
  have hw := h.w
  have hh := h.h
  have nd : ((ps.map Pn.L).flatMap spotsP).Nodup := by
    unfold List.Nodup
    rw [List.pairwise_flatMap]
    refine ⟨fun q hq => ?_, ?_⟩
    · obtain ⟨p, _, rfl⟩ := List.mem_map.mp hq
      exact nodup_spots ..
    · rw [List.pairwise_map]
      have := h.til.nd
      refine List.Pairwise.imp_of_mem ?_ this
      intro p q hp hq hne x hx y hy e
      subst e
      obtain ⟨a, b, rfl, z1⟩ := spots_has.mp hx
      obtain ⟨a', b', e, z2⟩ := spots_has.mp hy
      simp only [List.cons.injEq, and_true] at e
      obtain ⟨rfl, rfl⟩ := e
      exact hne (h.til.dis p hp q hq _ _ z1 z2)
  have full : ((ps.map Pn.L).flatMap spotsP).length = (spotsP [0, 0, W, H]).length := by
    have m : ∀ s, s ∈ (ps.map Pn.L).flatMap spotsP ↔ s ∈ spotsP (Pn.mk 0 0 W H).L := by
      intro s
      rw [spots_has]
      simp only [List.mem_flatMap, List.mem_map]
      constructor
      · rintro ⟨_, ⟨p, hp, rfl⟩, hs⟩
        obtain ⟨x, y, rfl, z⟩ := spots_has.mp hs
        refine ⟨x, y, rfl, ?_⟩
        have := (h.til.inn p hp).2
        simp only [Pn.has, Pn.sub] at *; omega
      · rintro ⟨x, y, rfl, z⟩
        obtain ⟨p, hp, z⟩ := h.til.cov x y z
        exact ⟨_, ⟨p, hp, rfl⟩, spots_has.mpr ⟨x, y, rfl, z⟩⟩
    exact ((List.perm_ext_iff_of_nodup nd (nodup_spots 0 0 W H)).mpr m).length_eq
  refine ⟨h.w, h.h, ?_, ?_, h.lt, nd, ?_⟩
  · rw [List.length_map]
    refine ⟨?_, h.len⟩
    have := h.til.ne h.W.pos
    cases ps with
    | nil => exact absurd rfl this
    | cons => simp
  · intro q hq
    obtain ⟨p, hp, rfl⟩ := List.mem_map.mp hq
    have := h.til.inn p hp
    refine ⟨p.l, p.t, p.w, p.h, rfl, ?_⟩
    simp only [Pn.pos, Pn.sub] at this; omega
  · rw [full, len_spots, Nat.mul_comm]
end PP
set_option Elab.async false
set_option linter.all false
set_option autoImplicit false
set_option maxRecDepth 100000
set_option maxHeartbeats 4000000
namespace PP
open PySem
variable {T : Nat → Option Fn} {n : Nat}
@[simp] theorem setT_pr (i j : Nat) (p q : Pn) (ρ : Sto) : setT (.tp [i, j]) (prD (p, q)) ρ = .ok ((ρ.set i (some (.d p.D))).set j (some (.d q.D))) := id rfl
end PP
set_option Elab.async false
set_option linter.all false
set_option autoImplicit false
set_option maxRecDepth 100000
set_option maxHeartbeats 1000000
namespace PP
open PySem
abbrev Nd := Int × Int
def Nd.co (c : Bool) (n : Nd) : Int := match c with
  | true => n.1
  | false => n.2
def mx (i j : Int) : Int := if i < j then j else i
/-- how much of one kind a tree needs -/
def lz (c : Bool) : Tr → List Nd → Int
  | .pane, ns => Nd.co c (ns.headD (0, 0))
  | .cut s _ a b, ns => if s = c then lz c a (ns.take a.count) + lz c b (ns.drop a.count) else mx (lz c a (ns.take a.count)) (lz c b (ns.drop a.count))
/-- a tree cut elsewhere -/
def laid : Tr → List Nd → Tr
  | .pane, _ => .pane
  | .cut s _ a b, ns => .cut s (lz s a (ns.take a.count)) (laid a (ns.take a.count)) (laid b (ns.drop a.count))
end PP
set_option Elab.async false
set_option linter.all false
set_option autoImplicit false
set_option maxRecDepth 100000
set_option maxHeartbeats 1000000
namespace PP
open PySem
inductive Mw where
  | cross | left | right
  deriving DecidableEq
end PP
set_option Elab.async false
set_option linter.all false
set_option autoImplicit false
set_option maxRecDepth 100000
set_option maxHeartbeats 2000000
namespace PP
open PySem
variable {T : Nat → Option Fn} {n : Nat}
def ndD (d : Nd) : D := wD d.1 d.2
def nsD (ns : List Nd) : D := .tuple (ns.map ndD)
@[simp] theorem enc_2 (s : Bool) (k : Int) (a b : Tr) : idxR (.d (Tr.cut s k a b).enc) (.d (.int 2)) = .ok (.d a.enc) := idx2 ..
@[simp] theorem enc_3 (s : Bool) (k : Int) (a b : Tr) : idxR (.d (Tr.cut s k a b).enc) (.d (.int 3)) = .ok (.d b.enc) := idx3 ..
@[simp] theorem enc_0 (s : Bool) (k : Int) (a b : Tr) : idxR (.d (Tr.cut s k a b).enc) (.d (.int 0)) = .ok (.d (.str (kd s))) := idx0 ..
theorem slc_take (xs : List D) (k : Nat) : slcR (.d (.tuple xs)) none (some (k : Int)) = .ok (.d (.tuple (xs.take k))) := by
  show Rs.ok (R.d (.tuple (cutD xs _ _))) = _
  have hk : HT.sIx xs.length xs.length (some (k : Int)) = min k xs.length := HT.sIx_nat ..
  have hk2 : HT.sIx xs.length 0 none = 0 := rfl
  unfold cutD
  rw [hk, hk2]
  congr 3
  rw [List.drop_zero, Nat.sub_zero]
  rcases Nat.le_total k xs.length with z | z
  · rw [Nat.min_eq_left z]
  · rw [Nat.min_eq_right z, List.take_of_length_le z, List.take_of_length_le (Nat.le_refl _)]
theorem slc_drop' (xs : List D) (k : Nat) : slcR (.d (.tuple xs)) (some (k : Int)) none = .ok (.d (.tuple (xs.drop k))) := by
  cases k with
  | zero =>
    show Rs.ok (R.d (.tuple (cutD xs _ _))) = _
    unfold cutD
    simp [HT.sIx]
  | succ k => exact slc_drop xs k
@[simp] theorem ns_take (ns : List Nd) (k : Nat) : slcR (.d (nsD ns)) none (some (k : Int)) = .ok (.d (nsD (ns.take k))) := by
  rw [nsD, slc_take, nsD, List.map_take]
@[simp] theorem ns_drop (ns : List Nd) (k : Nat) : slcR (.d (nsD ns)) (some (k : Int)) none = .ok (.d (nsD (ns.drop k))) := by
  rw [nsD, slc_drop', nsD, List.map_drop]
end PP
set_option Elab.async false
set_option linter.all false
set_option autoImplicit false
set_option maxRecDepth 100000
set_option maxHeartbeats 2000000
namespace PP
open PySem
end PP
set_option Elab.async false
set_option linter.all false
set_option autoImplicit false
set_option maxRecDepth 100000
set_option maxHeartbeats 2000000
namespace PP
open PySem
variable {T : Nat → Option Fn} {n : Nat}
def wayC (b : Bool) : Nat := match b with
  | true => 50
  | false => 49
def wayS (p : List Bool) : Str := ⟨(p.map wayC).toArray⟩
def mwS : Mw → Str
  | .cross => t_cross
  | .left => t_left
  | .right => t_right
def mvD (x : List Bool × Mw) : D := .tuple [.str (wayS x.1), .str (mwS x.2)]
@[simp] theorem pane_0 : idxR (.d Tr.pane.enc) (.d (.int 0)) = .ok (.d (.str t_pane)) := idx0 ..
@[simp] theorem enc_1 (s : Bool) (k : Int) (a b : Tr) : idxR (.d (Tr.cut s k a b).enc) (.d (.int 1)) = .ok (.d (.int k)) := idx1 ..
@[simp] theorem cut_2 (s : Bool) (k : Int) (a b : Tr) : slcR (.d (Tr.cut s k a b).enc) none (some 2) = .ok (.d (.tuple [.str (kd s), .int k])) := id rfl
@[simp] theorem pane_2 : slcR (.d Tr.pane.enc) none (some 2) = .ok (.d (.tuple [.str t_pane])) := id rfl
@[simp] theorem cut_lo3 (s : Bool) (k : Int) (a b : Tr) : slcR (.d (Tr.cut s k a b).enc) none (some 3) = .ok (.d (.tuple [.str (kd s), .int k, a.enc])) := id rfl
@[simp] theorem cut_hi3 (s : Bool) (k : Int) (a b : Tr) : slcR (.d (Tr.cut s k a b).enc) (some 3) none = .ok (.d (.tuple [b.enc])) := id rfl
@[simp] theorem cut_hi4 (s : Bool) (k : Int) (a b : Tr) : slcR (.d (Tr.cut s k a b).enc) (some 4) none = .ok (.d (.tuple [])) := id rfl
theorem add_LL {xs ys : List D} (h : xs.length + ys.length ≤ lim) : binR .add (.d (.list xs)) (.l ys) = .ok (.l (xs ++ ys)) := by
  show fit (xs.length + ys.length) (Rs.ok (R.l (xs ++ ys))) = _
  rw [fit_ok h]
end PP
set_option Elab.async false
set_option linter.all false
set_option autoImplicit false
set_option maxRecDepth 100000
set_option maxHeartbeats 4000000
namespace PP
open PySem
variable {T : Nat → Option Fn} {n : Nat}
@[simp] theorem nd_0 (d : Nd) : idxR (.d (ndD d)) (.d (.int 0)) = .ok (.d (.int d.1)) := wD_0 ..
@[simp] theorem nd_1 (d : Nd) : idxR (.d (ndD d)) (.d (.int 1)) = .ok (.d (.int d.2)) := wD_1 ..
theorem eq_wd (a b : Int) : eqR (.d (wD a b)) (.d (wD a b)) = .ok true := eq_refl' (by simp [wD, plain, plainAll, lim_eq]) (by simp [wD, PyData.depth, PyData.depthAll])
end PP
set_option Elab.async false
set_option linter.all false
set_option autoImplicit false
set_option maxRecDepth 100000
set_option maxHeartbeats 4000000
namespace PP
open PySem
section
variable {α β γ δ : Type} {C : Nat → List R → Rs R} {ρ : Sto}
@[simp] theorem b1_err (c : Nat) (f : α → Rs β) : b1 (.err c) f = .err c := id rfl
@[simp] theorem b2_err1 (c : Nat) (n : Rs β) (f : α → β → Rs γ) : b2 (.err c) n f = .err c := id rfl
@[simp] theorem b2_err2 (c : Nat) (a : α) (f : α → β → Rs γ) : b2 (.ok a) (.err c) f = .err c := id rfl
@[simp] theorem seqK_err (ss : Sms) (c : Nat) : seqK C ss (.err c) = .err c := id rfl
@[simp] theorem outK_err (c : Nat) : outK (.err c) = .err c := id rfl
@[simp] theorem ifK_err (a b : Sms) (c : Nat) : ifK C a b ρ (.err c) = .err c := id rfl
@[simp] theorem x1_tryw (i : Nat) (b : Sms) : x1 C (.tryw i b) ρ = tryS (xs C b ρ) := by rw [x1]
@[simp] theorem tryS_ok (o : Out) : tryS (.ok o) = .ok o := id rfl
end
variable {T : Nat → Option Fn} {n : Nat}
end PP
set_option Elab.async false
set_option linter.all false
set_option autoImplicit false
set_option maxRecDepth 100000
set_option maxHeartbeats 4000000
namespace PP
open PySem
end PP
set_option Elab.async false
set_option linter.all false
set_option autoImplicit false
set_option maxRecDepth 100000
set_option maxHeartbeats 4000000
namespace PP
open PySem
@[simp] theorem ev_fnd {C : Nat → List R → Rs R} {ρ : Sto} (z : Str) (a : Ex) : ev C (.fnd z a) ρ = b1 (ev C a ρ) (fndR z) := by rw [ev]; rfl
variable {T : Nat → Option Fn} {n : Nat}
end PP
set_option Elab.async false
set_option linter.all false
set_option autoImplicit false
set_option maxRecDepth 100000
set_option maxHeartbeats 4000000
namespace PP
open PySem
variable {T : Nat → Option Fn} {n : Nat}
theorem app_ok' {ρ : Sto} {i : Nat} {xs ys : List D} (h : xs.length + ys.length ≤ lim) : appS ρ i xs ys = .ok (.nx (ρ.set i (some (.l (xs ++ ys))))) := by
  unfold appS
  rw [fit_ok h]
end PP
set_option Elab.async false
set_option linter.all false
set_option autoImplicit false
set_option maxRecDepth 100000
set_option maxHeartbeats 4000000
namespace PP
open PySem
end PP
set_option Elab.async false
set_option linter.all false
set_option autoImplicit false
set_option maxRecDepth 100000
set_option maxHeartbeats 4000000
namespace PP
open PySem
end PP
set_option Elab.async false
set_option linter.all false
set_option autoImplicit false
set_option maxRecDepth 100000
set_option maxHeartbeats 4000000
namespace PP
open PySem
end PP
set_option Elab.async false
set_option linter.all false
set_option autoImplicit false
set_option maxRecDepth 100000
set_option maxHeartbeats 4000000
namespace PP
open PySem
end PP
set_option Elab.async false
set_option linter.all false
set_option autoImplicit false
set_option maxRecDepth 100000
set_option maxHeartbeats 4000000
namespace PP
open PySem
variable {T : Nat → Option Fn} {n : Nat}
@[simp] theorem ev_upp {C : Nat → List R → Rs R} {ρ : Sto} (a : Ex) : ev C (.upp a) ρ = b1 (ev C a ρ) uppR := by rw [ev]; rfl
@[simp] theorem neg_i (i : Int) : negR (.d (.int i)) = .ok (.d (.int (-i))) := id rfl
theorem lstG_ok {ds : List D} (h : ds.length ≤ 1000) : lstG ds = .ok (.l ds) := by
  unfold lstG
  rw [fit_ok (by rw [lim_eq]; omega)]
theorem add_Ll {xs ys : List D} (h : xs.length + ys.length ≤ 1000) : binR .add (.d (.list xs)) (.l ys) = .ok (.l (xs ++ ys)) := add_LL (by rw [lim_eq]; omega)
structure TO (T : Nat → Option Fn) : Prop where
  b : TB0 T
  odd : T 11 = some f11_law_odd
end PP
set_option Elab.async false
set_option linter.all false
set_option autoImplicit false
set_option maxRecDepth 100000
set_option maxHeartbeats 4000000
namespace PP
open PySem
end PP
set_option Elab.async false
set_option linter.all false
set_option autoImplicit false
set_option maxRecDepth 100000
set_option maxHeartbeats 4000000
namespace PP
open PySem
variable {T : Nat → Option Fn} {n : Nat}
def pD (p : D × Int × Int) : D := .tuple [p.1, wD p.2.1 p.2.2]
@[simp] theorem setT_pD (i j : Nat) (p : D × Int × Int) (ρ : Sto) : setT (.tp [i, j]) (pD p) ρ = .ok ((ρ.set i (some (.d p.1))).set j (some (.d (wD p.2.1 p.2.2)))) := id rfl
end PP
set_option Elab.async false
set_option linter.all false
set_option autoImplicit false
set_option maxRecDepth 100000
set_option maxHeartbeats 2000000
namespace PP
open PySem
end PP
set_option Elab.async false
set_option linter.all false
set_option autoImplicit false
set_option maxRecDepth 100000
set_option maxHeartbeats 4000000
namespace PP
open PySem
variable {T : Nat → Option Fn} {n : Nat}
def ptD (q : Pn × List Pn) : D := .tuple [q.1.D, .list (q.2.map Pn.D)]
@[simp] theorem ptD_0 (q : Pn × List Pn) : idxR (.d (ptD q)) (.d (.int 0)) = .ok (.d q.1.D) := idx0 ..
@[simp] theorem ptD_1 (q : Pn × List Pn) : idxR (.d (ptD q)) (.d (.int 1)) = .ok (.d (.list (q.2.map Pn.D))) := idx1 ..
@[simp] theorem idx_sz (p : Pn) (s : Bool) : idxR (.d p.D) (.d (.int (2 + if s = false then 1 else 0))) = .ok (.d (.int (p.sz s))) := by
  cases s
  · exact idx_D3 p
  · exact idx_D2 p
structure Gd (P : Pn) (ps : List Pn) : Prop where
  til : Til P ps
  w : PnW P
  tree : ∃ t : Tr, t.Fit P ∧ (t.pns P).Perm ps
theorem Gd.c1 {P : Pn} {ps : List Pn} (h : Gd P ps) {s : Bool} {c : Int} (hc : c ∈ linesL s P ps) : Gd (P.c1 s c) (fst s c ps) := by
  obtain ⟨hb, hl⟩ := mem_linesL.mp hc
  obtain ⟨t, hf, hp⟩ := h.tree
  exact ⟨h.til.fst hb hl, h.w.c1 hb, tree_part hf hp h.til (h.til.fst hb hl) (c1_pos hf.pos hb) (c1_sub hb) (fun p hp => (mem_fst.mp hp).1)⟩
theorem Gd.c2 {P : Pn} {ps : List Pn} (h : Gd P ps) {s : Bool} {c : Int} (hc : c ∈ linesL s P ps) : Gd (P.c2 s c) (snd s c ps) := by
  obtain ⟨hb, hl⟩ := mem_linesL.mp hc
  obtain ⟨t, hf, hp⟩ := h.tree
  exact ⟨h.til.snd hb hl, h.w.c2 hb, tree_part hf hp h.til (h.til.snd hb hl) (c2_pos hf.pos hb) (c2_sub hb) (fun p hp => (mem_snd.mp hp).1)⟩
@[simp 2000] theorem setT_hv (i j : Nat) (P : Pn) (s : Bool) (c : Int) (ps : List Pn) (ρ : Sto) : setT (.tp [i, j]) (hvD P s c ps) ρ = .ok ((ρ.set i (some (.d (ptD (P.c1 s c, fst s c ps))))).set j (some (.d (ptD (P.c2 s c, snd s c ps))))) := id rfl
end PP
set_option Elab.async false
set_option linter.all false
set_option autoImplicit false
set_option maxRecDepth 100000
set_option maxHeartbeats 4000000
namespace PP
open PySem
variable {T : Nat → Option Fn} {n : Nat}
variable {C : Nat → List R → Rs R} {ρ : Sto}
@[simp] theorem ev_tdsp (ks : List Str) (es : Exs) : ev C (.tdsp ks es) ρ = b1 (b1 (evs C es ρ) frzAll) (fun ds => .ok (.t (ks.zip ds))) := by
  rw [ev]; cases evs C es ρ <;> rfl
@[simp] theorem masS_t (i : Nat) (kvs : List (Str × D)) : masS ρ i (.t kvs) = .ok (.nx (ρ.set i (some (.t kvs)))) := id rfl
@[simp] theorem slotT_1 (a : Option R) (kvs : List (Str × D)) (st : Sto) : slotT (a :: some (.t kvs) :: st) 1 = some kvs := id rfl
@[simp] theorem mv_0 (x : List Bool × Mw) : idxR (.d (mvD x)) (.d (.int 0)) = .ok (.d (.str (wayS x.1))) := idx0 ..
@[simp] theorem mv_1 (x : List Bool × Mw) : idxR (.d (mvD x)) (.d (.int 1)) = .ok (.d (.str (mwS x.2))) := idx1 ..
end PP
set_option Elab.async false
set_option linter.all false
set_option autoImplicit false
set_option maxRecDepth 100000
set_option maxHeartbeats 2000000
namespace PP
open PySem
def hasB (P : Pn) (s : Int × Int) : Bool := decide (P.l ≤ s.1) && decide (s.1 < P.l + P.w) && decide (P.t ≤ s.2) && decide (s.2 < P.t + P.h)
theorem hasB_iff {P : Pn} {s : Int × Int} : hasB P s = true ↔ P.has s.1 s.2 := by
  simp only [hasB, Bool.and_eq_true, decide_eq_true_eq, Pn.has]
  omega
end PP
set_option Elab.async false
set_option linter.all false
set_option autoImplicit false
set_option maxRecDepth 100000
set_option maxHeartbeats 4000000
namespace PP
open PySem
variable {T : Nat → Option Fn} {n : Nat}
section
variable {C : Nat → List R → Rs R} {ρ : Sto}
@[simp] theorem ev_ssi (a : Ex) : ev C (.ssi a) ρ = b1 (ev C a ρ) ssiR := by rw [ev]; rfl
@[simp] theorem ev_cnt (o a : Ex) : ev C (.cnt o a) ρ = b1 (b1 (ev C o ρ) cntL) (fun ks => b1 (ev C a ρ) (cntK ks)) := by
  rw [ev]; cases ev C o ρ <;> rfl
end
end PP
set_option Elab.async false
set_option linter.all false
set_option autoImplicit false
set_option maxRecDepth 100000
set_option maxHeartbeats 4000000
namespace PP
open PySem
variable {T : Nat → Option Fn} {n : Nat}
def k4 (ps : List Pn) (l t r b : Int) : Bool := knotB ps ⟨l, t, r - l, b - t⟩
def k3 (H : Int) (ps : List Pn) (l t r : Int) : Bool := (irange (t + 3) (H + 1)).any (k4 ps l t r)
def k2 (W H : Int) (ps : List Pn) (l t : Int) : Bool := (irange (l + 3) (W + 1)).any (k3 H ps l t)
def k1 (W H : Int) (ps : List Pn) (l : Int) : Bool := (irange 0 (H - 2)).any (k2 W H ps l)
end PP
set_option Elab.async false
set_option linter.all false
set_option autoImplicit false
set_option maxRecDepth 100000
set_option maxHeartbeats 4000000
namespace PP
open PySem
end PP
set_option Elab.async false
set_option linter.all false
set_option autoImplicit false
set_option maxRecDepth 100000
set_option maxHeartbeats 2000000
namespace PP
open PySem
def freeP (W H : Int) (tk : List (List Int)) : List (Int × Int) := (irange 0 H).flatMap fun r => ((irange 0 W).filter fun c => !(tk.contains [c, r])).map fun c => (r, c)
def picsU : Nat → Int → Int → List Pn → List (List Int) → List (List Pn)
  | 0, _, _, _, _ => []
  | k + 1, W, H, ps, tk => match freeP W H tk with
    | [] => [ps]
    | (t, l) :: _ => (irange (l + 1) (W + 1)).flatMap fun r => (irange (t + 1) (H + 1)).flatMap fun b =>
      if (spotsP [l, t, r - l, b - t]).any (fun s => tk.contains s) then [] else picsU k W H (ps ++ [⟨l, t, r - l, b - t⟩]) (tk ++ spotsP [l, t, r - l, b - t])
def okP : Nat → Int → Int → List Pn → List (List Int) → Bool
  | 0, _, _, _, _ => false
  | k + 1, W, H, ps, tk => decide ((picsU (k + 1) W H ps tk).length ≤ 1000) && decide (ps.length ≤ 20) && decide (tk.length ≤ 200) && match freeP W H tk with
    | [] => true
    | (t, l) :: _ => decide (0 ≤ t) && decide (0 ≤ l) && (irange (l + 1) (W + 1)).all fun r => (irange (t + 1) (H + 1)).all fun b =>
      (spotsP [l, t, r - l, b - t]).any (fun s => tk.contains s) || okP k W H (ps ++ [⟨l, t, r - l, b - t⟩]) (tk ++ spotsP [l, t, r - l, b - t])
def tilB (W H : Int) (ps : List Pn) : Bool := (ps.all fun p => decide (0 < p.w) && decide (0 < p.h) && decide (0 ≤ p.l) && decide (0 ≤ p.t) && decide (p.l + p.w ≤ W) && decide (p.t + p.h ≤ H)) &&
  (irange 0 W).all (fun x => (irange 0 H).all fun y => (ps.filter fun p => hasB p (x, y)).length == 1)
end PP
set_option Elab.async false
set_option linter.all false
set_option autoImplicit false
set_option maxRecDepth 100000
set_option maxHeartbeats 4000000
namespace PP
open PySem
variable {T : Nat → Option Fn} {n : Nat}
theorem eqvAll_int : ∀ a b : List Int, PyData.eqvAll (a.map .int) (b.map .int) = decide (a = b)
  | [], [] => rfl
  | [], _ :: _ => rfl
  | _ :: _, [] => rfl
  | x :: xs, y :: ys => by
    show (PyData.eqv (.int x) (.int y) && PyData.eqvAll (xs.map .int) (ys.map .int)) = _
    rw [eqvAll_int xs ys]
    by_cases h1 : x = y <;> by_cases h2 : xs = ys <;> simp [PyData.eqv, h1, h2]
def tkn (tk : List (List Int)) (s : List Int) : Bool := tk.contains s
theorem in_tD (s : List Int) (tk : List (List Int)) : inR (.d (tD s)) (.d (.list (tk.map tD))) = .ok (tkn tk s) := by
  have hd : (tD s).depth ≤ 60 := by
    have : PyData.depthAll (s.map .int) = 0 := by
      induction s with
      | nil => rfl
      | cons a s ih => simp [PyData.depthAll, ih, PyData.depth]
    simp [tD, PyData.depth, this]
  show (if (R.d (tD s)).isD && decide ((tD s).depth ≤ 60) then Rs.ok ((tk.map tD).any fun z => PyData.eqv z (tD s)) else .bad) = _
  rw [decide_eq_true hd]
  show Rs.ok _ = _
  congr 1
  rw [List.any_map, Bool.eq_iff_iff, List.any_eq_true, tkn, List.contains_iff_mem]
  constructor
  · rintro ⟨x, hx, e⟩
    have e : PyData.eqvAll (x.map .int) (s.map .int) = true := e
    rw [eqvAll_int, decide_eq_true_eq] at e
    rw [← e]; exact hx
  · intro hx
    refine ⟨s, hx, ?_⟩
    show PyData.eqvAll (s.map .int) (s.map .int) = true
    rw [eqvAll_int]; simp
theorem in_wt (a b : Int) (tk : List (List Int)) : inR (.d (wD a b)) (.d (.list (tk.map tD))) = .ok (tkn tk [a, b]) := in_tD [a, b] tk
theorem c_spots3 (h3 : T 3 = some f3_spots_of) (p : Pn) (h1 : -100 ≤ p.l ∧ p.l ≤ 100) (h2 : -100 ≤ p.t ∧ p.t ≤ 100) (hw : 0 ≤ p.w ∧ p.w ≤ 20) (hh : 0 ≤ p.h ∧ p.h ≤ 20) :
    call T (n + 1) 3 [.d p.D] = .ok (.l ((spotsP [p.l, p.t, p.w, p.h]).map tD)) := by
  rw [call_go h3 rfl (st := [some (.d p.D), none, none, none, none, none, none, none]) rfl]
  simp [f3_spots_of]
  refine for_go (· = _) (fun z => outK (seqK _ _ z)) (V := Option R) PyData.int (irange p.t (p.t + p.h))
    (fun pre v => [some (.d p.D), some (.l ((pre.flatMap (rowS p.l p.w)).map tD)), v, some (.d (.int p.l)), some (.d (.int p.t)), some (.d (.int p.w)), some (.d (.int p.h)), none]) (fun _ _ => True) none
    ?h1 rfl trivial ?_ ?_
  case h1 => simp; exact rngG_ok (by omega) (by omega) (by omega) (by omega)
  · rintro pre y post v hpre -
    have pl : pre.length + 1 ≤ 20 := by
      have := congrArg List.length hpre
      rw [len_irange] at this
      simp at this
      omega
    have hfl := len_flat p.l p.w pre
    have hm : pre.length * p.w.toNat ≤ 20 * 20 := Nat.mul_le_mul (by omega) (by omega)
    simp
    rw [lc_nm PyData.int (fun x => tD [x, y]) (irange p.l (p.l + p.w)) (by simp; exact rngG_ok (by omega) (by omega) (by omega) (by omega)) (by rw [len_irange, lim_eq]; omega) (by
      intro x _
      simp; rfl)]
    simp
    rw [app_ok' (by simp only [List.length_map, hfl, len_irange, lim_eq]; omega)]
    refine Nx.mk (some (.d (.int y))) ?_ trivial
    simp [rowS, List.flatMap_append]
  · rintro v -
    simp [spotsP]
structure T94 (T : Nat → Option Fn) : Prop where
  spots : T 3 = some f3_spots_of
  pics : T 94 = some f94_pictures_on
def pwD (p : Int × Int) : D := wD p.1 p.2
def picE (W H : Int) (qs : List Pn) : D := pcD W H (srtP qs)
theorem idxb0 (a : D) (xs : List D) : idxR (.b (a :: xs)) (.d (.int 0)) = .ok (.d a) := by
  exact (idxL_nat (xs := a :: xs) (k := 0) rfl : idxR (.d (.list (a :: xs))) (.d (.int 0)) = _)
theorem sorted_DL {ps : List Pn} (hl : ps.length ≤ lim) : bltR .sorted [.d (.list (ps.map Pn.D))] = .ok (.l ((srtP ps).map Pn.D)) := by
  show (sortR (ps.map Pn.D) >>= fun ys => Rs.ok (R.l ys)) = _
  rw [sortR_D hl]; rfl
theorem tup_L (xs : List D) : bltR .tuple [.l xs] = .ok (.d (.tuple xs)) := id rfl
theorem add_LL2 {xs ys : List D} (h : xs.length + ys.length ≤ 1000) : binR .add (.d (.list xs)) (.d (.list ys)) = .ok (.l (xs ++ ys)) := by
  show fit (xs.length + ys.length) (Rs.ok (R.l (xs ++ ys))) = _
  rw [fit_ok (by rw [lim_eq]; omega)]
theorem free_rows {W H : Int} {tk : List (List Int)} : ∀ p ∈ freeP W H tk, (0 ≤ p.1 ∧ p.1 < H) ∧ (0 ≤ p.2 ∧ p.2 < W) := by
  intro p hp
  simp only [freeP, List.mem_flatMap, List.mem_map, List.mem_filter, mem_irange] at hp
  obtain ⟨r, hr, c, ⟨hc, _⟩, rfl⟩ := hp
  exact ⟨hr, hc⟩
theorem flat_le1 {α β : Type} {f : α → List β} {pre post : List α} {a : α} : (pre.flatMap f).length + (f a).length ≤ ((pre ++ a :: post).flatMap f).length := by
  rw [List.flatMap_append, List.length_append, List.flatMap_cons, List.length_append]; omega
def frF (tk : List (List Int)) (r c : Int) : Bool := !(tkn tk [c, r])
def frRow (W : Int) (tk : List (List Int)) (r : Int) : List (Int × Int) := ((irange 0 W).filter (frF tk r)).map fun c => (r, c)
theorem freeP_eq (W H : Int) (tk : List (List Int)) : freeP W H tk = (irange 0 H).flatMap (frRow W tk) := rfl
theorem frRow_len {W : Int} (hW : 1 ≤ W ∧ W ≤ 6) (tk : List (List Int)) (r : Int) : (frRow W tk r).length ≤ 6 := by
  unfold frRow
  rw [List.length_map]
  have := List.length_filter_le (frF tk r) (irange 0 W)
  rw [len_irange] at this
  omega
def hit (tk S : List (List Int)) : Bool := S.any (tkn tk)
def piece (k : Nat) (W H : Int) (ps : List Pn) (tk : List (List Int)) (l t r b : Int) : List (List Pn) :=
  if hit tk (spotsP [l, t, r - l, b - t]) then [] else picsU k W H (ps ++ [⟨l, t, r - l, b - t⟩]) (tk ++ spotsP [l, t, r - l, b - t])
def rowp (k : Nat) (W H : Int) (ps : List Pn) (tk : List (List Int)) (l t r : Int) : List (List Pn) := (irange (t + 1) (H + 1)).flatMap (piece k W H ps tk l t r)
theorem c_pics (h : T94 T) {W H : Int} (hW : 1 ≤ W ∧ W ≤ 6) (hH : 1 ≤ H ∧ H ≤ 6) : ∀ (k : Nat) (ps : List Pn) (tk : List (List Int)) (n : Nat), okP k W H ps tk = true → k + 2 ≤ n →
    call T n 94 [.d (wD W H), .d (.list (ps.map Pn.D)), .d (.list (tk.map tD))] = .ok (.l ((picsU k W H ps tk).map (picE W H)))
  | 0, ps, tk, n, hk, hn => by simp [okP] at hk
  | k + 1, ps, tk, n, hk, hn => by
    obtain ⟨m, rfl⟩ : ∃ m, n = m + 2 := ⟨n - 2, by omega⟩
    unfold okP at hk
    rw [Bool.and_eq_true, Bool.and_eq_true, Bool.and_eq_true, decide_eq_true_eq, decide_eq_true_eq, decide_eq_true_eq] at hk
    obtain ⟨⟨⟨hlen, hps⟩, htk⟩, hk⟩ := hk
    rw [call_go h.pics rfl (st := [some (.d (wD W H)), some (.d (.list (ps.map Pn.D))), some (.d (.list (tk.map tD))), none, none, none, none, none, none, none, none, none, none, none, none, none]) rfl]
    simp [f94_pictures_on]
    refine for_go (· = _) (fun z => outK (seqK _ _ z)) (V := Option R) PyData.int (irange 0 H)
      (fun pre v => [some (.d (wD W H)), some (.d (.list (ps.map Pn.D))), some (.d (.list (tk.map tD))), some (.l ((pre.flatMap (frRow W tk)).map pwD)), v, none, none, some (.d (.int W)), some (.d (.int H)), none, none, none, none, none, none, none]) (fun _ _ => True) none
      ?h1 rfl trivial ?_ ?_
    case h1 => simp; exact rngF_ok (by omega) (by omega)
    · rintro pre r post v hpre -
      have pl : pre.length + 1 ≤ 6 := by
        have := congrArg List.length hpre
        rw [len_irange] at this
        simp at this
        omega
      have hfl : (pre.flatMap (frRow W tk)).length ≤ pre.length * 6 := flatMap_le pre (fun a _ => frRow_len hW tk a)
      have hf2 := frRow_len hW tk r
      simp
      rw [lcf_nm PyData.int (frF tk r) (fun c => pwD (r, c)) (irange 0 W) (by simp; exact rngF_ok (by omega) (by omega)) (by rw [len_irange, lim_eq]; omega) (by
        intro c _
        simp [in_wt, pwD, frF])]
      rw [show ((irange 0 W).filter (frF tk r)).map (fun c => pwD (r, c)) = (frRow W tk r).map pwD by simp [frRow]]
      simp
      rw [app_ok' (by simp only [List.length_map, lim_eq]; omega)]
      refine Nx.mk (some (.d (.int r))) ?_ trivial
      simp [List.flatMap_append]
    · rintro v -
      rw [← freeP_eq]
      have hfr := free_rows (W := W) (H := H) (tk := tk)
      cases hf : freeP W H tk with
      | nil =>
        have es := sorted_DL (ps := ps) (by rw [lim_eq]; omega)
        simp [es, tup_L, picsU, hf, picE, pcD]
      | cons p0 fr =>
        obtain ⟨t, l⟩ := p0
        rw [hf] at hfr hk
        obtain ⟨ht, hl⟩ := hfr (t, l) (List.mem_cons_self ..)
        simp only at ht hl hk
        rw [Bool.and_eq_true, Bool.and_eq_true] at hk
        have hk := hk.2
        rw [List.all_eq_true] at hk
        have hu : picsU (k + 1) W H ps tk = (irange (l + 1) (W + 1)).flatMap (rowp k W H ps tk l t) := by
          rw [picsU, hf]; rfl
        rw [hu] at hlen ⊢
        have i0 : idxR (.b (((t, l) :: fr).map pwD)) (.d (.int 0)) = .ok (.d (wD t l)) := idxb0 ..
        have e0 : (((t, l) :: fr).map pwD).isEmpty = false := rfl
        generalize ((t, l) :: fr).map pwD = FR at i0 e0 ⊢
        simp [i0, e0]
        refine for_go (· = _) (fun z => outK (seqK _ _ z)) (V := Option R × Option R × Option R × Option R) PyData.int (irange (l + 1) (W + 1))
          (fun pre u => [some (.d (wD W H)), some (.d (.list (ps.map Pn.D))), some (.d (.list (tk.map tD))), some (.l FR), v, some (.l ((pre.flatMap (rowp k W H ps tk l t)).map (picE W H))), u.1, some (.d (.int W)), some (.d (.int H)), some (.d (.int t)), some (.d (.int l)), u.2.1, u.2.2.1, u.2.2.2, none, none]) (fun _ _ => True) (none, none, none, none)
          ?h2 rfl trivial ?_ ?_
        case h2 => simp; exact rngG_ok (by omega) (by omega) (by omega) (by omega)
        · rintro pre r post ⟨u6, u11, u12, u13⟩ hpre -
          have hr : r ∈ irange (l + 1) (W + 1) := by rw [← hpre]; simp
          have hkr := hk r hr
          rw [List.all_eq_true] at hkr
          rw [mem_irange] at hr
          simp
          generalize hA : pre.flatMap (rowp k W H ps tk l t) = A
          have hAl : A.length + (rowp k W H ps tk l t r).length ≤ 1000 := by
            rw [← hA]
            refine Nat.le_trans ?_ hlen
            rw [← hpre]
            exact flat_le1
          refine for_go (Nx _ _) (fun z => seqK _ _ z) (V := Option R × Option R × Option R) PyData.int (irange (t + 1) (H + 1))
            (fun pre2 u => [some (.d (wD W H)), some (.d (.list (ps.map Pn.D))), some (.d (.list (tk.map tD))), some (.l FR), v, some (.l ((A ++ pre2.flatMap (piece k W H ps tk l t r)).map (picE W H))), some (.d (.int r)), some (.d (.int W)), some (.d (.int H)), some (.d (.int t)), some (.d (.int l)), u.1, u.2.1, u.2.2, none, none]) (fun _ _ => True) (u11, u12, u13)
            ?h3 (by simp) trivial ?_ ?_
          case h3 => simp; exact rngG_ok (by omega) (by omega) (by omega) (by omega)
          · rintro pre2 b post2 ⟨w11, w12, w13⟩ hpre2 -
            have hb : b ∈ irange (t + 1) (H + 1) := by rw [← hpre2]; simp
            have hkb := hkr b hb
            rw [mem_irange] at hb
            have esp := c_spots3 (n := m) h.spots ⟨l, t, r - l, b - t⟩ (by simp only; omega) (by simp only; omega) (by simp only; omega) (by simp only; omega)
            simp only at esp
            have hsl : (spotsP [l, t, r - l, b - t]).length ≤ 36 := by
              rw [len_spots]
              have : (b - t).toNat * (r - l).toNat ≤ 6 * 6 := Nat.mul_le_mul (by omega) (by omega)
              omega
            have hpc : piece k W H ps tk l t r b = if hit tk (spotsP [l, t, r - l, b - t]) then [] else picsU k W H (ps ++ [⟨l, t, r - l, b - t⟩]) (tk ++ spotsP [l, t, r - l, b - t]) := rfl
            have hkb : (hit tk (spotsP [l, t, r - l, b - t]) || okP k W H (ps ++ [⟨l, t, r - l, b - t⟩]) (tk ++ spotsP [l, t, r - l, b - t])) = true := hkb
            have am := any_map (tkn tk) (spotsP [l, t, r - l, b - t])
            rw [show ((spotsP [l, t, r - l, b - t]).any (tkn tk)) = hit tk (spotsP [l, t, r - l, b - t]) from rfl] at am
            have z := flat_le1 (f := piece k W H ps tk l t r) (pre := pre2) (post := post2) (a := b)
            rw [hpre2, show (irange (t + 1) (H + 1)).flatMap (piece k W H ps tk l t r) = rowp k W H ps tk l t r from rfl] at z
            simp [esp, -List.map_append]
            generalize spotsP [l, t, r - l, b - t] = S at *
            rw [lc_nm tD (fun s => PyData.bool (tkn tk s)) S (by simp) (by rw [lim_eq]; omega) (by
              intro s _
              simp [in_tD])]
            cases hany : hit tk S with
            | true =>
              rw [hany] at am hpc
              simp [am, -any_map, -List.map_append]
              refine Nx.mk (some (R.d (.int b)), some (R.d (Pn.mk l t (r - l) (b - t)).D), some (R.d (.list (S.map tD)))) ?_ trivial
              simp [hpc, List.flatMap_append]
            | false =>
              rw [hany] at am hpc hkb
              rw [Bool.false_or] at hkb
              have ih := c_pics h hW hH k (ps ++ [⟨l, t, r - l, b - t⟩]) (tk ++ S) (m + 1) hkb (by omega)
              have a1 : binR .add (.d (.list (ps.map Pn.D))) (.l [(Pn.mk l t (r - l) (b - t)).D]) = .ok (.l ((ps ++ [Pn.mk l t (r - l) (b - t)]).map Pn.D)) := by
                rw [add_Ll (by simp; omega)]; simp
              have a2 : binR .add (.d (.list (tk.map tD))) (.d (.list (S.map tD))) = .ok (.l ((tk ++ S).map tD)) := by
                rw [add_LL2 (by simp only [List.length_map]; omega)]; simp
              rw [if_neg (by simp)] at hpc
              rw [hpc] at z
              simp [am, -any_map, a1, a2, ih, -List.map_append]
              rw [app_ok' (by rw [List.length_map, List.length_map, List.length_append, lim_eq]; omega)]
              refine Nx.mk (some (R.d (.int b)), some (R.d (Pn.mk l t (r - l) (b - t)).D), some (R.d (.list (S.map tD)))) ?_ trivial
              simp [hpc, List.flatMap_append]
          · rintro ⟨w11, w12, w13⟩ -
            simp [-List.map_append]
            refine Nx.mk (some (R.d (.int r)), w11, w12, w13) ?_ trivial
            rw [← hA]
            simp [List.flatMap_append, rowp]
        · rintro ⟨u6, u11, u12, u13⟩ -
          simp
end PP
set_option Elab.async false
set_option linter.all false
set_option autoImplicit false
set_option maxRecDepth 100000
set_option maxHeartbeats 4000000
namespace PP
open PySem
end PP
set_option Elab.async false
set_option linter.all false
set_option autoImplicit false
set_option maxRecDepth 100000
set_option maxHeartbeats 4000000
namespace PP
open PySem
end PP
set_option Elab.async false
set_option linter.all false
set_option autoImplicit false
set_option maxRecDepth 100000
set_option maxHeartbeats 4000000
namespace PP
open PySem
variable {T : Nat → Option Fn} {n : Nat}
theorem alikeAll_D : ∀ ps qs : List Pn, PySem.W.alikeAll (ps.map Pn.D) (qs.map Pn.D) = true
  | [], [] => rfl
  | [], _ :: _ => by simp [PySem.W.alikeAll]
  | _ :: _, [] => by simp [PySem.W.alikeAll]
  | p :: ps, q :: qs => by
    have h1 : PySem.W.alike p.D q.D = true := alike_tD p.L q.L
    have h2 := alikeAll_D ps qs
    simp only [List.map_cons, PySem.W.alikeAll, h1, h2, Bool.and_self]
theorem alike_pic (W H : Int) (a b : List Pn) : PySem.W.alike (picE W H a) (picE W H b) = true := by
  have h1 : PySem.W.alike (wD W H) (wD W H) = true := alike_tD [W, H] [W, H]
  have h2 := alikeAll_D (srtP a) (srtP b)
  have h3 : PySem.W.alike (.tuple ((srtP a).map Pn.D)) (.tuple ((srtP b).map Pn.D)) = true := h2
  show PySem.W.alikeAll [wD W H, .tuple ((srtP a).map Pn.D)] [wD W H, .tuple ((srtP b).map Pn.D)] = true
  simp only [PySem.W.alikeAll, h1, h3, Bool.and_self]
def srtG (W H : Int) (L : List (List Pn)) : List (List Pn) := L.mergeSort fun a b => PySem.W.dataLe false id (picE W H a) (picE W H b)
theorem srtG_enc (W H : Int) (L : List (List Pn)) : (srtG W H L).map (picE W H) = sortD (L.map (picE W H)) :=
  PySem.W.sort_maps (r := fun a b : List Pn => PySem.W.dataLe false id (picE W H a) (picE W H b)) (s := PySem.W.dataLe false id) (picE W H) (l := L) (fun _ _ _ _ => rfl)
theorem srtG_perm (W H : Int) (L : List (List Pn)) : (srtG W H L).Perm L := List.mergeSort_perm L _
theorem sorted_pic {W H : Int} {L : List (List Pn)} (hl : L.length ≤ lim) : bltR .sorted [.l (L.map (picE W H))] = .ok (.l ((srtG W H L).map (picE W H))) := by
  show (sortR (L.map (picE W H)) >>= fun ys => Rs.ok (R.l ys)) = _
  have : sortOk (L.map (picE W H)) = true := by
    unfold sortOk
    simp only [Bool.and_eq_true, Bool.or_eq_true, List.all_eq_true, List.mem_map, decide_eq_true_eq, List.length_map]
    refine ⟨⟨⟨?_, ?_⟩, hl⟩, .inl ?_⟩
    · rintro _ ⟨p, _, rfl⟩ _ ⟨q, _, rfl⟩
      exact alike_pic W H p q
    · rintro _ ⟨p, hp, rfl⟩
      have := depth_pc W H (srtP p)
      show (pcD W H (srtP p)).depth ≤ 60
      omega
    · rintro _ ⟨p, hp, rfl⟩
      rfl
  unfold sortR
  rw [this, if_pos rfl, srtG_enc]; rfl
theorem til_of {W H : Int} {ps : List Pn} (h : tilB W H ps = true) (nd : ps.Nodup) : Til ⟨0, 0, W, H⟩ ps := by
  unfold tilB at h
  rw [Bool.and_eq_true, List.all_eq_true, List.all_eq_true] at h
  obtain ⟨h1, h2⟩ := h
  have inn : ∀ p ∈ ps, p.pos ∧ p.sub ⟨0, 0, W, H⟩ := fun p hp => by
    have := h1 p hp
    simp only [Bool.and_eq_true, decide_eq_true_eq] at this
    simp only [Pn.pos, Pn.sub]; omega
  have one : ∀ x y, Pn.has ⟨0, 0, W, H⟩ x y → (ps.filter fun p => hasB p (x, y)).length = 1 := fun x y hx => by
    have a := h2 x (mem_irange.mpr (by simp only [Pn.has] at hx; omega))
    rw [List.all_eq_true] at a
    have b := a y (mem_irange.mpr (by simp only [Pn.has] at hx; omega))
    exact eq_of_beq b
  refine ⟨inn, fun p hp q hq x y hx hy => ?_, nd, fun x y hx => ?_⟩
  · have hs := (inn p hp).2
    have := one x y (by simp only [Pn.has, Pn.sub] at *; omega)
    obtain ⟨z, hz⟩ := List.length_eq_one_iff.mp this
    have a : p ∈ ps.filter fun p => hasB p (x, y) := List.mem_filter.mpr ⟨hp, hasB_iff.mpr hx⟩
    have b : q ∈ ps.filter fun p => hasB p (x, y) := List.mem_filter.mpr ⟨hq, hasB_iff.mpr hy⟩
    rw [hz] at a b
    rw [List.mem_singleton.mp a, List.mem_singleton.mp b]
  · have := one x y hx
    obtain ⟨z, hz⟩ := List.length_eq_one_iff.mp this
    have a : z ∈ ps.filter fun p => hasB p (x, y) := by rw [hz]; simp
    obtain ⟨a1, a2⟩ := List.mem_filter.mp a
    exact ⟨z, a1, hasB_iff.mp a2⟩
theorem nd_of {W H : Int} {ps : List Pn} (h : tilB W H ps = true) : ps.Nodup := by
  unfold tilB at h
  rw [Bool.and_eq_true, List.all_eq_true, List.all_eq_true] at h
  obtain ⟨h1, h2⟩ := h
  rw [List.nodup_iff_count]
  intro p
  refine Classical.byContradiction fun hc => ?_
  have hp : p ∈ ps := List.count_pos_iff.mp (by omega)
  have hb := h1 p hp
  simp only [Bool.and_eq_true, decide_eq_true_eq] at hb
  have a := h2 p.l (mem_irange.mpr (by omega))
  rw [List.all_eq_true] at a
  have b : (ps.filter fun q => hasB q (p.l, p.t)).length = 1 := eq_of_beq (a p.t (mem_irange.mpr (by omega)))
  have c : (ps.filter fun q => hasB q (p.l, p.t)).count p = ps.count p := List.count_filter (hasB_iff.mpr (by simp only [Pn.has]; omega))
  have d := List.count_le_length (a := p) (l := ps.filter fun q => hasB q (p.l, p.t))
  omega
theorem knot_permN {P : Pn} {ps qs : List Pn} (h : Til P ps) (hP : P.pos) (hl : ps.length ≤ 9) (e : ps.Perm qs) : (knotF 9 P ps = none ↔ knotF 9 P qs = none) := by
  have h2 := h.perm e
  have hl2 : qs.length ≤ 9 := by rw [← e.length_eq]; exact hl
  have k1 := knot_iff h hP (k := 9) hl
  have k2 := knot_iff h2 hP (k := 9) hl2
  have m1 := mem_treesF 9 P ps h hP hl
  have m2 := mem_treesF 9 P qs h2 hP hl2
  have tt : treesF 9 P ps = [] ↔ treesF 9 P qs = [] := by
    rw [List.eq_nil_iff_forall_not_mem, List.eq_nil_iff_forall_not_mem]
    constructor
    · intro z t ht
      obtain ⟨a, b⟩ := (m2 t).mp ht
      exact z t ((m1 t).mpr ⟨a, b.trans e.symm⟩)
    · intro z t ht
      obtain ⟨a, b⟩ := (m1 t).mp ht
      exact z t ((m2 t).mpr ⟨a, b.trans e⟩)
  constructor
  · intro z
    refine Classical.byContradiction fun q => ?_
    exact k1.mp (tt.mpr (k2.mpr q)) z
  · intro z
    refine Classical.byContradiction fun q => ?_
    exact k2.mp (tt.mp (k1.mpr q)) z
theorem c_knot9 (h : TC0 T) (h43 : T 43 = some f43_knot_in) (h47 : T 47 = some f47_knot) {W H : Int} (hW : 1 ≤ W ∧ W ≤ 6) (hH : 1 ≤ H ∧ H ≤ 6) {ps : List Pn} (ht : Til ⟨0, 0, W, H⟩ ps) (hl : ps.length ≤ 9) :
    call T (n + 13) 47 [.d (pcD W H ps)] = .ok (.d (optD (knotF 9 ⟨0, 0, W, H⟩ ps))) := by
  have e := c_knot_in0 h h43 9 ⟨0, 0, W, H⟩ true ps (n + 12) ht (by simp only [PnW]; omega) hl hl (by omega)
  simp only [sq] at e
  rw [call_go h47 rfl (st := [some (.d (pcD W H ps))]) rfl]
  simp [f47_knot, e]
structure T21 (T : Nat → Option Fn) : Prop where
  p : T94 T
  all : T 95 = some f95_all_pictures
  count : T 97 = some f97_count_pictures
  cut : T 98 = some f98_count_cut
  c : TC0 T
  knot_in : T 43 = some f43_knot_in
  knot : T 47 = some f47_knot
theorem c_all (h : T21 T) {W H : Int} (hW : 1 ≤ W ∧ W ≤ 6) (hH : 1 ≤ H ∧ H ≤ 6) (hk : okP 10 W H [] [] = true) : call T (n + 13) 95 [.d (wD W H)] = .ok (.d (.tuple ((srtG W H (picsU 10 W H [] [])).map (picE W H)))) := by
  have e : call T (n + 12) 94 [.d (wD W H), .d (.list []), .d (.list [])] = .ok (.l ((picsU 10 W H [] []).map (picE W H))) := c_pics h.p hW hH 10 [] [] (n + 12) hk (by omega)
  have hl : (picsU 10 W H [] []).length ≤ 1000 := by
    unfold okP at hk
    rw [Bool.and_eq_true, Bool.and_eq_true, Bool.and_eq_true, decide_eq_true_eq] at hk
    exact hk.1.1.1
  rw [call_go h.all rfl (st := [some (.d (wD W H))]) rfl]
  simp [f95_all_pictures, e, sorted_pic (L := picsU 10 W H [] []) (by rw [lim_eq]; omega), tup_L]
theorem c_count21 (h : T21 T) {W H : Int} (hW : 1 ≤ W ∧ W ≤ 6) (hH : 1 ≤ H ∧ H ≤ 6) (hk : okP 10 W H [] [] = true) : call T (n + 14) 97 [.d (wD W H)] = .ok (.d (.int (picsU 10 W H [] []).length)) := by
  have e := c_all (n := n) h hW hH hk
  rw [call_go h.count rfl (st := [some (.d (wD W H))]) rfl]
  simp [f97_count_pictures, e, (srtG_perm W H _).length_eq]
theorem c_cut (h : T21 T) {W H : Int} (hW : 1 ≤ W ∧ W ≤ 6) (hH : 1 ≤ H ∧ H ≤ 6) (hk : okP 10 W H [] [] = true) (ht : ∀ ps ∈ picsU 10 W H [] [], tilB W H ps = true ∧ ps.length ≤ 9) :
    call T (n + 14) 98 [.d (wD W H)] = .ok (.d (.int ((picsU 10 W H [] []).filter fun ps => decide (knotF 9 ⟨0, 0, W, H⟩ ps = none)).length)) := by
  have e := c_all (n := n) h hW hH hk
  have hl : (picsU 10 W H [] []).length ≤ 1000 := by
    unfold okP at hk
    rw [Bool.and_eq_true, Bool.and_eq_true, Bool.and_eq_true, decide_eq_true_eq] at hk
    exact hk.1.1.1
  have hp := srtG_perm W H (picsU 10 W H [] [])
  rw [call_go h.cut rfl (st := [some (.d (wD W H)), none]) rfl]
  simp [f98_count_cut]
  rw [lcf_nm (picE W H) (fun ps => decide (knotF 9 ⟨0, 0, W, H⟩ ps = none)) (picE W H) (srtG W H (picsU 10 W H [] [])) (by simp [e]) (by rw [hp.length_eq, lim_eq]; omega) (by
    intro ps hps
    obtain ⟨t1, t2⟩ := ht ps (hp.mem_iff.mp hps)
    have til := til_of t1 (nd_of t1)
    have tl2 := til.perm (srtP_perm ps).symm
    have ek := c_knot9 (n := n) h.c h.knot_in h.knot hW hH tl2 (by rw [(srtP_perm ps).length_eq]; exact t2)
    have kp := knot_permN til (by simp only [Pn.pos]; omega) t2 (srtP_perm ps).symm
    have ek' : call T (n + 13) 47 [.d (picE W H ps)] = .ok (.d (optD (knotF 9 ⟨0, 0, W, H⟩ (srtP ps)))) := ek
    cases z : knotF 9 ⟨0, 0, W, H⟩ (srtP ps) with
    | none =>
      rw [z] at ek'
      have := kp.mpr z
      simp [ek', optD, this]
    | some Q =>
      rw [z] at ek'
      have : ¬ knotF 9 ⟨0, 0, W, H⟩ ps = none := fun q => by rw [kp.mp q] at z; cases z
      simp [ek', optD, this])]
  simp [(hp.filter _).length_eq]
end PP
set_option Elab.async false
set_option linter.all false
set_option autoImplicit false
set_option maxRecDepth 100000
set_option maxHeartbeats 4000000
namespace PP
open PySem
def Cov (ps : List Pn) (tk : List (List Int)) : Prop := ∀ x y : Int, [x, y] ∈ tk ↔ ∃ p ∈ ps, p.has x y
theorem Cov.more {ps : List Pn} {tk : List (List Int)} (h : Cov ps tk) (q : Pn) : Cov (ps ++ [q]) (tk ++ spotsP q.L) := fun x y => by
  rw [List.mem_append, h x y, spots_has]
  constructor
  · rintro (⟨p, hp, z⟩ | ⟨x', y', e, z⟩)
    · exact ⟨p, List.mem_append_left _ hp, z⟩
    · simp only [List.cons.injEq, and_true] at e
      obtain ⟨rfl, rfl⟩ := e
      exact ⟨q, by simp, z⟩
  · rintro ⟨p, hp, z⟩
    rcases List.mem_append.mp hp with hp | hp
    · exact .inl ⟨p, hp, z⟩
    · rw [List.mem_singleton.mp hp] at z
      exact .inr ⟨x, y, rfl, z⟩
theorem mem_freeP {W H : Int} {tk : List (List Int)} {r c : Int} : (r, c) ∈ freeP W H tk ↔ ((0 ≤ r ∧ r < H) ∧ (0 ≤ c ∧ c < W)) ∧ [c, r] ∉ tk := by
  simp only [freeP, List.mem_flatMap, List.mem_map, List.mem_filter, mem_irange, Prod.mk.injEq, Bool.not_eq_true', List.contains_eq_mem, decide_eq_false_iff_not]
  constructor
  · rintro ⟨r', hr, c', ⟨hc, hn⟩, rfl, rfl⟩
    exact ⟨⟨hr, hc⟩, hn⟩
  · rintro ⟨⟨hr, hc⟩, hn⟩
    exact ⟨r, hr, c, ⟨hc, hn⟩, rfl, rfl⟩
theorem freeP_lex (W H : Int) (tk : List (List Int)) : (freeP W H tk).Pairwise fun a b => a.1 < b.1 ∨ (a.1 = b.1 ∧ a.2 < b.2) := by
  rw [freeP, List.pairwise_flatMap]
  refine ⟨fun r _ => ?_, ?_⟩
  · rw [List.pairwise_map]
    exact ((irange_lt 0 W).filter _).imp fun h => .inr ⟨rfl, h⟩
  · refine (irange_lt 0 H).imp fun {a b} h x hx y hy => ?_
    obtain ⟨_, _, rfl⟩ := List.mem_map.mp hx
    obtain ⟨_, _, rfl⟩ := List.mem_map.mp hy
    exact .inl h
theorem freeP_first {W H : Int} {tk : List (List Int)} {t l : Int} {fr : List (Int × Int)} (e : freeP W H tk = (t, l) :: fr) {r c : Int} (h : (r, c) ∈ freeP W H tk) : t < r ∨ (t = r ∧ l ≤ c) := by
  have p := freeP_lex W H tk
  rw [e] at p h
  rcases List.mem_cons.mp h with h | h
  · cases h; exact .inr ⟨rfl, Int.le_refl _⟩
  · rcases (List.pairwise_cons.mp p).1 _ h with z | z
    · exact .inl z
    · exact .inr ⟨z.1, Int.le_of_lt z.2⟩
theorem picsU_cons {W H : Int} {tk : List (List Int)} {t l : Int} {fr : List (Int × Int)} (e : freeP W H tk = (t, l) :: fr) (k : Nat) (ps : List Pn) : picsU (k + 1) W H ps tk = (irange (l + 1) (W + 1)).flatMap (rowp k W H ps tk l t) := by
  rw [picsU, e]; rfl
theorem picsU_all : ∀ (k : Nat) (W H : Int) (ps : List Pn) (tk : List (List Int)) (rest : List Pn), okP k W H ps tk = true → Cov ps tk → Til ⟨0, 0, W, H⟩ (ps ++ rest) → ∃ qs ∈ picsU k W H ps tk, qs.Perm (ps ++ rest)
  | 0, _, _, _, _, _, h, _, _ => by simp [okP] at h
  | k + 1, W, H, ps, tk, rest, h, cv, til => by
    unfold okP at h
    rw [Bool.and_eq_true] at h
    have ok := h.2
    have out : ∀ q ∈ rest, ∀ x y, q.has x y → [x, y] ∉ tk := fun q hq x y hx z => by
      obtain ⟨p, hp, z⟩ := (cv x y).mp z
      have e := til.dis p (List.mem_append_left _ hp) q (List.mem_append_right _ hq) x y z hx
      subst e
      exact (List.nodup_append.mp til.nd).2.2 _ hp _ hq rfl
    have corner : ∀ q ∈ rest, (q.t, q.l) ∈ freeP W H tk := fun q hq => by
      obtain ⟨i1, i2⟩ := til.inn q (List.mem_append_right _ hq)
      simp only [Pn.pos, Pn.sub] at i1 i2
      exact mem_freeP.mpr ⟨by omega, out q hq _ _ (by simp only [Pn.has]; omega)⟩
    cases e : freeP W H tk with
    | nil =>
      have : rest = [] := List.eq_nil_iff_forall_not_mem.mpr fun q hq => by
        have := corner q hq
        rw [e] at this; cases this
      subst this
      exact ⟨ps, by rw [picsU, e]; simp, by simp⟩
    | cons p0 fr =>
      obtain ⟨t, l⟩ := p0
      have hm : (t, l) ∈ freeP W H tk := by rw [e]; simp
      obtain ⟨hb, hn⟩ := mem_freeP.mp hm
      obtain ⟨q, hq, hh⟩ := til.cov l t (by simp only [Pn.has]; omega)
      have hq : q ∈ rest := by
        rcases List.mem_append.mp hq with z | z
        · exact absurd ((cv l t).mpr ⟨q, z, hh⟩) hn
        · exact z
      have first := freeP_first e (corner q hq)
      obtain ⟨i1, i2⟩ := til.inn q (List.mem_append_right _ hq)
      obtain ⟨ql, qt, qw, qh⟩ := q
      simp only [Pn.has, Pn.pos, Pn.sub] at hh i1 i2 first
      have e1 : ql = l := by omega
      have e2 : qt = t := by omega
      subst e1; subst e2
      have eq0 : (⟨ql, qt, ql + qw - ql, qt + qh - qt⟩ : Pn) = ⟨ql, qt, qw, qh⟩ := by congr 1 <;> omega
      have hr : ql + qw ∈ irange (ql + 1) (W + 1) := mem_irange.mpr (by omega)
      have hb2 : qt + qh ∈ irange (qt + 1) (H + 1) := mem_irange.mpr (by omega)
      have hit0 : hit tk (spotsP [ql, qt, ql + qw - ql, qt + qh - qt]) = false := by
        unfold hit
        rw [List.any_eq_false]
        intro s hs z
        rw [mem_spots] at hs
        obtain ⟨x, y, rfl, c⟩ := hs
        exact out _ hq x y (by simp only [Pn.has]; omega) (by simpa [tkn] using z)
      rw [e] at ok
      simp only [Bool.and_eq_true, List.all_eq_true] at ok
      have ok1 := ok.2 _ hr _ hb2
      rw [Bool.or_eq_true] at ok1
      have ok2 : okP k W H (ps ++ [⟨ql, qt, ql + qw - ql, qt + qh - qt⟩]) (tk ++ spotsP [ql, qt, ql + qw - ql, qt + qh - qt]) = true := by
        rcases ok1 with z | z
        · have : hit tk (spotsP [ql, qt, ql + qw - ql, qt + qh - qt]) = true := z
          rw [hit0] at this; cases this
        · exact z
      have pm : (ps ++ rest).Perm ((ps ++ [(⟨ql, qt, qw, qh⟩ : Pn)]) ++ rest.erase ⟨ql, qt, qw, qh⟩) := by
        rw [List.append_assoc]
        exact (List.perm_cons_erase hq).append_left ps
      have ih := picsU_all k W H _ _ (rest.erase ⟨ql, qt, qw, qh⟩) ok2 (by rw [eq0]; have := cv.more ⟨ql, qt, qw, qh⟩; rw [Pn.L] at this; simpa only [show ql + qw - ql = qw by omega, show qt + qh - qt = qh by omega] using this) (by rw [eq0]; exact til.perm pm)
      rw [eq0] at ih
      obtain ⟨qs, h1, h2⟩ := ih
      refine ⟨qs, ?_, h2.trans pm.symm⟩
      rw [picsU_cons e]
      refine List.mem_flatMap.mpr ⟨_, hr, List.mem_flatMap.mpr ⟨_, hb2, ?_⟩⟩
      unfold piece
      rw [hit0, if_neg (by decide), eq0]
      exact h1
theorem picsU_pre : ∀ (k : Nat) (W H : Int) (ps : List Pn) (tk : List (List Int)), ∀ x ∈ picsU k W H ps tk, ∀ p ∈ ps, p ∈ x
  | 0, _, _, _, _, x, h, _, _ => by simp [picsU] at h
  | k + 1, W, H, ps, tk, x, h, p, hp => by
    cases e : freeP W H tk with
    | nil =>
      rw [picsU, e] at h
      rw [List.mem_singleton.mp h]; exact hp
    | cons p0 fr =>
      obtain ⟨t, l⟩ := p0
      rw [picsU_cons e] at h
      obtain ⟨r, _, h⟩ := List.mem_flatMap.mp h
      obtain ⟨b, _, h⟩ := List.mem_flatMap.mp h
      unfold piece at h
      split at h
      · cases h
      · exact picsU_pre k W H _ _ x h p (List.mem_append_left _ hp)
theorem piece_mem {k : Nat} {W H : Int} {ps : List Pn} {tk : List (List Int)} {l t r b : Int} {x : List Pn} (h : x ∈ piece k W H ps tk l t r b) : (⟨l, t, r - l, b - t⟩ : Pn) ∈ x := by
  unfold piece at h
  split at h
  · cases h
  · exact picsU_pre k W H _ _ x h _ (by simp)
theorem piece_two {k : Nat} {W H : Int} {ps : List Pn} {tk : List (List Int)} {l t r b r' b' : Int} {x y : List Pn} (hx : x ∈ piece k W H ps tk l t r b) (hy : y ∈ piece k W H ps tk l t r' b') (c1 : l < r ∧ t < b) (c2 : l < r' ∧ t < b') (til : tilB W H x = true) (e : x.Perm y) : r = r' ∧ b = b' := by
  have m1 := piece_mem hx
  have m2 := e.mem_iff.mpr (piece_mem hy)
  have := (til_of til (nd_of til)).dis _ m1 _ m2 l t (by simp only [Pn.has]; omega) (by simp only [Pn.has]; omega)
  simp only [Pn.mk.injEq] at this
  omega
theorem picsU_dif : ∀ (k : Nat) (W H : Int) (ps : List Pn) (tk : List (List Int)), (picsU k W H ps tk).Pairwise fun x y => tilB W H x = true → ¬ x.Perm y
  | 0, _, _, _, _ => List.Pairwise.nil
  | k + 1, W, H, ps, tk => by
    cases e : freeP W H tk with
    | nil => rw [picsU, e]; exact List.pairwise_singleton _ _
    | cons p0 fr =>
      obtain ⟨t, l⟩ := p0
      rw [picsU_cons e, List.pairwise_flatMap]
      refine ⟨fun r hr => ?_, ?_⟩
      · rw [mem_irange] at hr
        rw [rowp, List.pairwise_flatMap]
        refine ⟨fun b hb => ?_, ?_⟩
        · unfold piece
          split
          · exact List.Pairwise.nil
          · exact picsU_dif k W H _ _
        · refine (irange_lt (t + 1) (H + 1)).imp_of_mem fun {a b} ha hb h x hx y hy til z => ?_
          rw [mem_irange] at ha hb
          have := piece_two hx hy (by omega) (by omega) til z
          omega
      · refine (irange_lt (l + 1) (W + 1)).imp_of_mem fun {a b} ha hb h x hx y hy til z => ?_
        rw [mem_irange] at ha hb
        obtain ⟨c, hc, hx⟩ := List.mem_flatMap.mp hx
        obtain ⟨d, hd, hy⟩ := List.mem_flatMap.mp hy
        rw [mem_irange] at hc hd
        have := piece_two hx hy (by omega) (by omega) til z
        omega
def smL : List (Int × Int) := [(2, 2), (1, 6), (2, 3), (3, 2), (2, 4), (4, 2), (5, 1), (1, 3)]
def arL (ps : List Pn) : Int := (ps.map fun p => p.w * p.h).sum
def okW (W H : Int) : Bool := okP 10 W H [] [] && (picsU 10 W H [] []).all (fun ps => tilB W H ps && decide (ps.length ≤ 9) && decide (arL ps = W * H))
def ok22 (p : Int × Int) : Bool := okW p.1 p.2 && okP 10 p.2 p.1 [] [] && decide ((picsU 10 p.2 p.1 [] []).length = (picsU 10 p.1 p.2 [] []).length) && decide (0 < (picsU 10 p.1 p.2 [] []).length) && decide ((picsU 10 p.1 p.2 [] []).length < 300)
theorem sm_all : smL.all ok22 = true := by decide +kernel
def rowN (n : Int) : Nat := (picsU 10 n 1 [] []).length
theorem rows_all : ((irange 1 7).all fun n => okP 10 n 1 [] []) = true := by decide +kernel
theorem rows_two : ((irange 2 7).all fun n => decide (rowN n = 2 * rowN (n - 1))) = true := by decide +kernel
theorem rows_one : rowN 1 = 1 := by decide +kernel
end PP
set_option Elab.async false
set_option linter.all false
set_option autoImplicit false
set_option maxRecDepth 100000
set_option maxHeartbeats 4000000
namespace PP
open PySem
variable {T : Nat → Option Fn} {n : Nat}
theorem c_treeIM (h : TBm T) (m : Int) (n : Nat) (c w g : Int) (hw : 1 ≤ w) (hg : 1 ≤ g) (hm : 0 ≤ m) (hn : m + 2 ≤ n) :
    ∃ t : Tr, call T n 6 [.d (.int c), .d (wD w g), .d (.int m)] = .ok (.d t.enc) ∧ t.Fit ⟨0, 0, w, g⟩ ∧ (t.count : Int) ≤ max m 1 := by
  obtain ⟨k, rfl⟩ : ∃ k : Nat, m = k := ⟨m.toNat, by omega⟩
  obtain ⟨t, e, h1, h2⟩ := c_treeM h k n c w g hw hg (by omega)
  exact ⟨t, e, h1, by omega⟩
theorem c_lpcM (h : TBm T) (t : Tr) (n : Nat) (W H : Int) (hn : t.count + 2 ≤ n) (hc : t.count ≤ 1000) : call T n 9 [.d t.enc, .d (wD W H)] = .ok (.d (pcD W H (srtP (t.pns ⟨0, 0, W, H⟩)))) := by
  have e := c_lpicM h t n W H hn hc
  have hpp := picD_pcD W H (t.pns ⟨0, 0, W, H⟩)
  rw [pns_L] at hpp
  rw [e, ← hpp]
end PP
set_option Elab.async false
set_option linter.all false
set_option autoImplicit false
set_option maxRecDepth 100000
set_option maxHeartbeats 1000000
namespace PP
open PySem
end PP
set_option Elab.async false
set_option linter.all false
set_option autoImplicit false
set_option maxRecDepth 100000
set_option maxHeartbeats 1000000
namespace PP
open PySem
variable {T : Nat → Option Fn} {n : Nat}
@[simp] theorem setT_pc (i j : Nat) (W H : Int) (ps : List Pn) (ρ : Sto) : setT (.tp [i, j]) (pcD W H ps) ρ = .ok ((ρ.set i (some (.d (wD W H)))).set j (some (.d (.tuple (ps.map Pn.D))))) := id rfl
end PP
set_option Elab.async false
set_option linter.all false
set_option autoImplicit false
set_option maxRecDepth 100000
set_option maxHeartbeats 4000000
namespace PP
open PySem
variable {T : Nat → Option Fn} {n : Nat}
theorem nks_map {α : Type} (enc : α → D) (key : α → NestedKey) (hk : ∀ a, nk? (enc a) = some (key a)) : ∀ as : List α, nks? (as.map enc) = some (as.map key)
  | [] => by simp [nks?]
  | b :: bs => by simp [nks?, hk, nks_map enc key hk bs]
end PP
set_option Elab.async false
set_option linter.all false
set_option autoImplicit false
set_option maxRecDepth 100000
set_option maxHeartbeats 4000000
namespace PP
open PySem
variable {T : Nat → Option Fn} {n : Nat}
def pnK (p : Pn) : NestedKey := .tup [.num p.l, .num p.t, .num p.w, .num p.h]
def pcK (W H : Int) (ps : List Pn) : NestedKey := .tup [.tup [.num W, .num H], .tup ((srtP ps).map pnK)]
theorem nk_pn (p : Pn) : nk? p.D = some (pnK p) := by simp [Pn.D, Pn.L, tD, pnK, nk?, nks?]
theorem nk_pc (W H : Int) (ps : List Pn) : nk? (picE W H ps) = some (pcK W H ps) := by
  have := nks_map Pn.D pnK nk_pn (srtP ps)
  simp [picE, pcD, wD, nk?, nks?, this, pcK]
theorem pnK_inj {p q : Pn} (h : pnK p = pnK q) : p = q := by
  obtain ⟨a, b, c, d⟩ := p
  obtain ⟨a', b', c', d'⟩ := q
  simp only [pnK, NestedKey.tup.injEq, List.cons.injEq, NestedKey.num.injEq, and_true] at h
  obtain ⟨rfl, rfl, rfl, rfl⟩ := h
  rfl
theorem pcK_inj {W H : Int} {a b : List Pn} (h : pcK W H a = pcK W H b) : srtP a = srtP b := by
  simp only [pcK, NestedKey.tup.injEq, List.cons.injEq, and_true, true_and] at h
  exact (List.map_inj_right fun _ _ e => pnK_inj e).mp h
theorem depth_pnK (p : Pn) : (pnK p).depth ≤ 3 := by simp [pnK, NestedKey.depth, NestedKey.depthAll]
theorem depth_pnKs : ∀ ps : List Pn, NestedKey.depthAll (ps.map pnK) ≤ 3
  | [] => by simp [NestedKey.depthAll]
  | p :: ps => by
    have := depth_pnK p
    have := depth_pnKs ps
    simp only [List.map_cons, NestedKey.depthAll]; omega
theorem ok_pcK (W H : Int) (ps : List Pn) : nkOk (pcK W H ps) = true := by
  have := depth_pnKs (srtP ps)
  unfold nkOk
  rw [Bool.and_eq_true, decide_eq_true_eq]
  refine ⟨rfl, ?_⟩
  simp only [pcK, NestedKey.depth, NestedKey.depthAll]; omega
theorem dedK_id : ∀ {ks : List NestedKey}, ks.Nodup → dedK ks = ks
  | [], _ => rfl
  | k :: ks, h => by
    obtain ⟨h1, h2⟩ := List.nodup_cons.mp h
    rw [dedK, dedK_id h2, if_neg h1]
theorem ndl22 {W H : Int} {L : List (List Pn)} (nd : (L.map (pcK W H)).Nodup) (hl : L.length < 300) : ndlR (.d (.tuple (L.map (picE W H)))) = .ok (.d (.int (L.length : Nat))) := by
  unfold ndlR
  have hs : (R.d (.tuple (L.map (picE W H)))).seq? = some (L.map (picE W H)) := rfl
  have ha : (L.map (pcK W H)).all nkOk = true := List.all_eq_true.mpr fun k h => by
    obtain ⟨a, _, rfl⟩ := List.mem_map.mp h
    exact ok_pcK W H a
  rw [hs]
  simp only [nks_map _ _ (nk_pc W H), ha, Bool.and_true, List.length_map, decide_eq_true_eq, dedK_id nd]
  split
  · rfl
  · rw [if_pos]
    simp only [isTp, Bool.true_and, Bool.and_eq_true, decide_eq_true_eq]
    exact ⟨hl, nd⟩
structure Wd (W H : Int) : Prop where
  w : 1 ≤ W ∧ W ≤ 6
  h : 1 ≤ H ∧ H ≤ 6
  ok : okP 10 W H [] [] = true
  ok' : okP 10 H W [] [] = true
  mem : ∀ ps ∈ picsU 10 W H [] [], tilB W H ps = true ∧ ps.length ≤ 9 ∧ arL ps = W * H
  len : (picsU 10 H W [] []).length = (picsU 10 W H [] []).length
  pos : 0 < (picsU 10 W H [] []).length
  few : (picsU 10 W H [] []).length < 300
theorem sm_pos : ∀ p ∈ smL, (1 ≤ p.1 ∧ p.1 ≤ 6) ∧ (1 ≤ p.2 ∧ p.2 ≤ 6) := by decide +kernel
theorem wd_of {p : Int × Int} (h : p ∈ smL) : Wd p.1 p.2 := by
  have s := List.all_eq_true.mp sm_all _ h
  obtain ⟨hw, hh⟩ := sm_pos _ h
  unfold ok22 okW at s
  simp only [Bool.and_eq_true, decide_eq_true_eq, List.all_eq_true] at s
  obtain ⟨⟨⟨⟨⟨s1, s2⟩, s3⟩, s4⟩, s5⟩, s6⟩ := s
  exact ⟨hw, hh, s1, s3, fun ps hp => ⟨(s2 ps hp).1.1, (s2 ps hp).1.2, (s2 ps hp).2⟩, s4, s5, s6⟩
theorem Wd.til {W H : Int} (D : Wd W H) {ps : List Pn} (h : ps ∈ picsU 10 W H [] []) : Til ⟨0, 0, W, H⟩ ps := til_of (D.mem ps h).1 (nd_of (D.mem ps h).1)
theorem Wd.nd {W H : Int} (D : Wd W H) : ((srtG W H (picsU 10 W H [] [])).map (pcK W H)).Nodup := by
  refine (((srtG_perm W H (picsU 10 W H [] [])).map (pcK W H)).nodup_iff).mpr ?_
  unfold List.Nodup
  rw [List.pairwise_map]
  refine (picsU_dif 10 W H [] []).imp_of_mem fun {a b} ha hb h e => ?_
  have es := pcK_inj e
  refine h (D.mem a ha).1 ?_
  exact (srtP_perm a).symm.trans (by rw [es]; exact srtP_perm b)
theorem cov_nil : Cov [] [] := fun x y => by simp
theorem listed {W H : Int} (ok : okP 10 W H [] [] = true) {ps : List Pn} (til : Til ⟨0, 0, W, H⟩ ps) (hl : ps.length ≤ 100) :
    inR (.d (pcD W H (srtP ps))) (.d (.tuple ((srtG W H (picsU 10 W H [] [])).map (picE W H)))) = .ok true := by
  obtain ⟨qs, hq, pm⟩ := picsU_all 10 W H [] [] ps ok cov_nil til
  have e : picE W H qs = pcD W H (srtP ps) := by rw [picE, srtP_eq pm]; rfl
  have hp : plain (pcD W H (srtP ps)) = true := plain_pc (by rw [(srtP_perm ps).length_eq, lim_eq]; omega)
  have hd := depth_pc W H (srtP ps)
  have ha : ((srtG W H (picsU 10 W H [] [])).map (picE W H)).any (fun z => PyData.eqv z (pcD W H (srtP ps))) = true :=
    List.any_eq_true.mpr ⟨_, List.mem_map.mpr ⟨qs, (srtG_perm W H _).mem_iff.mpr hq, rfl⟩, by rw [e]; exact eqv_refl hp⟩
  show (if (R.d (pcD W H (srtP ps))).isD && decide ((pcD W H (srtP ps)).depth ≤ 60) then Rs.ok (((srtG W H (picsU 10 W H [] [])).map (picE W H)).any fun z => PyData.eqv z (pcD W H (srtP ps))) else .bad) = _
  rw [ha, decide_eq_true (by omega)]; rfl
theorem sum_L (ns : List Int) : bltR .sum [.l (ns.map .int)] = .ok (.d (.int ns.sum)) := by
  show sumR [.l (ns.map .int)] = _
  have : (R.l (ns.map PyData.int)).lst? = some (ns.map .int) := rfl
  unfold sumR
  simp only [this, ints_map]
theorem sum_permI {a b : List Int} (h : a.Perm b) : a.sum = b.sum := by
  induction h with
  | nil => rfl
  | cons x _ ih => simp only [List.sum_cons, ih]
  | swap x y l => simp only [List.sum_cons]; omega
  | trans _ _ h1 h2 => exact h1.trans h2
theorem arL_srt (ps : List Pn) : ((srtP ps).map fun p => p.w * p.h).sum = arL ps := sum_permI ((srtP_perm ps).map _)
end PP
set_option Elab.async false
set_option linter.all false
set_option autoImplicit false
set_option maxRecDepth 100000
set_option maxHeartbeats 4000000
namespace PP
open PySem
variable {T : Nat → Option Fn} {n : Nat}
theorem ev_ndl22 {C : Nat → List R → Rs R} {ρ : Sto} (a : Ex) : ev C (.ndl a) ρ = b1 (ev C a ρ) ndlR := by rw [ev]; rfl
structure K22 (T : Nat → Option Fn) : Prop where
  t : T21 T
  m : TBm T
  cell : T 14 = some f14_law_cell
  pane : T 115 = some f115_turned_pane
  turned : T 116 = some f116_turned
def overL : List Tn := [⟨true, false, true⟩, ⟨true, true, false⟩, ⟨true, false, false⟩, ⟨true, true, true⟩]
def backL : List Tn := [⟨false, true, true⟩, ⟨false, true, false⟩, ⟨false, false, true⟩]
theorem overL_o : ∀ τ ∈ overL, τ.o = true := by decide
theorem backL_o : ∀ τ ∈ backL, τ.o = false := by decide
/-- the picture of a listed tiling, turned, is among those of the turned window -/
theorem turned22 (h : K22 T) {W H : Int} (B : Wd W H) {ps : List Pn} (hp : ps ∈ picsU 10 W H [] []) (τ : Tn) (V G : Int) (ev : tW τ W H = V) (eg : tH τ W H = G) (ok : okP 10 V G [] [] = true) :
    ∃ x : D, call T 59 116 [.d (picE W H ps), .d (.str τ.nm)] = .ok (.d x) ∧ inR (.d x) (.d (.tuple ((srtG V G (picsU 10 V G [] [])).map (picE V G)))) = .ok true := by
  obtain ⟨m1, m2, m3⟩ := B.mem ps hp
  have hl : (srtP ps).length ≤ 9 := by rw [(srtP_perm ps).length_eq]; exact m2
  have e : call T 59 116 [.d (pcD W H (srtP ps)), .d (.str τ.nm)] = .ok (.d (pcD (tW τ W H) (tH τ W H) (srtP ((srtP ps).map (tPn τ W H))))) := c_turned (n := 57) h.pane h.turned τ W H (by rw [lim_eq]; omega)
  have t := til_turn ((B.til hp).perm (srtP_perm ps).symm) τ W H
  rw [tPn_whole, ev, eg] at t
  rw [ev, eg] at e
  exact ⟨_, e, listed ok t (by rw [List.length_map]; omega)⟩
theorem k22_true (h : K22 T) (hl : T 129 = some f129_law) (ns : List Int) : call T 60 129 [.s (ns.map PyData.int)] = .ok (.d (.bool true)) := by
  obtain ⟨c0, ec0⟩ := c_cell (n := 58) h.cell ns 0
  obtain ⟨c1, ec1⟩ := c_cell (n := 58) h.cell ns 1
  obtain ⟨c2, ec2⟩ := c_cell (n := 58) h.cell ns 2
  obtain ⟨c3, ec3⟩ := c_cell (n := 58) h.cell ns 3
  have ec0' : call T 59 14 [.s (ns.map PyData.int), .d (.int 0)] = .ok (.d (.int c0)) := ec0
  have ec1' : call T 59 14 [.s (ns.map PyData.int), .d (.int 1)] = .ok (.d (.int c1)) := ec1
  have ec2' : call T 59 14 [.s (ns.map PyData.int), .d (.int 2)] = .ok (.d (.int c2)) := ec2
  have ec3' : call T 59 14 [.s (ns.map PyData.int), .d (.int 3)] = .ok (.d (.int c3)) := ec3
  have em0 := c_mix (n := 58) h.m.mix (c := c0) (p := 9623) (m := 8) (by decide) (by decide) (by decide)
  have em3 := c_mix (n := 58) h.m.mix (c := c3) (p := 9613) (m := 5) (by decide) (by decide) (by decide)
  have b0 := mixI_bd (c := c0) (p := 9623) (m := 8) (by decide)
  have b3 := mixI_bd (c := c3) (p := 9613) (m := 5) (by decide)
  generalize mixI c0 9623 8 = i0 at *
  generalize mixI c3 9613 5 = i3 at *
  obtain ⟨⟨W, H⟩, hp, ei, _⟩ := idx_mem pwD smL b0.1 (by simp [smL]; omega)
  have D := wd_of hp
  simp only at D
  have hW := D.w
  have hH := D.h
  have ei' : idxR (.d (.list [wD 2 2, wD 1 6, wD 2 3, wD 3 2, wD 2 4, wD 4 2, wD 5 1, wD 1 3])) (.d (.int i0)) = .ok (.d (wD W H)) := ei
  have ea := c_all (n := 46) h.t hW hH D.ok
  have eo := c_all (n := 46) h.t hH hW D.ok'
  have en := c_count21 (n := 45) h.t hW hH D.ok
  have eu := c_cut (n := 45) h.t hW hH D.ok (fun ps hm => ⟨(D.mem ps hm).1, (D.mem ps hm).2.1⟩)
  have sp := srtG_perm W H (picsU 10 W H [] [])
  have sq := srtG_perm H W (picsU 10 H W [] [])
  have ls : (srtG W H (picsU 10 W H [] [])).length = (picsU 10 W H [] []).length := sp.length_eq
  have lq : (srtG H W (picsU 10 H W [] [])).length = (picsU 10 W H [] []).length := by rw [sq.length_eq]; exact D.len
  have pos := D.pos
  have few := D.few
  have es := ndl22 D.nd (by rw [ls]; exact few)
  rw [ls] at es
  -- the rows
  have rk : ∀ m : Int, 1 ≤ m → m ≤ 6 → call T 59 97 [.d (wD m 1)] = .ok (.d (.int (rowN m))) := fun m m1 m2 =>
    c_count21 (n := 45) h.t (W := m) (H := 1) ⟨m1, m2⟩ (by decide) (List.all_eq_true.mp rows_all m (mem_irange.mpr (by omega)))
  have r1 := rk (2 + i3) (by omega) (by omega)
  have r2 := rk (2 + i3 - 1) (by omega) (by omega)
  have r3 := rk 1 (by decide) (by decide)
  rw [rows_one] at r3
  have r4 := of_decide_eq_true (List.all_eq_true.mp rows_two (2 + i3) (mem_irange.mpr (by omega)))
  have hm2 : binR .mul (.d (.int 2)) (.d (.int (rowN (2 + i3 - 1) : Nat))) = .ok (.d (.int (2 * (rowN (2 + i3 - 1) : Nat)))) := mul_ii' (by decide)
  have i0' : ∀ ps : List Pn, idxR (.d (picE W H ps)) (.d (.int 0)) = .ok (.d (wD W H)) := fun ps => idx0 ..
  have i1' : ∀ ps : List Pn, idxR (.d (picE W H ps)) (.d (.int 1)) = .ok (.d (.tuple ((srtP ps).map Pn.D))) := fun ps => idx1 ..
  rw [call_go hl rfl (st := [some (.s (ns.map PyData.int)), none, none, none, none, none, none, none, none, none, none, none]) rfl]
  simp [f129_law, lstG_ok, ec0', em0, ei', ea, eo, en, ev_ndl22, es, ls, lq]
  generalize hA : srtG W H (picsU 10 W H [] []) = A at *
  generalize hB : srtG H W (picsU 10 H W [] []) = A' at *
  refine for_go (· = _) (fun z => outK (seqK _ _ z)) (V := Option R × Option R × Option R × Option R × Option R) PyData.int (irange 0 12)
    (fun pre v => [some (.s (ns.map PyData.int)), some (.d (.list [wD 2 2, wD 1 6, wD 2 3, wD 3 2, wD 2 4, wD 4 2, wD 5 1, wD 1 3])), some (.d (wD W H)), some (.d (.tuple (A.map (picE W H)))), some (.d (.tuple (A'.map (picE H W)))), v.1, none, v.2.1, v.2.2.1, v.2.2.2.1, v.2.2.2.2, none]) (fun _ _ => True) (none, none, none, none, none)
    ?h1 rfl trivial ?_ ?_
  case h1 => simp; exact rngF_ok (j := 12) (by decide) (by decide)
  · rintro pre k post ⟨v5, v7, v8, v9, v10⟩ hpre -
    have h7 := mul_ii' (i := 7) (j := k) (by decide)
    have h5 := mul_ii' (i := 5) (j := k) (by decide)
    have em1 := c_mix (n := 58) h.m.mix (c := c1 + 7 * k) (p := 9619) (m := (picsU 10 W H [] []).length) (by decide) (by decide) (by omega)
    have b1 := mixI_bd (c := c1 + 7 * k) (p := 9619) (m := (picsU 10 W H [] []).length) (by omega)
    generalize mixI (c1 + 7 * k) 9619 (picsU 10 W H [] []).length = i1 at *
    obtain ⟨ps, hps, _, ep⟩ := idx_mem (picE W H) A b1.1 (by rw [ls]; exact b1.2)
    have hps := sp.mem_iff.mp hps
    obtain ⟨m1, m2, m3⟩ := D.mem ps hps
    have hl9 : (srtP ps).length ≤ 9 := by rw [(srtP_perm ps).length_eq]; exact m2
    have inn := (D.til hps).inn
    simp [ec1', h7, ls, em1, ep, i0', i1']
    rw [lc_nm Pn.D (fun p => .int (p.w * p.h)) (srtP ps) (by simp [i1']) (by rw [lim_eq]; omega) (by
      intro p hp
      obtain ⟨q1, q2⟩ := inn p ((srtP_perm ps).mem_iff.mp hp)
      simp only [Pn.pos, Pn.sub] at q1 q2
      simp [mul_ii' (i := p.w) (j := p.h) (by omega)])]
    rw [show (srtP ps).map (fun p => PyData.int (p.w * p.h)) = ((srtP ps).map fun p => p.w * p.h).map PyData.int by simp]
    have hWH := mul_ii' (i := W) (j := H) (by omega)
    have hsum : ((srtP ps).map fun p => p.w * p.h).sum = W * H := (arL_srt ps).trans m3
    have hS : bltR .sum [.l (((srtP ps).map fun p => p.w * p.h).map PyData.int)] = .ok (.d (.int (W * H))) := by rw [sum_L, hsum]
    generalize ((srtP ps).map fun p => p.w * p.h).map PyData.int = S at hS ⊢
    simp [i0', eq_wd, hWH, hS]
    refine for_go (Nx _ _) (fun z => seqK _ _ z) (V := Option R) (fun τ : Tn => .str τ.nm) overL
      (fun pre v => [some (.s (ns.map PyData.int)), some (.d (.list [wD 2 2, wD 1 6, wD 2 3, wD 3 2, wD 2 4, wD 4 2, wD 5 1, wD 1 3])), some (.d (wD W H)), some (.d (.tuple (A.map (picE W H)))), some (.d (.tuple (A'.map (picE H W)))), some (.d (.int k)), none, some (.d (picE W H ps)), some (.d (.int (W * H))), v, v10, none]) (fun _ _ => True) v9
      ?h2 rfl trivial ?_ ?_
    case h2 => simp; rfl
    · rintro pre2 τ post2 u9 hpre2 -
      have ho := overL_o τ (by rw [← hpre2]; simp)
      obtain ⟨x, x1, x2⟩ := turned22 h D hps τ H W (by simp [tW, ho]) (by simp [tH, ho]) D.ok'
      rw [hB] at x2
      simp [x1, x2]
      exact Nx.mk (some (.d (.str τ.nm))) rfl trivial
    · rintro u9 -
      simp
      rw [lcf_nm (fun τ : Tn => .str τ.nm) (fun _ => false) (fun τ : Tn => .str τ.nm) backL (by simp; rfl) (by rw [lim_eq]; decide) (by
        intro τ hτ
        have ho := backL_o τ hτ
        obtain ⟨x, x1, x2⟩ := turned22 h D hps τ W H (by simp [tW, ho]) (by simp [tH, ho]) D.ok
        rw [hA] at x2
        simp [x1, x2])]
      have hf : (backL.filter fun _ => false) = [] := rfl
      have e0 : eqR (.l []) (.l []) = .ok true := rfl
      obtain ⟨t, et, hfit, hcnt⟩ := c_treeIM h.m 8 59 (c2 + 5 * k) W H (by omega) (by omega) (by decide) (by decide)
      have hcnt : t.count ≤ 8 := by omega
      have eq9 := c_lpcM h.m t 59 W H (by omega) (by omega)
      have inT := listed D.ok (til_tree t _ hfit) (by rw [pns_len]; omega)
      rw [hA] at inT
      simp [hf, e0, ec2', h5, et, eq9, inT]
      exact Nx.mk (_, _, _, _, _) rfl trivial
  · rintro ⟨v5, v7, v8, v9, v10⟩ -
    simp [eu]
    rw [lcf_nm (picE W H) (fun ps => decide (knotF 9 ⟨0, 0, W, H⟩ ps = none)) (picE W H) A (by simp) (by rw [ls, lim_eq]; omega) (by
      intro ps hps
      have hps := sp.mem_iff.mp hps
      obtain ⟨t1, t2, _⟩ := D.mem ps hps
      have til := D.til hps
      have tl2 := til.perm (srtP_perm ps).symm
      have ek := c_knot9 (n := 46) h.t.c h.t.knot_in h.t.knot hW hH tl2 (by rw [(srtP_perm ps).length_eq]; exact t2)
      have kp := knot_permN til (by simp only [Pn.pos]; omega) t2 (srtP_perm ps).symm
      have ek' : call T 59 47 [.d (picE W H ps)] = .ok (.d (optD (knotF 9 ⟨0, 0, W, H⟩ (srtP ps)))) := ek
      cases z : knotF 9 ⟨0, 0, W, H⟩ (srtP ps) with
      | none =>
        rw [z] at ek'
        have := kp.mpr z
        simp [ek', optD, this]
      | some Q =>
        rw [z] at ek'
        have : knotF 9 ⟨0, 0, W, H⟩ ps ≠ none := fun e => by rw [kp.mp e] at z; cases z
        simp [ek', optD, this])]
    have el : (A.filter fun ps => decide (knotF 9 ⟨0, 0, W, H⟩ ps = none)).length = ((picsU 10 W H [] []).filter fun ps => decide (knotF 9 ⟨0, 0, W, H⟩ ps = none)).length := (sp.filter _).length_eq
    generalize (A.filter fun ps => decide (knotF 9 ⟨0, 0, W, H⟩ ps = none)) = F at el ⊢
    simp [el, ec3', em3, r1, r2, r3, r4, hm2]
end PP
namespace Rk22
open PySem L2 PP
def top (i : Nat) : Stmt := PySem.Challenge.pw_panecuts_k22_whole_listed.main.body.getD i (.Pass ⟨0, 0, 0, 0⟩)
def e_spots_of : Ent := ⟨3, "spots_of", top 1, ["pane", "found", "row", "left", "top", "wide", "high", "column"], ["pane"], f3_spots_of⟩
def e_lines_in : Ent := ⟨26, "lines_in", top 3, ["part", "panes", "columns", "rows", "left", "top", "wide", "high", "c", "r", "pane"], ["part", "panes"], f26_lines_in⟩
def e_halves : Ent := ⟨30, "halves", top 4, ["part", "panes", "kind", "place", "side", "ahead", "behind", "left", "top", "wide", "high", "pane"], ["part", "panes", "kind", "place"], f30_halves⟩
def e_cuts_in : Ent := ⟨32, "cuts_in", top 5, ["part", "panes", "columns", "rows", "place"], ["part", "panes"], f32_cuts_in⟩
def e_knot_in : Ent := ⟨43, "knot_in", top 7, ["part", "panes", "cuts", "found", "one", "other"], ["part", "panes"], f43_knot_in⟩
def e_knot : Ent := ⟨47, "knot", top 8, ["picture"], ["picture"], f47_knot⟩
def e_pictures_on : Ent := ⟨94, "pictures_on", top 10, ["window", "panes", "taken", "free", "row", "found", "right", "wide", "high", "top", "left", "below", "pane", "spots", "column", "spot"], ["window", "panes", "taken"], f94_pictures_on⟩
def e_all_pictures : Ent := ⟨95, "all_pictures", top 11, ["window"], ["window"], f95_all_pictures⟩
def e_count_pictures : Ent := ⟨97, "count_pictures", top 12, ["window"], ["window"], f97_count_pictures⟩
def e_count_cut : Ent := ⟨98, "count_cut", top 13, ["window", "picture"], ["window"], f98_count_cut⟩
def e_turned_pane : Ent := ⟨115, "turned_pane", top 16, ["pane", "window", "turn", "is_over", "is_mirrored", "is_flipped", "left", "top", "wide", "high"], ["pane", "window", "turn"], f115_turned_pane⟩
def e_turned : Ent := ⟨116, "turned", top 17, ["picture", "turn", "new", "window", "panes", "pane"], ["picture", "turn"], f116_turned⟩
def e_law_cell : Ent := ⟨14, "_law_cell", top 19, ["script", "k"], ["script", "k"], f14_law_cell⟩
def e_law_mix : Ent := ⟨4, "_law_mix", top 20, ["cell", "prime", "many", "blend"], ["cell", "prime", "many"], f4_law_mix⟩
def e_law_parts : Ent := ⟨5, "_law_parts", top 21, ["kind", "at", "window"], ["kind", "at", "window"], f5_law_parts⟩
def e_law_tree : Ent := ⟨6, "_law_tree", top 22, ["cell", "window", "most", "kinds", "kind", "at", "ahead", "one", "other"], ["cell", "window", "most"], f6_law_tree⟩
def e_law_panes : Ent := ⟨7, "_law_panes", top 23, ["tree", "left", "top", "window", "here", "kind", "at", "one", "other"], ["tree", "left", "top", "window"], f7_law_panes⟩
def e_law_picture_of : Ent := ⟨9, "_law_picture_of", top 24, ["tree", "window"], ["tree", "window"], f9_law_picture_of⟩
def e_law : Ent := ⟨129, "law", top 25, ["script", "small", "window", "every", "over", "k", "long", "picture", "spots", "turn", "tree", "pane"], ["script"], f129_law⟩
def es : List Ent := [e_spots_of, e_lines_in, e_halves, e_cuts_in, e_knot_in, e_knot, e_pictures_on, e_all_pictures, e_count_pictures, e_count_cut, e_turned_pane, e_turned, e_law_cell, e_law_mix, e_law_parts, e_law_tree, e_law_panes, e_law_picture_of, e_law]
def cs : List (Str × D) := []
def ds : List (Str × List (Str × D)) := [("TURNS", [(t_same, .tuple [.bool false, .bool false, .bool false]), (t_right, .tuple [.bool true, .bool false, .bool true]), (t_half, .tuple [.bool false, .bool true, .bool true]), (t_left, .tuple [.bool true, .bool true, .bool false]), (t_mirror, .tuple [.bool false, .bool true, .bool false]), (t_flip, .tuple [.bool false, .bool false, .bool true]), (t_over, .tuple [.bool true, .bool false, .bool false]), (t_under, .tuple [.bool true, .bool true, .bool true])])]
def xl : List (Str × Nat) := []
theorem oks : es.all (entOk ⟨cs, ds, fnsOf es, xl, false⟩) = true := by decide +kernel
theorem ixs : (es.map (·.ix)).Nodup := by decide +kernel
set_option maxHeartbeats 4000000 in
theorem all_mk {l : PySem.W.OpenLaw} {w : World} {K : PySem.W.Frag} {h : Heap} {mg : Str → Option Value} {fa : Addr} (X : K.In h) (G : h.Ns mainGlobals mg) (hfa : mg "law" = some (.ref fa))
    (d0 : DefAt K "spots_of" (top 1)) (d1 : DefAt K "lines_in" (top 3)) (d2 : DefAt K "halves" (top 4)) (d3 : DefAt K "cuts_in" (top 5)) (d4 : DefAt K "knot_in" (top 7)) (d5 : DefAt K "knot" (top 8)) (d6 : DefAt K "pictures_on" (top 10)) (d7 : DefAt K "all_pictures" (top 11)) (d8 : DefAt K "count_pictures" (top 12)) (d9 : DefAt K "count_cut" (top 13)) (d10 : DefAt K "turned_pane" (top 16)) (d11 : DefAt K "turned" (top 17)) (d12 : DefAt K "_law_cell" (top 19)) (d13 : DefAt K "_law_mix" (top 20)) (d14 : DefAt K "_law_parts" (top 21)) (d15 : DefAt K "_law_tree" (top 22)) (d16 : DefAt K "_law_panes" (top 23)) (d17 : DefAt K "_law_picture_of" (top 24)) (d18 : DefAt K "law" (top 25))
     (g0 : DctAt K w "TURNS" [(t_same, .tuple [.bool false, .bool false, .bool false]), (t_right, .tuple [.bool true, .bool false, .bool true]), (t_half, .tuple [.bool false, .bool true, .bool true]), (t_left, .tuple [.bool true, .bool true, .bool false]), (t_mirror, .tuple [.bool false, .bool true, .bool false]), (t_flip, .tuple [.bool false, .bool false, .bool true]), (t_over, .tuple [.bool true, .bool false, .bool false]), (t_under, .tuple [.bool true, .bool true, .bool true])]) (z : ∀ x, x ∈ bltNames → PySem.W.nsIn K mainGlobals x = some none)
    (H : ∀ ns : List Int, ns.length ≤ 63 → call (tabOf es) 60 129 [.s (ns.map PyData.int)] = .ok (.d (.bool true))) :
    ∃ fd : FuncData, (∀ (s : Shared) (v : Value), BindsTo s fd ⟨[v], []⟩ [("script", v)]) ∧ ∀ base : Heap, K.In base → base.Ns mainGlobals mg → FnOk l.prog w K mg base (L2N.CX l.prog w) 61 fa fd ["script"] (spLaw K) := by
  refine law_mk (e := e_law) (es := es) (cs := cs) (ds := ds) (cl := fun c => .ref (lsA [0, 0, 0, 0, 0, 0, 0, 0, 0] c)) (xs := xl) (wb := false) X G hfa (by simp [es]) rfl rfl ixs oks (fun s _ _ _ _ _ _ u => .of_eq rfl) ?_ z ?_ ?_ ?_ ?_ H
  · intro e he
    simp only [es, List.mem_cons, List.not_mem_nil, or_false] at he
    rcases he with rfl | rfl | rfl | rfl | rfl | rfl | rfl | rfl | rfl | rfl | rfl | rfl | rfl | rfl | rfl | rfl | rfl | rfl | rfl
    · exact entAt_mk X G _ d0 fun _ _ _ _ _ _ us hl => match us, hl with | [_], _ => rfl
    · exact entAt_mk X G _ d1 fun _ _ _ _ _ _ us hl => match us, hl with | [_, _], _ => rfl
    · exact entAt_mk X G _ d2 fun _ _ _ _ _ _ us hl => match us, hl with | [_, _, _, _], _ => rfl
    · exact entAt_mk X G _ d3 fun _ _ _ _ _ _ us hl => match us, hl with | [_, _], _ => rfl
    · exact entAt_mk X G _ d4 fun _ _ _ _ _ _ us hl => match us, hl with | [_, _], _ => rfl
    · exact entAt_mk X G _ d5 fun _ _ _ _ _ _ us hl => match us, hl with | [_], _ => rfl
    · exact entAt_mk X G _ d6 fun _ _ _ _ _ _ us hl => match us, hl with | [_, _, _], _ => rfl
    · exact entAt_mk X G _ d7 fun _ _ _ _ _ _ us hl => match us, hl with | [_], _ => rfl
    · exact entAt_mk X G _ d8 fun _ _ _ _ _ _ us hl => match us, hl with | [_], _ => rfl
    · exact entAt_mk X G _ d9 fun _ _ _ _ _ _ us hl => match us, hl with | [_], _ => rfl
    · exact entAt_mk X G _ d10 fun _ _ _ _ _ _ us hl => match us, hl with | [_, _, _], _ => rfl
    · exact entAt_mk X G _ d11 fun _ _ _ _ _ _ us hl => match us, hl with | [_, _], _ => rfl
    · exact entAt_mk X G _ d12 fun _ _ _ _ _ _ us hl => match us, hl with | [_, _], _ => rfl
    · exact entAt_mk X G _ d13 fun _ _ _ _ _ _ us hl => match us, hl with | [_, _, _], _ => rfl
    · exact entAt_mk X G _ d14 fun _ _ _ _ _ _ us hl => match us, hl with | [_, _, _], _ => rfl
    · exact entAt_mk X G _ d15 fun _ _ _ _ _ _ us hl => match us, hl with | [_, _, _], _ => rfl
    · exact entAt_mk X G _ d16 fun _ _ _ _ _ _ us hl => match us, hl with | [_, _, _, _], _ => rfl
    · exact entAt_mk X G _ d17 fun _ _ _ _ _ _ us hl => match us, hl with | [_, _], _ => rfl
    · exact entAt_mk X G _ d18 fun _ _ _ _ _ _ us hl => match us, hl with | [_], _ => rfl
  · intro c hc
    simp [cs] at hc
  · intro c hc
    simp only [ds, List.mem_cons, List.not_mem_nil, or_false] at hc
    rcases hc with rfl
    · exact g0
  · intro x c hx
    simp [xl] at hx
  · intro hx; cases hx
end Rk22
open PySem PySem.W PyProof.Rows
theorem law_true (ns : List Int) (_ : ns.length ≤ 63) : PP.call (PP.tabOf Rk22.es) 60 129 [.s (ns.map PySem.PyData.int)] = .ok (.d (.bool true)) :=
  PP.k22_true ⟨⟨⟨rfl, rfl⟩, rfl, rfl, rfl, ⟨rfl, rfl, rfl⟩, rfl, rfl⟩, ⟨rfl, rfl, rfl, rfl, rfl⟩, rfl, rfl, rfl⟩ rfl ns
set_option maxRecDepth 100000 in
set_option maxHeartbeats 0 in
theorem PySem.Challenge.cw_panecuts_k22_whole_listed_holds : PySem.Challenge.rw_panecuts_k22_whole_listed.Holds := by
  w_on; o_law; k_head; (case hw => w_witness2)
  k_fill
  refine PP.walk_mk (l := PySem.Challenge.rw_panecuts_k22_whole_listed) (n := 60) rfl rfl ⟨rfl, by decide, by decide⟩ (fun w h Y => PySem.W.kIn_of Y) ?F
  case F =>
    intro w mg fa h KX G hmg
    refine' Rk22.all_mk KX G hmg ?d0 ?d1 ?d2 ?d3 ?d4 ?d5 ?d6 ?d7 ?d8 ?d9 ?d10 ?d11 ?d12 ?d13 ?d14 ?d15 ?d16 ?d17 ?d18  ?dk0 ?z  law_true
    (case d0 => refine' PP.defAt_mk ?a ?l ?c ?k; (case a => k_is); (case l => k_is); (case c => k_is); (case k => k_is))
    (case d1 => refine' PP.defAt_mk ?a ?l ?c ?k; (case a => k_is); (case l => k_is); (case c => k_is); (case k => k_is))
    (case d2 => refine' PP.defAt_mk ?a ?l ?c ?k; (case a => k_is); (case l => k_is); (case c => k_is); (case k => k_is))
    (case d3 => refine' PP.defAt_mk ?a ?l ?c ?k; (case a => k_is); (case l => k_is); (case c => k_is); (case k => k_is))
    (case d4 => refine' PP.defAt_mk ?a ?l ?c ?k; (case a => k_is); (case l => k_is); (case c => k_is); (case k => k_is))
    (case d5 => refine' PP.defAt_mk ?a ?l ?c ?k; (case a => k_is); (case l => k_is); (case c => k_is); (case k => k_is))
    (case d6 => refine' PP.defAt_mk ?a ?l ?c ?k; (case a => k_is); (case l => k_is); (case c => k_is); (case k => k_is))
    (case d7 => refine' PP.defAt_mk ?a ?l ?c ?k; (case a => k_is); (case l => k_is); (case c => k_is); (case k => k_is))
    (case d8 => refine' PP.defAt_mk ?a ?l ?c ?k; (case a => k_is); (case l => k_is); (case c => k_is); (case k => k_is))
    (case d9 => refine' PP.defAt_mk ?a ?l ?c ?k; (case a => k_is); (case l => k_is); (case c => k_is); (case k => k_is))
    (case d10 => refine' PP.defAt_mk ?a ?l ?c ?k; (case a => k_is); (case l => k_is); (case c => k_is); (case k => k_is))
    (case d11 => refine' PP.defAt_mk ?a ?l ?c ?k; (case a => k_is); (case l => k_is); (case c => k_is); (case k => k_is))
    (case d12 => refine' PP.defAt_mk ?a ?l ?c ?k; (case a => k_is); (case l => k_is); (case c => k_is); (case k => k_is))
    (case d13 => refine' PP.defAt_mk ?a ?l ?c ?k; (case a => k_is); (case l => k_is); (case c => k_is); (case k => k_is))
    (case d14 => refine' PP.defAt_mk ?a ?l ?c ?k; (case a => k_is); (case l => k_is); (case c => k_is); (case k => k_is))
    (case d15 => refine' PP.defAt_mk ?a ?l ?c ?k; (case a => k_is); (case l => k_is); (case c => k_is); (case k => k_is))
    (case d16 => refine' PP.defAt_mk ?a ?l ?c ?k; (case a => k_is); (case l => k_is); (case c => k_is); (case k => k_is))
    (case d17 => refine' PP.defAt_mk ?a ?l ?c ?k; (case a => k_is); (case l => k_is); (case c => k_is); (case k => k_is))
    (case d18 => refine' PP.defAt_mk ?a ?l ?c ?k; (case a => k_is); (case l => k_is); (case c => k_is); (case k => k_is))
    (case dk0 => refine' PP.dct_mk ?a ?l ?w ?r; (case a => k_is); (case l => k_is); (case w => decide); (case r => refine' PP.DRow.cons rfl rfl (v := .ref _) rfl (PP.dn_bbb ?u) ?s; (case u => k_is); (case s => refine' PP.DRow.cons rfl rfl (v := .ref _) rfl (PP.dn_bbb ?u) ?s; (case u => k_is); (case s => refine' PP.DRow.cons rfl rfl (v := .ref _) rfl (PP.dn_bbb ?u) ?s; (case u => k_is); (case s => refine' PP.DRow.cons rfl rfl (v := .ref _) rfl (PP.dn_bbb ?u) ?s; (case u => k_is); (case s => refine' PP.DRow.cons rfl rfl (v := .ref _) rfl (PP.dn_bbb ?u) ?s; (case u => k_is); (case s => refine' PP.DRow.cons rfl rfl (v := .ref _) rfl (PP.dn_bbb ?u) ?s; (case u => k_is); (case s => refine' PP.DRow.cons rfl rfl (v := .ref _) rfl (PP.dn_bbb ?u) ?s; (case u => k_is); (case s => refine' PP.DRow.cons rfl rfl (v := .ref _) rfl (PP.dn_bbb ?u) ?s; (case u => k_is); (case s => exact PP.DRow.nil))))))))))
    (case z => intro x hx; simp only [PP.bltNames, List.mem_cons, List.not_mem_nil, or_false] at hx; rcases hx with rfl | rfl | rfl | rfl | rfl | rfl | rfl | rfl | rfl | rfl | rfl | rfl | rfl | rfl | rfl | rfl | rfl; all_goals k_is)
#print axioms PySem.Challenge.cw_panecuts_k22_whole_listed_holds
