import PyProof.Rows.All
import Wide.All
import OpenK.AllK
import Wide.FinOn
import PyProof.ExcAttrAll.Exception
import Lean
import PySem.Challenge.RW_pb0259_01
set_option Elab.async false
set_option linter.all false
set_option compiler.extract_closed false
section
open PySem PySem.W PyProof.Rows
set_option Elab.async false
set_option maxRecDepth 100000
set_option maxHeartbeats 4000000
namespace Mine

abbrev R : OpenLaw := PySem.Challenge.rw_pb0259_01

theorem nN (lk : Look) : noRoadLSs lk [] = true := rfl
theorem nS (lk : Look) (s : Stmt) (a : List Stmt) : noRoadLSs lk (s :: a) = (noRoadLS lk s && noRoadLSs lk a) := rfl
theorem nA (lk : Look) (ts : List Expr) (v : Expr) (p : Pos) : noRoadLS lk (.Assign ts v p) = (lk.stores ts && noRoadLs lk ts && noRoadL lk v) := rfl
theorem nC (lk : Look) (x : Str) (k : Nat) (q : Pos) : noRoadL lk (.Constant (.str x) k q) = lk.str x := rfl
theorem nL (lk : Look) (e : Expr) (r : List Expr) : noRoadLs lk (e :: r) = (noRoadL lk e && noRoadLs lk r) := rfl
theorem nM (lk : Look) : noRoadLs lk [] = true := rfl
theorem nE (lk : Look) (n : Str) (p : Pos) : noRoadL lk (.Name n p) = lk.name n := rfl
theorem noRoadLSs_append (lk : Look) : ∀ a b, noRoadLSs lk (a ++ b) = (noRoadLSs lk a && noRoadLSs lk b)
  | [], b => by rw [List.nil_append, nN, Bool.true_and]
  | s :: a, b => by rw [List.cons_append, nS, nS, noRoadLSs_append lk a b, Bool.and_assoc]

theorem contains_long {l : List Str} {x : Str} {n : Nat} (h : l.all (fun y => decide (y.cps.size < n)) = true) (hx : n ≤ x.cps.size) : l.contains x = false := by
  rw [Bool.eq_false_iff]
  intro hc
  have := List.all_eq_true.mp h x (by simpa using hc)
  simp only [decide_eq_true_eq] at this
  omega

theorem attrL_long {x : Str} (hx : 100 ≤ x.cps.size) (h2 : x.opensWith "__" = false) : attrL x = true := by
  unfold attrL
  rw [contains_long (n := 100) (by decide +kernel) hx, h2]
  rfl

theorem lkstr_long {x : Str} {bare : List Str} {st : Bool} (hx : 100 ≤ x.cps.size) (h2 : x.opensWith "__" = false) (h3 : roadStr x = false) :
    Look.str { strict := st, foot := none, bare := bare } x = true := by
  unfold Look.str Look.word
  rw [attrL_long hx h2, h3]
  rw [contains_long (n := 100) (by decide +kernel) hx]
  simp

set_option maxHeartbeats 0 in
theorem split_body : R.row.prog.main.body = R.row.prog.main.body.take 26 ++ (R.row.prog.main.body.drop 26).take 1 ++ R.row.prog.main.body.drop 27 := by
  rw [List.append_assoc]
  have : (R.row.prog.main.body.drop 26).take 1 ++ R.row.prog.main.body.drop 27 = R.row.prog.main.body.drop 26 := by
    have h := List.take_append_drop 1 (R.row.prog.main.body.drop 26)
    rwa [List.drop_drop] at h
  rw [this, List.take_append_drop]

noncomputable def resStr : Str := match (R.row.prog.main.body[26]? : Option Stmt) with | some (Stmt.Assign _ (Expr.Constant (Const.str x) _ _) _) => x | _ => default
theorem res_stmt : ∃ n p k q r, (R.row.prog.main.body.drop 26).take 1 = [Stmt.Assign [.Name n p] (Expr.Constant (Const.str resStr) k q) r] ∧ n = Str.ofString "RESERVED" := ⟨_, _, _, _, _, rfl, rfl⟩
noncomputable def resQ : Str :=
  letI t : Str := _
  haveI _h : (match (PySem.Challenge.pw_pb0259_01.main.body[26]? : Option Stmt) with | some (Stmt.Assign _ (Expr.Constant (Const.str x) _ _) _) => some x | _ => none) = some t := (by exact rfl)
  t
theorem resQ_eq : resStr = resQ := rfl
theorem res_len : 100 ≤ resStr.cps.size := by
  rw [resQ_eq]
  exact of_decide_eq_true (by k_qdec)
theorem res_open : resStr.opensWith "__" = false := by
  have : (!resQ.opensWith "__") = true := by k_qdec
  rw [resQ_eq]
  simpa using this
theorem res_road : roadStr resStr = false := by
  rw [resQ_eq]
  have h1 : (!(resQ.cps.toList.any fun c => c == 123 || c == 125)) = true := by k_qdec
  have h2 : (!(resQ.cps.toList.any (· == 46))) = true := by k_qdec
  unfold roadStr
  rw [← Array.any_toList, ← Array.any_toList, Bool.not_eq_true' _ |>.mp h1, Bool.not_eq_true' _ |>.mp h2]
  rfl
noncomputable abbrev lk0 : Look := { strict := !(importedModules R.row.prog.main.body).all cThrough.contains, foot := none, bare := (["vars", "dir", "locals"] : List Str).filter (readsOut R.row.prog R.row.prog.main.body) }
theorem bareEq : ((["vars", "dir", "locals"] : List Str).filter (readsOut R.row.prog R.row.prog.main.body)).all (fun y => !(["RESERVED"] : List Str).contains y) = true := by ((try rw [PySem.W.Fast.te797321630700447069]); (try rw [PySem.W.Fast.te9572597257264208301]); (try rw [PySem.W.Fast.te9558739934217749035]); (try rw [PySem.W.Fast.te16286561074155671207]); (try rw [PySem.W.Fast.te6984425678791042302]); (try rw [PySem.W.Fast.te10792542408131684335]); (try rw [PySem.W.Fast.te10501279942588096481]); (try rw [PySem.W.Fast.te8179353310426384613]); (try rw [PySem.W.Fast.te8326940854005059898]); (try rw [PySem.W.Fast.te12879404354523853263]); (try rw [PySem.W.Fast.te482687673346738481]); (try rw [PySem.W.Fast.te18344453789297297638]); (try rw [PySem.W.Fast.te2357444279172408678]); (try rw [PySem.W.Fast.te13582783067957832011]); (try rw [PySem.W.Fast.te5318747976498570220]); (try rw [PySem.W.Fast.te4274047373036748609]); (try rw [PySem.W.Fast.te12749700546528644094]); (try rw [PySem.W.Fast.te11788848310118352699]); (try rw [PySem.W.Fast.te9807087744658564304]); (try rw [PySem.W.Fast.te12862048085361865435]); (try rw [PySem.W.Fast.te8377067652309620493]); (try rw [PySem.W.Fast.te14412699480532031325]); (try rw [PySem.W.Fast.te17119622794617984870]); (try rw [PySem.W.Fast.te17868728402115742887]); (try rw [PySem.W.Fast.te5923862056798008813]); (try rw [PySem.W.Fast.te17691160309236699985]); (try rw [PySem.W.Fast.te13343964577679436407]); (try rw [PySem.W.Fast.te9706382859710513879]); (try rw [PySem.W.Fast.te7723801398212525404]); (try rw [PySem.W.Fast.te17095254045102204799]); (try rw [PySem.W.Fast.te4857012375875476094]); (try rw [PySem.W.Fast.te3471404346716756564]); (try rw [PySem.W.Fast.te4579403493507170074]); (try rw [PySem.W.Fast.named_eq]); (try rw [PySem.W.Fast.sDec_eq]); (try rw [PySem.W.S.strDecS_eq]); (try rw [PySem.W.R.allR_eq]); (try rw [PySem.W.R.anyR_eq]); (try rw [PySem.W.R.mapR_eq]); (try rw [PySem.W.R.filterR_eq]); kernel_rfl)
theorem strictEq : (!(importedModules R.row.prog.main.body).all cThrough.contains) = false := by decide +kernel
theorem mid : noRoadLSs lk0 ((R.row.prog.main.body.drop 26).take 1) = true := by
  obtain ⟨n, p, k, q, r, h, hn⟩ := res_stmt
  rw [h, nS, nN, Bool.and_true, nA]
  have h1 : noRoadL lk0 (Expr.Constant (Const.str resStr) k q) = true := by
    rw [nC]
    exact lkstr_long res_len res_open res_road
  have h2 : noRoadLs lk0 [Expr.Name n p] = true := by
    rw [nL, nM, nE, Bool.and_true]
    have hb := List.all_eq_true.mp bareEq
    unfold Look.name lk0
    rw [strictEq]
    have : List.contains ((["vars", "dir", "locals"] : List Str).filter (readsOut R.row.prog R.row.prog.main.body)) n = false := by
      rw [Bool.eq_false_iff]
      intro hc
      have := hb n (by simpa using hc)
      rw [hn] at this
      revert this
      decide +kernel
    simp only [this]
    rfl
  rw [h1, h2]
  rfl
theorem pre_ok : noRoadLSs lk0 (R.row.prog.main.body.take 26) = true := by ((try rw [PySem.W.Fast.te797321630700447069]); (try rw [PySem.W.Fast.te9572597257264208301]); (try rw [PySem.W.Fast.te9558739934217749035]); (try rw [PySem.W.Fast.te16286561074155671207]); (try rw [PySem.W.Fast.te6984425678791042302]); (try rw [PySem.W.Fast.te10792542408131684335]); (try rw [PySem.W.Fast.te10501279942588096481]); (try rw [PySem.W.Fast.te8179353310426384613]); (try rw [PySem.W.Fast.te8326940854005059898]); (try rw [PySem.W.Fast.te12879404354523853263]); (try rw [PySem.W.Fast.te482687673346738481]); (try rw [PySem.W.Fast.te18344453789297297638]); (try rw [PySem.W.Fast.te2357444279172408678]); (try rw [PySem.W.Fast.te13582783067957832011]); (try rw [PySem.W.Fast.te5318747976498570220]); (try rw [PySem.W.Fast.te4274047373036748609]); (try rw [PySem.W.Fast.te12749700546528644094]); (try rw [PySem.W.Fast.te11788848310118352699]); (try rw [PySem.W.Fast.te9807087744658564304]); (try rw [PySem.W.Fast.te12862048085361865435]); (try rw [PySem.W.Fast.te8377067652309620493]); (try rw [PySem.W.Fast.te14412699480532031325]); (try rw [PySem.W.Fast.te17119622794617984870]); (try rw [PySem.W.Fast.te17868728402115742887]); (try rw [PySem.W.Fast.te5923862056798008813]); (try rw [PySem.W.Fast.te17691160309236699985]); (try rw [PySem.W.Fast.te13343964577679436407]); (try rw [PySem.W.Fast.te9706382859710513879]); (try rw [PySem.W.Fast.te7723801398212525404]); (try rw [PySem.W.Fast.te17095254045102204799]); (try rw [PySem.W.Fast.te4857012375875476094]); (try rw [PySem.W.Fast.te3471404346716756564]); (try rw [PySem.W.Fast.te4579403493507170074]); (try rw [PySem.W.Fast.named_eq]); (try rw [PySem.W.Fast.sDec_eq]); (try rw [PySem.W.S.strDecS_eq]); (try rw [PySem.W.R.allR_eq]); (try rw [PySem.W.R.anyR_eq]); (try rw [PySem.W.R.mapR_eq]); (try rw [PySem.W.R.filterR_eq]); kernel_rfl)
theorem post_ok : noRoadLSs lk0 (R.row.prog.main.body.drop 27) = true := by ((try rw [PySem.W.Fast.te797321630700447069]); (try rw [PySem.W.Fast.te9572597257264208301]); (try rw [PySem.W.Fast.te9558739934217749035]); (try rw [PySem.W.Fast.te16286561074155671207]); (try rw [PySem.W.Fast.te6984425678791042302]); (try rw [PySem.W.Fast.te10792542408131684335]); (try rw [PySem.W.Fast.te10501279942588096481]); (try rw [PySem.W.Fast.te8179353310426384613]); (try rw [PySem.W.Fast.te8326940854005059898]); (try rw [PySem.W.Fast.te12879404354523853263]); (try rw [PySem.W.Fast.te482687673346738481]); (try rw [PySem.W.Fast.te18344453789297297638]); (try rw [PySem.W.Fast.te2357444279172408678]); (try rw [PySem.W.Fast.te13582783067957832011]); (try rw [PySem.W.Fast.te5318747976498570220]); (try rw [PySem.W.Fast.te4274047373036748609]); (try rw [PySem.W.Fast.te12749700546528644094]); (try rw [PySem.W.Fast.te11788848310118352699]); (try rw [PySem.W.Fast.te9807087744658564304]); (try rw [PySem.W.Fast.te12862048085361865435]); (try rw [PySem.W.Fast.te8377067652309620493]); (try rw [PySem.W.Fast.te14412699480532031325]); (try rw [PySem.W.Fast.te17119622794617984870]); (try rw [PySem.W.Fast.te17868728402115742887]); (try rw [PySem.W.Fast.te5923862056798008813]); (try rw [PySem.W.Fast.te17691160309236699985]); (try rw [PySem.W.Fast.te13343964577679436407]); (try rw [PySem.W.Fast.te9706382859710513879]); (try rw [PySem.W.Fast.te7723801398212525404]); (try rw [PySem.W.Fast.te17095254045102204799]); (try rw [PySem.W.Fast.te4857012375875476094]); (try rw [PySem.W.Fast.te3471404346716756564]); (try rw [PySem.W.Fast.te4579403493507170074]); (try rw [PySem.W.Fast.named_eq]); (try rw [PySem.W.Fast.sDec_eq]); (try rw [PySem.W.S.strDecS_eq]); (try rw [PySem.W.R.allR_eq]); (try rw [PySem.W.R.anyR_eq]); (try rw [PySem.W.R.mapR_eq]); (try rw [PySem.W.R.filterR_eq]); kernel_rfl)
theorem look5 : noRoadLSs lk0 R.row.prog.main.body = true := by
  have e : noRoadLSs lk0 R.row.prog.main.body = noRoadLSs lk0 (R.row.prog.main.body.take 26 ++ (R.row.prog.main.body.drop 26).take 1 ++ R.row.prog.main.body.drop 27) := congrArg _ split_body
  rw [e, noRoadLSs_append, noRoadLSs_append, pre_ok, mid, post_ok]
  rfl
theorem looks : looksOpen R.row.prog = true := by
  refine look_both (look_both (look_both (look_both (look_both ?_ ?_) ?_) ?_) look5) ?_ <;> ((try rw [PySem.W.Fast.te797321630700447069]); (try rw [PySem.W.Fast.te9572597257264208301]); (try rw [PySem.W.Fast.te9558739934217749035]); (try rw [PySem.W.Fast.te16286561074155671207]); (try rw [PySem.W.Fast.te6984425678791042302]); (try rw [PySem.W.Fast.te10792542408131684335]); (try rw [PySem.W.Fast.te10501279942588096481]); (try rw [PySem.W.Fast.te8179353310426384613]); (try rw [PySem.W.Fast.te8326940854005059898]); (try rw [PySem.W.Fast.te12879404354523853263]); (try rw [PySem.W.Fast.te482687673346738481]); (try rw [PySem.W.Fast.te18344453789297297638]); (try rw [PySem.W.Fast.te2357444279172408678]); (try rw [PySem.W.Fast.te13582783067957832011]); (try rw [PySem.W.Fast.te5318747976498570220]); (try rw [PySem.W.Fast.te4274047373036748609]); (try rw [PySem.W.Fast.te12749700546528644094]); (try rw [PySem.W.Fast.te11788848310118352699]); (try rw [PySem.W.Fast.te9807087744658564304]); (try rw [PySem.W.Fast.te12862048085361865435]); (try rw [PySem.W.Fast.te8377067652309620493]); (try rw [PySem.W.Fast.te14412699480532031325]); (try rw [PySem.W.Fast.te17119622794617984870]); (try rw [PySem.W.Fast.te17868728402115742887]); (try rw [PySem.W.Fast.te5923862056798008813]); (try rw [PySem.W.Fast.te17691160309236699985]); (try rw [PySem.W.Fast.te13343964577679436407]); (try rw [PySem.W.Fast.te9706382859710513879]); (try rw [PySem.W.Fast.te7723801398212525404]); (try rw [PySem.W.Fast.te17095254045102204799]); (try rw [PySem.W.Fast.te4857012375875476094]); (try rw [PySem.W.Fast.te3471404346716756564]); (try rw [PySem.W.Fast.te4579403493507170074]); (try rw [PySem.W.Fast.named_eq]); (try rw [PySem.W.Fast.sDec_eq]); (try rw [PySem.W.S.strDecS_eq]); (try rw [PySem.W.R.allR_eq]); (try rw [PySem.W.R.anyR_eq]); (try rw [PySem.W.R.mapR_eq]); (try rw [PySem.W.R.filterR_eq]); kernel_rfl)
theorem part : R.row.partSaid = true := by
  refine look_both (look_both (look_both (look_both (look_both (look_both (look_both (look_both (look_both (look_both (look_both (look_both (look_both looks ?_) ?_) ?_) ?_) ?_) ?_) ?_) ?_) ?_) ?_) ?_) ?_) ?_ <;> first | ((try rw [PySem.W.Fast.te797321630700447069]); (try rw [PySem.W.Fast.te9572597257264208301]); (try rw [PySem.W.Fast.te9558739934217749035]); (try rw [PySem.W.Fast.te16286561074155671207]); (try rw [PySem.W.Fast.te6984425678791042302]); (try rw [PySem.W.Fast.te10792542408131684335]); (try rw [PySem.W.Fast.te10501279942588096481]); (try rw [PySem.W.Fast.te8179353310426384613]); (try rw [PySem.W.Fast.te8326940854005059898]); (try rw [PySem.W.Fast.te12879404354523853263]); (try rw [PySem.W.Fast.te482687673346738481]); (try rw [PySem.W.Fast.te18344453789297297638]); (try rw [PySem.W.Fast.te2357444279172408678]); (try rw [PySem.W.Fast.te13582783067957832011]); (try rw [PySem.W.Fast.te5318747976498570220]); (try rw [PySem.W.Fast.te4274047373036748609]); (try rw [PySem.W.Fast.te12749700546528644094]); (try rw [PySem.W.Fast.te11788848310118352699]); (try rw [PySem.W.Fast.te9807087744658564304]); (try rw [PySem.W.Fast.te12862048085361865435]); (try rw [PySem.W.Fast.te8377067652309620493]); (try rw [PySem.W.Fast.te14412699480532031325]); (try rw [PySem.W.Fast.te17119622794617984870]); (try rw [PySem.W.Fast.te17868728402115742887]); (try rw [PySem.W.Fast.te5923862056798008813]); (try rw [PySem.W.Fast.te17691160309236699985]); (try rw [PySem.W.Fast.te13343964577679436407]); (try rw [PySem.W.Fast.te9706382859710513879]); (try rw [PySem.W.Fast.te7723801398212525404]); (try rw [PySem.W.Fast.te17095254045102204799]); (try rw [PySem.W.Fast.te4857012375875476094]); (try rw [PySem.W.Fast.te3471404346716756564]); (try rw [PySem.W.Fast.te4579403493507170074]); (try rw [PySem.W.Fast.named_eq]); (try rw [PySem.W.Fast.sDec_eq]); (try rw [PySem.W.S.strDecS_eq]); (try rw [PySem.W.R.allR_eq]); (try rw [PySem.W.R.anyR_eq]); (try rw [PySem.W.R.mapR_eq]); (try rw [PySem.W.R.filterR_eq]); kernel_rfl) | decide +kernel
theorem rowsaid : R.row.wellSaid = true := by
  refine look_both (look_both part ?_) ?_ <;> first | ((try rw [PySem.W.Fast.te797321630700447069]); (try rw [PySem.W.Fast.te9572597257264208301]); (try rw [PySem.W.Fast.te9558739934217749035]); (try rw [PySem.W.Fast.te16286561074155671207]); (try rw [PySem.W.Fast.te6984425678791042302]); (try rw [PySem.W.Fast.te10792542408131684335]); (try rw [PySem.W.Fast.te10501279942588096481]); (try rw [PySem.W.Fast.te8179353310426384613]); (try rw [PySem.W.Fast.te8326940854005059898]); (try rw [PySem.W.Fast.te12879404354523853263]); (try rw [PySem.W.Fast.te482687673346738481]); (try rw [PySem.W.Fast.te18344453789297297638]); (try rw [PySem.W.Fast.te2357444279172408678]); (try rw [PySem.W.Fast.te13582783067957832011]); (try rw [PySem.W.Fast.te5318747976498570220]); (try rw [PySem.W.Fast.te4274047373036748609]); (try rw [PySem.W.Fast.te12749700546528644094]); (try rw [PySem.W.Fast.te11788848310118352699]); (try rw [PySem.W.Fast.te9807087744658564304]); (try rw [PySem.W.Fast.te12862048085361865435]); (try rw [PySem.W.Fast.te8377067652309620493]); (try rw [PySem.W.Fast.te14412699480532031325]); (try rw [PySem.W.Fast.te17119622794617984870]); (try rw [PySem.W.Fast.te17868728402115742887]); (try rw [PySem.W.Fast.te5923862056798008813]); (try rw [PySem.W.Fast.te17691160309236699985]); (try rw [PySem.W.Fast.te13343964577679436407]); (try rw [PySem.W.Fast.te9706382859710513879]); (try rw [PySem.W.Fast.te7723801398212525404]); (try rw [PySem.W.Fast.te17095254045102204799]); (try rw [PySem.W.Fast.te4857012375875476094]); (try rw [PySem.W.Fast.te3471404346716756564]); (try rw [PySem.W.Fast.te4579403493507170074]); (try rw [PySem.W.Fast.named_eq]); (try rw [PySem.W.Fast.sDec_eq]); (try rw [PySem.W.S.strDecS_eq]); (try rw [PySem.W.R.allR_eq]); (try rw [PySem.W.R.anyR_eq]); (try rw [PySem.W.R.mapR_eq]); (try rw [PySem.W.R.filterR_eq]); kernel_rfl) | decide +kernel
theorem well : R.wellSaid = true := by
  refine look_both (look_both (look_both (look_both (look_both (look_both (look_both (look_both (look_both (look_both (look_both (look_both (look_both (look_both (look_both (look_both (look_both (look_both rowsaid ?_) ?_) ?_) ?_) ?_) ?_) ?_) ?_) ?_) ?_) ?_) ?_) ?_) ?_) ?_) ?_) ?_) ?_ <;> first | ((try rw [PySem.W.Fast.te797321630700447069]); (try rw [PySem.W.Fast.te9572597257264208301]); (try rw [PySem.W.Fast.te9558739934217749035]); (try rw [PySem.W.Fast.te16286561074155671207]); (try rw [PySem.W.Fast.te6984425678791042302]); (try rw [PySem.W.Fast.te10792542408131684335]); (try rw [PySem.W.Fast.te10501279942588096481]); (try rw [PySem.W.Fast.te8179353310426384613]); (try rw [PySem.W.Fast.te8326940854005059898]); (try rw [PySem.W.Fast.te12879404354523853263]); (try rw [PySem.W.Fast.te482687673346738481]); (try rw [PySem.W.Fast.te18344453789297297638]); (try rw [PySem.W.Fast.te2357444279172408678]); (try rw [PySem.W.Fast.te13582783067957832011]); (try rw [PySem.W.Fast.te5318747976498570220]); (try rw [PySem.W.Fast.te4274047373036748609]); (try rw [PySem.W.Fast.te12749700546528644094]); (try rw [PySem.W.Fast.te11788848310118352699]); (try rw [PySem.W.Fast.te9807087744658564304]); (try rw [PySem.W.Fast.te12862048085361865435]); (try rw [PySem.W.Fast.te8377067652309620493]); (try rw [PySem.W.Fast.te14412699480532031325]); (try rw [PySem.W.Fast.te17119622794617984870]); (try rw [PySem.W.Fast.te17868728402115742887]); (try rw [PySem.W.Fast.te5923862056798008813]); (try rw [PySem.W.Fast.te17691160309236699985]); (try rw [PySem.W.Fast.te13343964577679436407]); (try rw [PySem.W.Fast.te9706382859710513879]); (try rw [PySem.W.Fast.te7723801398212525404]); (try rw [PySem.W.Fast.te17095254045102204799]); (try rw [PySem.W.Fast.te4857012375875476094]); (try rw [PySem.W.Fast.te3471404346716756564]); (try rw [PySem.W.Fast.te4579403493507170074]); (try rw [PySem.W.Fast.named_eq]); (try rw [PySem.W.Fast.sDec_eq]); (try rw [PySem.W.S.strDecS_eq]); (try rw [PySem.W.R.allR_eq]); (try rw [PySem.W.R.anyR_eq]); (try rw [PySem.W.R.mapR_eq]); (try rw [PySem.W.R.filterR_eq]); kernel_rfl) | decide +kernel
end Mine

end
section
open PySem PySem.W PyProof.Rows
set_option Elab.async false
set_option maxRecDepth 100000
set_option maxHeartbeats 4000000
namespace Mine
theorem with_hook {P : Prop} (_H : Hook) (h : P) : P := h
section
local macro_rules | `(tactic| o_head $H) => `(tactic| (refine with_hook $H ?_))
theorem kdef (h : R.row.Holds) : R.row.Holds := by
  k_head
  exact h
end
end Mine

end
section
open PySem PySem.W PySem.W.X PyProof.Rows PySem.Calls
set_option Elab.async false
set_option maxRecDepth 100000
set_option maxHeartbeats 0
namespace Mine
noncomputable def Vw : Program := { R.row.prog with main := { R.row.prog.main with body := ([0,2,4,5,6,7,8,10,11,13,14,15,17,18,20,21,22,23,24,26,27,28,30,32,33,34,35,36] : List Nat).filterMap (R.row.prog.main.body[·]?) } }
noncomputable abbrev LO : List Str := [Str.ofString "Occurs", Str.ofString "LedgerError", Str.ofString "decimal", Str.ofString "Token"]
noncomputable def nth : List Str → Nat → Str
  | [], _ => default
  | a :: _, 0 => a
  | _ :: r, n + 1 => nth r n
-- the program with its names taken out (one small twin, linear in the names)
noncomputable def GG (S : Nat → Str) (r : Str) : Program :=
  letI t : Program := _
  haveI _h : Str.ofString "_law_keys" = S 0 → Str.ofString "ASCENDING K" = S 1 → Str.ofString "DESCENDING KEY IS L M-1" = S 2 → Str.ofString "ASCENDING KEY N" = S 3 → Str.ofString "DESCENDING IS K" = S 4 → Str.ofString "_law_draw" = S 5 → Str.ofString "tape" = S 6 → Str.ofString "many" = S 7 → Str.ofString "cells" = S 8 → Str.ofString "at" = S 9 → Str.ofString "len" = S 10 → Str.ofString "_law_tokens" = S 11 → Str.ofString "words" = S 12 → Str.ofString "found" = S 13 → Str.ofString "range" = S 14 → Str.ofString "kind" = S 15 → Str.ofString "0123456789" = S 16 → Str.ofString "number" = S 17 → Str.ofString "." = S 18 → Str.ofString "sign" = S 19 → Str.ofString "word" = S 20 → Str.ofString "append" = S 21 → Str.ofString "Token" = S 22 → Str.ofString "_law_told" = S 23 → Str.ofString "reader" = S 24 → Str.ofString "Reader" = S 25 → Str.ofString "read_occurs" = S 26 → Str.ofString "GrammarFault" = S 27 → Str.ofString "error" = S 28 → Str.ofString "wrong" = S 29 → Str.ofString "told" = S 30 → Str.ofString "law" = S 31 → Str.ofString "script" = S 32 → Str.ofString "list" = S 33 → Str.ofString "has_two" = S 34 → Str.ofString "low" = S 35 → Str.ofString "high" = S 36 → Str.ofString "max" = S 37 → Str.ofString "str" = S 38 → Str.ofString "TO" = S 39 → Str.ofString "TIMES" = S 40 → Str.ofString "way" = S 41 → Str.ofString "depending" = S 42 → Str.ofString "ref" = S 43 → Str.ofString "D" = S 44 → Str.ofString "G" = S 45 → Str.ofString "H" = S 46 → Str.ofString "DEPENDING" = S 47 → Str.ofString "ON" = S 48 → Str.ofString "OF" = S 49 → Str.ofString "IN" = S 50 → Str.ofString "keys" = S 51 → Str.ofString "indexes" = S 52 → Str.ofString "turn" = S 53 → Str.ofString "text" = S 54 → Str.ofString "split" = S 55 → Str.ofString " " = S 56 → Str.ofString "tuple" = S 57 → Str.ofString "ASCENDING" = S 58 → Str.ofString "name" = S 59 → Str.ofString "KEY" = S 60 → Str.ofString "IS" = S 61 → Str.ofString ".0" = S 62 → Str.ofString "I" = S 63 → Str.ofString "J-2" = S 64 → Str.ofString "INDEXED" = S 65 → Str.ofString "BY" = S 66 → Str.ofString "behind" = S 67 → Str.ofString "VALUE" = S 68 → Str.ofString "PIC" = S 69 → Str.ofString "is_wrong" = S 70 → Str.ofString "due" = S 71 → Str.ofString "1.5" = S 72 → Str.ofString "3" = S 73 → Str.ofString "X" = S 74 → Str.ofString "4" = S 75 → Str.ofString "fast" = S 76 → Str.ofString "is_reserved" = S 77 → Str.ofString "RESERVED" = S 78 → Str.ofString "__init__" = S 79 → Str.ofString "self" = S 80 → Str.ofString "tokens" = S 81 → Str.ofString "named" = S 82 → Str.ofString "peek" = S 83 → Str.ofString "ahead" = S 84 → Str.ofString "is_done" = S 85 → Str.ofString "_wall" = S 86 → Str.ofString "fault" = S 87 → Str.ofString "what" = S 88 → Str.ofString "min" = S 89 → Str.ofString "take" = S 90 → Str.ofString "token" = S 91 → Str.ofString "the text ends too early" = S 92 → Str.ofString "is_kind" = S 93 → Str.ofString "is_word" = S 94 → Str.ofString "worth" = S 95 → Str.ofString "skip" = S 96 → Str.ofString "need" = S 97 → Str.ofString "one_of" = S 98 → Str.ofString "" = S 99 → Str.ofString "a word is asked here" = S 100 → Str.ofString "is_name" = S 101 → Str.ofString "a name is asked here" = S 102 → Str.ofString "names" = S 103 → Str.ofString "is_sign" = S 104 → Str.ofString "skip_sign" = S 105 → Str.ofString "need_sign" = S 106 → Str.ofString " is asked here" = S 107 → Str.ofString "is_number" = S 108 → Str.ofString "signed" = S 109 → Str.ofString "whole" = S 110 → Str.ofString "a whole number is asked here" = S 111 → Str.ofString "read_decimal" = S 112 → Str.ofString "is_whole" = S 113 → Str.ofString "whole_of" = S 114 → Str.ofString "literal" = S 115 → Str.ofString "a literal is asked here" = S 116 → Str.ofString "octets" = S 117 → Str.ofString "__name__" = S 118 → Str.ofString "ledgerspeak.tokens" = S 119 → Str.ofString "is_in_a" = S 120 → Str.ofString "law_pb0259_01" = S 121 → Str.ofString "a" = S 122 → Str.ofString "units_at" = S 123 → Str.ofString "worth_of" = S 124 → Str.ofString "figures" = S 125 → Str.ofString "figure" = S 126 → Str.ofString "FIGURES" = S 127 → Str.ofString "index" = S 128 → Str.ofString "begin" = S 129 → Str.ofString "+" = S 130 → Str.ofString "-" = S 131 → Str.ofString "point" = S 132 → Str.ofString "TokenFault" = S 133 → Str.ofString "no figure behind the point" = S 134 → Str.ofString "no figure" = S 135 → Str.ofString "units" = S 136 → Str.ofString "decimal" = S 137 → Str.ofString "ledgerspeak.reader" = S 138 → Str.ofString "cut_quotient" = S 139 → Str.ofString "top" = S 140 → Str.ofString "bottom" = S 141 → Str.ofString "abs" = S 142 → Str.ofString "scale" = S 143 → Str.ofString "is_rounded" = S 144 → Str.ofString "size" = S 145 → Str.ofString "half" = S 146 → Str.ofString "LedgerError" = S 147 → Str.ofString "Exception" = S 148 → Str.ofString "ledgerspeak.decimals" = S 149 → Str.ofString "ledgerspeak.dataread" = S 150 → Str.ofString "no_expression" = S 151 → Str.ofString "no expression can stand here" = S 152 → Str.ofString "read_ref" = S 153 → Str.ofString "DESCENDING" = S 154 → Str.ofString "is_ascending" = S 155 → Str.ofString "extend" = S 156 → Str.ofString "no such number of occurrences" = S 157 → Str.ofString "Occurs" = S 158 → Str.ofString "ledgerspeak.errors" = S 159 → Str.ofString "MOST_SUBSCRIPTS" = S 160 → Str.ofString "is_part_next" = S 161 → Str.ofString "depth" = S 162 → Str.ofString "(" = S 163 → Str.ofString ")" = S 164 → Str.ofString ":" = S 165 → Str.ofString "read_subscripts" = S 166 → Str.ofString "read_expr" = S 167 → Str.ofString "more than 7 subscripts" = S 168 → Str.ofString "read_part" = S 169 → Str.ofString "length" = S 170 → Str.ofString "qualifiers" = S 171 → Str.ofString "OF IN" = S 172 → Str.ofString "subscripts" = S 173 → Str.ofString "part" = S 174 → Str.ofString "k" = S 175 → Str.ofString "ledgerspeak.items" = S 176 → Str.ofString "ledgerspeak.references" = S 177 → Str.ofString "/claim/cut.py" = S 178 → resQ = r → PySem.Challenge.pw_pb0259_01 = t := by
    intro h0 h1 h2 h3 h4 h5 h6 h7 h8 h9 h10 h11 h12 h13 h14 h15 h16 h17 h18 h19 h20 h21 h22 h23 h24 h25 h26 h27 h28 h29 h30 h31 h32 h33 h34 h35 h36 h37 h38 h39 h40 h41 h42 h43 h44 h45 h46 h47 h48 h49 h50 h51 h52 h53 h54 h55 h56 h57 h58 h59 h60 h61 h62 h63 h64 h65 h66 h67 h68 h69 h70 h71 h72 h73 h74 h75 h76 h77 h78 h79 h80 h81 h82 h83 h84 h85 h86 h87 h88 h89 h90 h91 h92 h93 h94 h95 h96 h97 h98 h99 h100 h101 h102 h103 h104 h105 h106 h107 h108 h109 h110 h111 h112 h113 h114 h115 h116 h117 h118 h119 h120 h121 h122 h123 h124 h125 h126 h127 h128 h129 h130 h131 h132 h133 h134 h135 h136 h137 h138 h139 h140 h141 h142 h143 h144 h145 h146 h147 h148 h149 h150 h151 h152 h153 h154 h155 h156 h157 h158 h159 h160 h161 h162 h163 h164 h165 h166 h167 h168 h169 h170 h171 h172 h173 h174 h175 h176 h177 h178 hR
    unfold resQ at hR
    unfold PySem.Challenge.pw_pb0259_01
    simp (config := {zeta := false, proj := false, beta := false}) only [h0, h1, h2, h3, h4, h5, h6, h7, h8, h9, h10, h11, h12, h13, h14, h15, h16, h17, h18, h19, h20, h21, h22, h23, h24, h25, h26, h27, h28, h29, h30, h31, h32, h33, h34, h35, h36, h37, h38, h39, h40, h41, h42, h43, h44, h45, h46, h47, h48, h49, h50, h51, h52, h53, h54, h55, h56, h57, h58, h59, h60, h61, h62, h63, h64, h65, h66, h67, h68, h69, h70, h71, h72, h73, h74, h75, h76, h77, h78, h79, h80, h81, h82, h83, h84, h85, h86, h87, h88, h89, h90, h91, h92, h93, h94, h95, h96, h97, h98, h99, h100, h101, h102, h103, h104, h105, h106, h107, h108, h109, h110, h111, h112, h113, h114, h115, h116, h117, h118, h119, h120, h121, h122, h123, h124, h125, h126, h127, h128, h129, h130, h131, h132, h133, h134, h135, h136, h137, h138, h139, h140, h141, h142, h143, h144, h145, h146, h147, h148, h149, h150, h151, h152, h153, h154, h155, h156, h157, h158, h159, h160, h161, h162, h163, h164, h165, h166, h167, h168, h169, h170, h171, h172, h173, h174, h175, h176, h177, h178, hR]
    exact rfl
  t
noncomputable def LA : List Str := [Str.ofString "_law_keys", Str.ofString "ASCENDING K", Str.ofString "DESCENDING KEY IS L M-1", Str.ofString "ASCENDING KEY N", Str.ofString "DESCENDING IS K", Str.ofString "_law_draw", Str.ofString "tape", Str.ofString "many", Str.ofString "cells", Str.ofString "at", Str.ofString "len", Str.ofString "_law_tokens", Str.ofString "words", Str.ofString "found", Str.ofString "range", Str.ofString "kind", Str.ofString "0123456789", Str.ofString "number", Str.ofString ".", Str.ofString "sign", Str.ofString "word", Str.ofString "append", Str.ofString "Token", Str.ofString "_law_told", Str.ofString "reader", Str.ofString "Reader", Str.ofString "read_occurs", Str.ofString "GrammarFault", Str.ofString "error", Str.ofString "wrong", Str.ofString "told", Str.ofString "law", Str.ofString "script", Str.ofString "list", Str.ofString "has_two", Str.ofString "low", Str.ofString "high", Str.ofString "max", Str.ofString "str", Str.ofString "TO", Str.ofString "TIMES", Str.ofString "way", Str.ofString "depending", Str.ofString "ref", Str.ofString "D", Str.ofString "G", Str.ofString "H", Str.ofString "DEPENDING", Str.ofString "ON", Str.ofString "OF", Str.ofString "IN", Str.ofString "keys", Str.ofString "indexes", Str.ofString "turn", Str.ofString "text", Str.ofString "split", Str.ofString " ", Str.ofString "tuple", Str.ofString "ASCENDING", Str.ofString "name", Str.ofString "KEY", Str.ofString "IS", Str.ofString ".0", Str.ofString "I", Str.ofString "J-2", Str.ofString "INDEXED", Str.ofString "BY", Str.ofString "behind", Str.ofString "VALUE", Str.ofString "PIC", Str.ofString "is_wrong", Str.ofString "due", Str.ofString "1.5", Str.ofString "3", Str.ofString "X", Str.ofString "4", Str.ofString "fast", Str.ofString "is_reserved", Str.ofString "RESERVED", Str.ofString "__init__", Str.ofString "self", Str.ofString "tokens", Str.ofString "named", Str.ofString "peek", Str.ofString "ahead", Str.ofString "is_done", Str.ofString "_wall", Str.ofString "fault", Str.ofString "what", Str.ofString "min", Str.ofString "take", Str.ofString "token", Str.ofString "the text ends too early", Str.ofString "is_kind", Str.ofString "is_word", Str.ofString "worth", Str.ofString "skip", Str.ofString "need", Str.ofString "one_of", Str.ofString "", Str.ofString "a word is asked here", Str.ofString "is_name", Str.ofString "a name is asked here", Str.ofString "names", Str.ofString "is_sign", Str.ofString "skip_sign", Str.ofString "need_sign", Str.ofString " is asked here", Str.ofString "is_number", Str.ofString "signed", Str.ofString "whole", Str.ofString "a whole number is asked here", Str.ofString "read_decimal", Str.ofString "is_whole", Str.ofString "whole_of", Str.ofString "literal", Str.ofString "a literal is asked here", Str.ofString "octets", Str.ofString "__name__", Str.ofString "ledgerspeak.tokens", Str.ofString "is_in_a", Str.ofString "law_pb0259_01", Str.ofString "a", Str.ofString "units_at", Str.ofString "worth_of", Str.ofString "figures", Str.ofString "figure", Str.ofString "FIGURES", Str.ofString "index", Str.ofString "begin", Str.ofString "+", Str.ofString "-", Str.ofString "point", Str.ofString "TokenFault", Str.ofString "no figure behind the point", Str.ofString "no figure", Str.ofString "units", Str.ofString "decimal", Str.ofString "ledgerspeak.reader", Str.ofString "cut_quotient", Str.ofString "top", Str.ofString "bottom", Str.ofString "abs", Str.ofString "scale", Str.ofString "is_rounded", Str.ofString "size", Str.ofString "half", Str.ofString "LedgerError", Str.ofString "Exception", Str.ofString "ledgerspeak.decimals", Str.ofString "ledgerspeak.dataread", Str.ofString "no_expression", Str.ofString "no expression can stand here", Str.ofString "read_ref", Str.ofString "DESCENDING", Str.ofString "is_ascending", Str.ofString "extend", Str.ofString "no such number of occurrences", Str.ofString "Occurs", Str.ofString "ledgerspeak.errors", Str.ofString "MOST_SUBSCRIPTS", Str.ofString "is_part_next", Str.ofString "depth", Str.ofString "(", Str.ofString ")", Str.ofString ":", Str.ofString "read_subscripts", Str.ofString "read_expr", Str.ofString "more than 7 subscripts", Str.ofString "read_part", Str.ofString "length", Str.ofString "qualifiers", Str.ofString "OF IN", Str.ofString "subscripts", Str.ofString "part", Str.ofString "k", Str.ofString "ledgerspeak.items", Str.ofString "ledgerspeak.references", Str.ofString "/claim/cut.py"]
noncomputable def LB : List Str := [⟨Array.mk [95, 108, 97, 119, 95, 107, 101, 121, 115]⟩, ⟨Array.mk [65, 83, 67, 69, 78, 68, 73, 78, 71, 32, 75]⟩, ⟨Array.mk [68, 69, 83, 67, 69, 78, 68, 73, 78, 71, 32, 75, 69, 89, 32, 73, 83, 32, 76, 32, 77, 45, 49]⟩, ⟨Array.mk [65, 83, 67, 69, 78, 68, 73, 78, 71, 32, 75, 69, 89, 32, 78]⟩, ⟨Array.mk [68, 69, 83, 67, 69, 78, 68, 73, 78, 71, 32, 73, 83, 32, 75]⟩, ⟨Array.mk [95, 108, 97, 119, 95, 100, 114, 97, 119]⟩, ⟨Array.mk [116, 97, 112, 101]⟩, ⟨Array.mk [109, 97, 110, 121]⟩, ⟨Array.mk [99, 101, 108, 108, 115]⟩, ⟨Array.mk [97, 116]⟩, ⟨Array.mk [108, 101, 110]⟩, ⟨Array.mk [95, 108, 97, 119, 95, 116, 111, 107, 101, 110, 115]⟩, ⟨Array.mk [119, 111, 114, 100, 115]⟩, ⟨Array.mk [102, 111, 117, 110, 100]⟩, ⟨Array.mk [114, 97, 110, 103, 101]⟩, ⟨Array.mk [107, 105, 110, 100]⟩, ⟨Array.mk [48, 49, 50, 51, 52, 53, 54, 55, 56, 57]⟩, ⟨Array.mk [110, 117, 109, 98, 101, 114]⟩, ⟨Array.mk [46]⟩, ⟨Array.mk [115, 105, 103, 110]⟩, ⟨Array.mk [119, 111, 114, 100]⟩, ⟨Array.mk [97, 112, 112, 101, 110, 100]⟩, ⟨Array.mk [84, 111, 107, 101, 110]⟩, ⟨Array.mk [95, 108, 97, 119, 95, 116, 111, 108, 100]⟩, ⟨Array.mk [114, 101, 97, 100, 101, 114]⟩, ⟨Array.mk [82, 101, 97, 100, 101, 114]⟩, ⟨Array.mk [114, 101, 97, 100, 95, 111, 99, 99, 117, 114, 115]⟩, ⟨Array.mk [71, 114, 97, 109, 109, 97, 114, 70, 97, 117, 108, 116]⟩, ⟨Array.mk [101, 114, 114, 111, 114]⟩, ⟨Array.mk [119, 114, 111, 110, 103]⟩, ⟨Array.mk [116, 111, 108, 100]⟩, ⟨Array.mk [108, 97, 119]⟩, ⟨Array.mk [115, 99, 114, 105, 112, 116]⟩, ⟨Array.mk [108, 105, 115, 116]⟩, ⟨Array.mk [104, 97, 115, 95, 116, 119, 111]⟩, ⟨Array.mk [108, 111, 119]⟩, ⟨Array.mk [104, 105, 103, 104]⟩, ⟨Array.mk [109, 97, 120]⟩, ⟨Array.mk [115, 116, 114]⟩, ⟨Array.mk [84, 79]⟩, ⟨Array.mk [84, 73, 77, 69, 83]⟩, ⟨Array.mk [119, 97, 121]⟩, ⟨Array.mk [100, 101, 112, 101, 110, 100, 105, 110, 103]⟩, ⟨Array.mk [114, 101, 102]⟩, ⟨Array.mk [68]⟩, ⟨Array.mk [71]⟩, ⟨Array.mk [72]⟩, ⟨Array.mk [68, 69, 80, 69, 78, 68, 73, 78, 71]⟩, ⟨Array.mk [79, 78]⟩, ⟨Array.mk [79, 70]⟩, ⟨Array.mk [73, 78]⟩, ⟨Array.mk [107, 101, 121, 115]⟩, ⟨Array.mk [105, 110, 100, 101, 120, 101, 115]⟩, ⟨Array.mk [116, 117, 114, 110]⟩, ⟨Array.mk [116, 101, 120, 116]⟩, ⟨Array.mk [115, 112, 108, 105, 116]⟩, ⟨Array.mk [32]⟩, ⟨Array.mk [116, 117, 112, 108, 101]⟩, ⟨Array.mk [65, 83, 67, 69, 78, 68, 73, 78, 71]⟩, ⟨Array.mk [110, 97, 109, 101]⟩, ⟨Array.mk [75, 69, 89]⟩, ⟨Array.mk [73, 83]⟩, ⟨Array.mk [46, 48]⟩, ⟨Array.mk [73]⟩, ⟨Array.mk [74, 45, 50]⟩, ⟨Array.mk [73, 78, 68, 69, 88, 69, 68]⟩, ⟨Array.mk [66, 89]⟩, ⟨Array.mk [98, 101, 104, 105, 110, 100]⟩, ⟨Array.mk [86, 65, 76, 85, 69]⟩, ⟨Array.mk [80, 73, 67]⟩, ⟨Array.mk [105, 115, 95, 119, 114, 111, 110, 103]⟩, ⟨Array.mk [100, 117, 101]⟩, ⟨Array.mk [49, 46, 53]⟩, ⟨Array.mk [51]⟩, ⟨Array.mk [88]⟩, ⟨Array.mk [52]⟩, ⟨Array.mk [102, 97, 115, 116]⟩, ⟨Array.mk [105, 115, 95, 114, 101, 115, 101, 114, 118, 101, 100]⟩, ⟨Array.mk [82, 69, 83, 69, 82, 86, 69, 68]⟩, ⟨Array.mk [95, 95, 105, 110, 105, 116, 95, 95]⟩, ⟨Array.mk [115, 101, 108, 102]⟩, ⟨Array.mk [116, 111, 107, 101, 110, 115]⟩, ⟨Array.mk [110, 97, 109, 101, 100]⟩, ⟨Array.mk [112, 101, 101, 107]⟩, ⟨Array.mk [97, 104, 101, 97, 100]⟩, ⟨Array.mk [105, 115, 95, 100, 111, 110, 101]⟩, ⟨Array.mk [95, 119, 97, 108, 108]⟩, ⟨Array.mk [102, 97, 117, 108, 116]⟩, ⟨Array.mk [119, 104, 97, 116]⟩, ⟨Array.mk [109, 105, 110]⟩, ⟨Array.mk [116, 97, 107, 101]⟩, ⟨Array.mk [116, 111, 107, 101, 110]⟩, ⟨Array.mk [116, 104, 101, 32, 116, 101, 120, 116, 32, 101, 110, 100, 115, 32, 116, 111, 111, 32, 101, 97, 114, 108, 121]⟩, ⟨Array.mk [105, 115, 95, 107, 105, 110, 100]⟩, ⟨Array.mk [105, 115, 95, 119, 111, 114, 100]⟩, ⟨Array.mk [119, 111, 114, 116, 104]⟩, ⟨Array.mk [115, 107, 105, 112]⟩, ⟨Array.mk [110, 101, 101, 100]⟩, ⟨Array.mk [111, 110, 101, 95, 111, 102]⟩, ⟨Array.mk []⟩, ⟨Array.mk [97, 32, 119, 111, 114, 100, 32, 105, 115, 32, 97, 115, 107, 101, 100, 32, 104, 101, 114, 101]⟩, ⟨Array.mk [105, 115, 95, 110, 97, 109, 101]⟩, ⟨Array.mk [97, 32, 110, 97, 109, 101, 32, 105, 115, 32, 97, 115, 107, 101, 100, 32, 104, 101, 114, 101]⟩, ⟨Array.mk [110, 97, 109, 101, 115]⟩, ⟨Array.mk [105, 115, 95, 115, 105, 103, 110]⟩, ⟨Array.mk [115, 107, 105, 112, 95, 115, 105, 103, 110]⟩, ⟨Array.mk [110, 101, 101, 100, 95, 115, 105, 103, 110]⟩, ⟨Array.mk [32, 105, 115, 32, 97, 115, 107, 101, 100, 32, 104, 101, 114, 101]⟩, ⟨Array.mk [105, 115, 95, 110, 117, 109, 98, 101, 114]⟩, ⟨Array.mk [115, 105, 103, 110, 101, 100]⟩, ⟨Array.mk [119, 104, 111, 108, 101]⟩, ⟨Array.mk [97, 32, 119, 104, 111, 108, 101, 32, 110, 117, 109, 98, 101, 114, 32, 105, 115, 32, 97, 115, 107, 101, 100, 32, 104, 101, 114, 101]⟩, ⟨Array.mk [114, 101, 97, 100, 95, 100, 101, 99, 105, 109, 97, 108]⟩, ⟨Array.mk [105, 115, 95, 119, 104, 111, 108, 101]⟩, ⟨Array.mk [119, 104, 111, 108, 101, 95, 111, 102]⟩, ⟨Array.mk [108, 105, 116, 101, 114, 97, 108]⟩, ⟨Array.mk [97, 32, 108, 105, 116, 101, 114, 97, 108, 32, 105, 115, 32, 97, 115, 107, 101, 100, 32, 104, 101, 114, 101]⟩, ⟨Array.mk [111, 99, 116, 101, 116, 115]⟩, ⟨Array.mk [95, 95, 110, 97, 109, 101, 95, 95]⟩, ⟨Array.mk [108, 101, 100, 103, 101, 114, 115, 112, 101, 97, 107, 46, 116, 111, 107, 101, 110, 115]⟩, ⟨Array.mk [105, 115, 95, 105, 110, 95, 97]⟩, ⟨Array.mk [108, 97, 119, 95, 112, 98, 48, 50, 53, 57, 95, 48, 49]⟩, ⟨Array.mk [97]⟩, ⟨Array.mk [117, 110, 105, 116, 115, 95, 97, 116]⟩, ⟨Array.mk [119, 111, 114, 116, 104, 95, 111, 102]⟩, ⟨Array.mk [102, 105, 103, 117, 114, 101, 115]⟩, ⟨Array.mk [102, 105, 103, 117, 114, 101]⟩, ⟨Array.mk [70, 73, 71, 85, 82, 69, 83]⟩, ⟨Array.mk [105, 110, 100, 101, 120]⟩, ⟨Array.mk [98, 101, 103, 105, 110]⟩, ⟨Array.mk [43]⟩, ⟨Array.mk [45]⟩, ⟨Array.mk [112, 111, 105, 110, 116]⟩, ⟨Array.mk [84, 111, 107, 101, 110, 70, 97, 117, 108, 116]⟩, ⟨Array.mk [110, 111, 32, 102, 105, 103, 117, 114, 101, 32, 98, 101, 104, 105, 110, 100, 32, 116, 104, 101, 32, 112, 111, 105, 110, 116]⟩, ⟨Array.mk [110, 111, 32, 102, 105, 103, 117, 114, 101]⟩, ⟨Array.mk [117, 110, 105, 116, 115]⟩, ⟨Array.mk [100, 101, 99, 105, 109, 97, 108]⟩, ⟨Array.mk [108, 101, 100, 103, 101, 114, 115, 112, 101, 97, 107, 46, 114, 101, 97, 100, 101, 114]⟩, ⟨Array.mk [99, 117, 116, 95, 113, 117, 111, 116, 105, 101, 110, 116]⟩, ⟨Array.mk [116, 111, 112]⟩, ⟨Array.mk [98, 111, 116, 116, 111, 109]⟩, ⟨Array.mk [97, 98, 115]⟩, ⟨Array.mk [115, 99, 97, 108, 101]⟩, ⟨Array.mk [105, 115, 95, 114, 111, 117, 110, 100, 101, 100]⟩, ⟨Array.mk [115, 105, 122, 101]⟩, ⟨Array.mk [104, 97, 108, 102]⟩, ⟨Array.mk [76, 101, 100, 103, 101, 114, 69, 114, 114, 111, 114]⟩, ⟨Array.mk [69, 120, 99, 101, 112, 116, 105, 111, 110]⟩, ⟨Array.mk [108, 101, 100, 103, 101, 114, 115, 112, 101, 97, 107, 46, 100, 101, 99, 105, 109, 97, 108, 115]⟩, ⟨Array.mk [108, 101, 100, 103, 101, 114, 115, 112, 101, 97, 107, 46, 100, 97, 116, 97, 114, 101, 97, 100]⟩, ⟨Array.mk [110, 111, 95, 101, 120, 112, 114, 101, 115, 115, 105, 111, 110]⟩, ⟨Array.mk [110, 111, 32, 101, 120, 112, 114, 101, 115, 115, 105, 111, 110, 32, 99, 97, 110, 32, 115, 116, 97, 110, 100, 32, 104, 101, 114, 101]⟩, ⟨Array.mk [114, 101, 97, 100, 95, 114, 101, 102]⟩, ⟨Array.mk [68, 69, 83, 67, 69, 78, 68, 73, 78, 71]⟩, ⟨Array.mk [105, 115, 95, 97, 115, 99, 101, 110, 100, 105, 110, 103]⟩, ⟨Array.mk [101, 120, 116, 101, 110, 100]⟩, ⟨Array.mk [110, 111, 32, 115, 117, 99, 104, 32, 110, 117, 109, 98, 101, 114, 32, 111, 102, 32, 111, 99, 99, 117, 114, 114, 101, 110, 99, 101, 115]⟩, ⟨Array.mk [79, 99, 99, 117, 114, 115]⟩, ⟨Array.mk [108, 101, 100, 103, 101, 114, 115, 112, 101, 97, 107, 46, 101, 114, 114, 111, 114, 115]⟩, ⟨Array.mk [77, 79, 83, 84, 95, 83, 85, 66, 83, 67, 82, 73, 80, 84, 83]⟩, ⟨Array.mk [105, 115, 95, 112, 97, 114, 116, 95, 110, 101, 120, 116]⟩, ⟨Array.mk [100, 101, 112, 116, 104]⟩, ⟨Array.mk [40]⟩, ⟨Array.mk [41]⟩, ⟨Array.mk [58]⟩, ⟨Array.mk [114, 101, 97, 100, 95, 115, 117, 98, 115, 99, 114, 105, 112, 116, 115]⟩, ⟨Array.mk [114, 101, 97, 100, 95, 101, 120, 112, 114]⟩, ⟨Array.mk [109, 111, 114, 101, 32, 116, 104, 97, 110, 32, 55, 32, 115, 117, 98, 115, 99, 114, 105, 112, 116, 115]⟩, ⟨Array.mk [114, 101, 97, 100, 95, 112, 97, 114, 116]⟩, ⟨Array.mk [108, 101, 110, 103, 116, 104]⟩, ⟨Array.mk [113, 117, 97, 108, 105, 102, 105, 101, 114, 115]⟩, ⟨Array.mk [79, 70, 32, 73, 78]⟩, ⟨Array.mk [115, 117, 98, 115, 99, 114, 105, 112, 116, 115]⟩, ⟨Array.mk [112, 97, 114, 116]⟩, ⟨Array.mk [107]⟩, ⟨Array.mk [108, 101, 100, 103, 101, 114, 115, 112, 101, 97, 107, 46, 105, 116, 101, 109, 115]⟩, ⟨Array.mk [108, 101, 100, 103, 101, 114, 115, 112, 101, 97, 107, 46, 114, 101, 102, 101, 114, 101, 110, 99, 101, 115]⟩, ⟨Array.mk [47, 99, 108, 97, 105, 109, 47, 99, 117, 116, 46, 112, 121]⟩]
theorem hL : LA = LB := by kernel_rfl
theorem gA : PySem.Challenge.pw_pb0259_01 = GG (nth LA) resQ := by kernel_rfl
noncomputable def resW : Str := PySem.W.Fast.tw15975112581456037292
noncomputable def twP : Program := GG (nth LB) resW
theorem teP : R.row.prog = twP := by
  show PySem.Challenge.pw_pb0259_01 = GG (nth LB) resW
  rw [gA, hL, show resQ = resW from PySem.W.Fast.te15975112581456037292]
noncomputable def Vt : Program := { twP with main := { twP.main with body := ([0,2,4,5,6,7,8,10,11,13,14,15,17,18,20,21,22,23,24,26,27,28,30,32,33,34,35,36] : List Nat).filterMap (twP.main.body[·]?) } }
theorem eV : Vw = Vt := by
  unfold Vw Vt
  rw [teP]
noncomputable def getR (o : Obj) : Str := match o.data with
  | .dict es _ => (match es.toList.find? (fun e => e.key.isStr "RESERVED") with | some e => (match e.val with | .str s _ => s | _ => default) | none => default)
  | _ => default
noncomputable def ents (o : Obj) : List DictEntry := match o.data with | .dict es _ => es.toList | _ => []
noncomputable def putB (x : Str) (t : Nat) (l : List DictEntry) : Nat → List DictEntry :=
  @List.rec DictEntry (fun _ => Nat → List DictEntry) (fun _ => []) (fun e r ih n => @Nat.rec (fun _ => List DictEntry) (@DictEntry.rec (fun _ => List DictEntry) (fun h k _ => ⟨h, k, .str x t⟩ :: r) e) (fun m _ => e :: ih m) n) l
noncomputable def mkO (l : List DictEntry) : Obj := ⟨.type "dict", none, .dict l.toArray 38, #[]⟩
noncomputable abbrev KP := Mine.kdef.heap_1
noncomputable def obj3 (P : Params) : Obj := ((KP P)[1]?.map (·.2)).getD default
noncomputable def resT : Str := match (twP.main.body[26]? : Option Stmt) with | some (Stmt.Assign _ (Expr.Constant (Const.str x) _ _) _) => x | _ => default
noncomputable def KQ (P : Params) : Frag := (KP P).take 1 ++ (3, mkO (putB resT 443 (ents (obj3 P)) 29)) :: (KP P).drop 2
noncomputable def asL : List Addr := [2, 3, 15, 17, 18, 20, 21, 29, 30, 31, 32, 34, 35, 37, 38, 39, 41, 42, 44, 45, 46, 47, 48, 49, 50, 53, 55, 56, 58, 59, 60, 62, 63, 65, 66, 67, 69, 70, 72, 73, 74, 76, 77, 79, 80, 81, 83, 84, 86, 87, 88, 91, 92, 93, 100, 101, 102, 104, 105, 107, 108, 109, 111, 112, 114, 115, 116, 117, 118, 119, 122, 129, 130, 131, 134, 141, 142, 143, 146, 148, 149, 151, 152, 153, 154, 156, 157, 159, 160, 161, 163, 164, 166, 167, 168, 170, 171, 173, 174, 175, 177, 178, 180, 181, 182, 184, 185, 187, 188, 189, 191, 192, 194, 195, 196, 198, 199, 201, 202, 210, 211, 213, 214, 216, 217, 218, 219, 221, 222, 224, 225, 226, 228, 229, 231, 232, 233, 235, 236, 238, 239, 240, 242, 243, 245, 246, 247, 248, 250, 251, 253, 254, 255, 257, 258, 260, 261, 262, 264, 265, 267, 268, 269, 271, 272, 274, 275, 276, 278, 279, 281, 282, 283, 285, 286, 288, 289, 290, 291, 293, 294, 296, 297, 298, 300, 301, 303, 304, 305, 307, 308, 310, 311, 312, 313, 315, 316, 318, 319, 320, 322, 323, 325, 326, 327, 329, 330, 332, 333, 334, 336, 337, 339, 340, 341, 343, 344, 346, 347, 348, 350, 351, 353, 354, 355, 357, 358, 360, 361, 362, 364, 365, 367, 368, 369, 370, 371, 372, 373, 383, 384, 385, 387, 388, 390, 391, 392, 394, 395, 397, 398, 399, 400, 401, 402, 403, 406, 407, 409, 410, 412, 413, 414, 416, 417, 419, 420, 421, 423, 424, 426, 427, 428, 431, 432]
theorem asL_eq (P : Params) : asL = (KQ P).map (·.1) := by kernel_rfl
noncomputable abbrev HK : Hook := kHook KQ asL asL_eq
-- the run over a tree instead of an array: a quarter of the time and of the memory
noncomputable def mkT : BT → Nat → List Obj → BT
  | t, _, [] => t
  | t, n, o :: r => mkT (t.ins n o) (n + 1) r
noncomputable def bT (P : Params) : BT := mkT .nil 0 (boot_heap P).objs.toList
noncomputable def bS (w : World) (os : OsState) : SharedT := ⟨bT w.params, (boot_heap w.params).objs.size, (boot_heap w.params).life, Array.mk [], boot_drawn, boot_toks, os⟩
theorem bT_abs (P : Params) : absHeap (bT P) (boot_heap P).objs.size (boot_heap P).life = boot_heap P := by kernel_rfl
theorem bNs (P : Params) : ((boot_heap P).isNs mainGlobals && (Array.mk [] : Array GenState).size == 0) = true := by kernel_rfl
theorem through_end (t : Thread) : through t = (endAt 0 t).isSome := by
  obtain ⟨c, k, p, st⟩ := t
  unfold through endAt
  cases st with
  | nil =>
    cases c with
    | pure a => cases a <;> rfl
    | _ => rfl
  | cons a l => rfl
theorem top_of_seg {tb : String → Option Builtin} {p : Program} {w : World} {n₀ : Nat} {ann : Option Value} : ∀ {n : Nat} {s s' : Shared} {t : Thread} {f : Flow} {c : Code} {q : Pos}, segRun tb p w n₀ ann 0 n s t = some (f, s', c, q) → topRun tb p w n₀ ann n s t = some s'
  | 0, _, _, _, _, _, _, h => by cases h
  | n + 1, s, s', t, f, c, q, h => by
    unfold segRun at h
    unfold topRun
    rw [through_end]
    cases he : endAt 0 t with
    | some x => rw [he] at h; cases h; rfl
    | none =>
      rw [he] at h
      cases hk : stepOk n₀ ann t with
      | false => rw [hk] at h; cases h
      | true =>
        rw [hk] at h
        cases hs : step (denote tb) p w s t with
        | halt o s₂ => rw [hs] at h; cases h
        | go s₂ t₂ => rw [hs] at h; exact top_of_seg h
theorem obs_of {T : BT} {n : Nat} {life : Life} : ∀ {as : List Addr} {L : Frag}, (as.map fun a => (T.get a).bind alive) = L.map (fun p => some p.2) → as.all (fun a => Nat.blt a n) = true → as.map (absHeap T n life).get? = L.map (fun p => some p.2)
  | [], L, h, _ => h
  | a :: as, [], h, _ => by cases h
  | a :: as, p :: L, h, k => by
    rw [List.map_cons, List.map_cons] at h
    obtain ⟨h1, h2⟩ := List.cons.inj h
    rw [List.all_cons, Bool.and_eq_true] at k
    rw [List.map_cons, List.map_cons, obs_of h2 k.2]
    cases g : T.get a with
    | none => rw [g] at h1; cases h1
    | some o =>
      rw [g] at h1
      exact congrArg (· :: _) ((abs_get (Nat.le_of_ble_eq_true k.1) g).trans h1)
theorem runT (w : World) (os : OsState) : (segRunT treeTable R.row.prog w (boot_heap w.params).objs.size ((boot_heap w.params).nsMap mainGlobals "__annotations__") 0 5772 (bS w os) (topStub R.row.prog)).map
    (fun x => (asL.all (fun a => Nat.blt a x.2.1.n), asL.map (fun a => (x.2.1.tree.get a).bind alive), (fun s₁ => (staticsOk (importedModules R.row.prog.main.body) (boot_heap w.params) s₁.heap && namesBound R.row.prog s₁.heap && gensDone s₁ && laidKept (boot_heap w.params) s₁.heap, openSeen Vw LO (importedModules R.row.prog.main.body) (fun s => xlAt Vw [] s && recOk (RowW.records R.row.toRowW) s) true s₁)) x.2.1.abs)) = some (true, (KQ w.params).map (fun p => some p.2), true, openGood Vw LO) := by
  rw [PySem.W.Fast.te14364793385576792824, PySem.W.Fast.te10110043849684766642, PySem.W.Fast.te4187177175401517315, PySem.W.Fast.te5923862056798008813]
  rw [show PySem.Challenge.rw_pb0259_01.row.prog = _ from teP]
  rw [eV]
  kernel_rfl!
theorem run (w : World) (os : OsState) : (topFrom treeTable R.row.prog w 5772 ⟨boot_heap w.params, Array.mk [], boot_drawn, boot_toks, os⟩).map (fun s => (openSeen Vw LO (importedModules R.row.prog.main.body) (fun s => xlAt Vw [] s && recOk (RowW.records R.row.toRowW) s) true s, HK.obs s)) = some (openGood Vw LO, HK.val w) := by
  obtain ⟨⟨f, s', c, q⟩, h, e⟩ := Option.map_eq_some_iff.mp (runT w os)
  have h1 := top_of_seg (segRun_of h)
  have hb : (bS w os).abs = ⟨boot_heap w.params, Array.mk [], boot_drawn, boot_toks, os⟩ := by
    show Shared.mk (absHeap (bT w.params) (boot_heap w.params).objs.size (boot_heap w.params).life) (Array.mk []) boot_drawn boot_toks os = _
    rw [bT_abs]
  rw [hb] at h1
  obtain ⟨e1, e2⟩ := Prod.mk.inj e
  obtain ⟨e2, e3⟩ := Prod.mk.inj e2
  obtain ⟨e3, e4⟩ := Prod.mk.inj e3
  unfold topFrom
  dsimp only
  rw [bNs]
  dsimp only
  rw [h1, Option.bind_some]
  rw [e3]
  exact congrArg some (Prod.ext e4 (obs_of e2 e1))
theorem left : LeftO R.row.prog Vw LO (fun s => xlAt Vw [] s && recOk (RowW.records R.row.toRowW) s) HK.obs HK.val 5772 := by
  intro w
  have ho := boot_open (p := R.row.prog) (N := 5772) rfl (by decide) (fun s => rfl) w
  obtain ⟨⟨h, gs, d, k, os⟩, hs, e⟩ := Option.map_eq_some_iff.mp ho
  obtain ⟨rfl, rfl, rfl, rfl⟩ : h = boot_heap w.params ∧ gs = Array.mk [] ∧ d = boot_drawn ∧ k = boot_toks := by simpa using e
  unfold openEnds
  rw [hs, Option.bind_some]
  exact run w os
theorem KP_split (P : Params) : KP P = (KP P).take 1 ++ (3, obj3 P) :: (KP P).drop 2 := by kernel_rfl
theorem ofStr_eq (s : String) (l : List Char) (x : Str) (h : s = String.ofList l) (hx : x = ⟨(l.map Char.toNat).toArray⟩) : Str.ofString s = x := by
  subst h; rw [hx]; exact Fast.ofString_ofList l
theorem res_conv (x : Str) (s : String) (hs : resStr = Str.ofString s) (h : s = String.ofList (x.cps.toList.map Char.ofNat)) (hx : x = ⟨((x.cps.toList.map Char.ofNat).map Char.toNat).toArray⟩) : resStr = x := by
  rw [hs]; exact ofStr_eq _ _ _ h hx
theorem q2 (P : Params) : obj3 P = mkO (putB (getR (obj3 P)) 443 (ents (obj3 P)) 29) := by kernel_rfl
theorem qT : resStr = resT := res_conv _ _ rfl (by kernel_rfl) (by kernel_rfl)
theorem qR (P : Params) : getR (obj3 P) = resStr := by kernel_rfl
theorem kq (P : Params) : KQ P = KP P := by
  have e : mkO (putB resT 443 (ents (obj3 P)) 29) = obj3 P := by
    rw [← qT, ← qR P]; exact (q2 P).symm
  unfold KQ
  rw [e]
  exact (KP_split P).symm
end Mine

end
section
open PySem PySem.W PyProof.Rows PySem.Calls
set_option Elab.async false
set_option maxRecDepth 100000
set_option maxHeartbeats 4000000
namespace Mine
theorem reg : True := by
  have : PySem.Challenge.rw_pb0259_01 = PySem.Challenge.rw_pb0259_01 ∧ kdef.heap_1 = kdef.heap_1 := by k_fill; exact ⟨rfl, rfl⟩
  trivial
end Mine
end
section
open PySem PySem.W PyProof.Rows PySem.Calls
set_option Elab.async false
set_option maxRecDepth 100000
set_option maxHeartbeats 1000000
namespace Mine
section
variable {prog : Program} {w : World} {A : Around} {R : Result → Shared → Prop} {h : Heap} {g : Array GenState} {d : Drawn} {t : Nat} {os : OsState}
variable {nm q : Str} {C N : Addr} {bs bm bmB : List Value} {hdct : Bool} {sn : List Str} {sub : List Value} {ab : Bool} {col : Option Bool} {dd : Option Addr} {k0 k1 k2 k3 k5 : Option Value} {B newId initId : String}
/-- the check ahead of the making -/
theorem xcheck {M : Model} {E : Value → Shared → Prop} (F : ExcBaseFacts B newId initId bmB) (hB : bm.contains (.type B) = true) {rest : List Value} {Q : Unit → Shared → Prop} (hC : h.get? C = some (excClassObj nm q C N bs bm hdct sn sub ab col dd k0 k1 k2 k3 k5 newId))
    (hq : Q () ⟨h, g, d, t, os⟩) : wpAny M A (checkBuiltinCall newId ⟨.ref C :: rest, []⟩) Q E ⟨h, g, d, t, os⟩ := by
  have hc : (Value.ref C :: bm).contains (.type B) = true := by rw [List.contains_cons, hB, Bool.or_true]
  have hs := F.noStar
  simp only [checkBuiltinCall, F.newKind, F.newSplit, F.newRow]
  repeat (first | refine wpAny_loadPart_at hC ?_ | (refine wpAny_isSubtype_exc hC ?_; rw [hc]) | refine wpAny_staticBase_exc hC ?_ | refine wpAny_madeBy_exc hC ?_ | simp only [bne_self_eq_false, Bool.false_eq_true, if_false] | wp_step)
  exact hq
/-- an own exception class: the raw object -/
theorem xnew (F : ExcBaseFacts B newId initId bmB) (hB : bm.contains (.type B) = true) (hA : bm.contains (.type "AttributeError") = false) (hN : bm.contains (.type "NameError") = false) {rest : List Value}
    (hC : h.get? C = some (excClassObj nm q C N bs bm hdct sn sub ab col dd k0 k1 k2 k3 k5 newId))
    (hq : R (.ok (.ret (.ref (h.objs.size + 1)))) ⟨(h.push { cls := .type "tuple", data := .seq rest.toArray }).push
      { cls := .ref C, data := .fields #[.ref h.objs.size, .none, .none, .none, .bool false, .none] }, g, d, t, os⟩) (hz : rest.length ≤ sizeLine) :
    codeAny (model prog w) A (.builtin newId ⟨.ref C :: rest, []⟩) R ⟨h, g, d, t, os⟩ := by
  have he := F.ends
  have c1 : (Value.ref C :: bm).contains (.type B) = true := by rw [List.contains_cons, hB, Bool.or_true]
  have c2 : (Value.ref C :: bm).contains (.type "AttributeError") = false := by rw [List.contains_cons, hA]; rfl
  have c3 : (Value.ref C :: bm).contains (.type "NameError") = false := by rw [List.contains_cons, hN]; rfl
  refine codeAny_builtinAt F.entry ?_
  unfold Builtin.«BaseException.__new__»
  refine PySem.wpAt_bind ?_
  show PySem.wpAt _ _ _ (stack >>= _) _ _ _
  refine PySem.wpAt_bind (PySem.wpAt_stack fun p below => PySem.wpAt_of_wpAny ?_)
  wp_walk
  refine PySem.wpAt_of_wpAny ?_
  rw [F.owner]
  repeat (first | with_reducible refine wpAny_madeHere_exc F.canon hC ?_ | with_reducible refine wpAny_loadPart_at hC ?_ | (with_reducible refine wpAny_isSubtype_exc hC ?_; first | rw [c1] | rw [c2] | rw [c3]) | wp_step)
  show R _ _
  rw [Heap.size_push]
  exact hq
end
end Mine

end
section
open PySem PySem.W PyProof.Rows PySem.Calls
set_option Elab.async false
set_option maxRecDepth 100000
set_option maxHeartbeats 1000000
namespace Mine
section
variable {prog : Program} {w : World} {A : Around} {R : Result → Shared → Prop} {h : Heap} {g : Array GenState} {d : Drawn} {t : Nat} {os : OsState}
variable {nm q : Str} {C N : Addr} {bs bm bmB : List Value} {hdct : Bool} {sn : List Str} {sub : List Value} {ab : Bool} {col : Option Bool} {dd : Option Addr} {k0 k1 k2 k3 k5 : Option Value} {B newId initId : String}
noncomputable abbrev excObj (C t : Addr) : Obj := { cls := .ref C, data := .fields #[.ref t, .none, .none, .none, .bool false, .none] }
/-- the call of an own exception class whose __init__ is a function of the program -/
theorem xcall (F : ExcBaseFacts B newId initId bmB) (hB : bm.contains (.type B) = true) (hA : bm.contains (.type "AttributeError") = false) (hN : bm.contains (.type "NameError") = false) {rest : List Value} {init : Value}
    (hC : h.get? C = some (excClassObj nm q C N bs bm hdct sn sub ab col dd k0 k1 k2 k3 k5 newId)) (hi : Looks (model prog w) h (typeLookup (.ref C) "__init__") (some init)) (hb : ∀ self, Looks (model prog w) h (bindSpecial init self) (init, [self]))
    (hz : rest.length ≤ sizeLine)
    (hq : codeAny (model prog w) (A.under (.builtin "type.__call__" ⟨.ref C :: rest, []⟩)) (.call init ⟨.ref (h.objs.size + 1) :: rest, []⟩) (InitBack (h.objs.size + 1) R)
      ⟨(h.push { cls := .type "tuple", data := .seq rest.toArray }).push (excObj C h.objs.size), g, d, t, os⟩) :
    codeAny (model prog w) A (.call (.ref C) ⟨rest, []⟩) R ⟨h, g, d, t, os⟩ := by
  have f1 := tc_lookup
  have f2 := tc_bind (.ref C)
  have hT : (⟨h, g, d, t, os⟩ : Shared).TypeIs (.ref C) "type" := ⟨_, hC, rfl⟩
  refine codeAny_of_tree ?_
  show wpAny _ _ (callAny (.ref C) _) _ _ _
  repeat (any_goals (first | assumption | with_reducible refine wpAny_loadPart_at hC ?_ | wp_step))
  refine ⟨rfl, ?_⟩
  refine codeAny_call_builtin_at (Code.quiet_builtin _ (by decide +kernel)) entry_typeCall (wpAny_check_type_call_sub hC ?_)
  repeat (first | with_reducible refine wpAny_loadPart_at hC ?_ | with_reducible refine wpAny_madeBy_exc hC ?_ | wp_step)
  refine codeAny_call_builtin_code (Code.quiet_builtin _ F.quiet) (xcheck F hB hC ?_)
  refine xnew F hB hA hN hC ?_ hz
  have k : ∀ b o, h.get? b = some o → ((h.push { cls := .type "tuple", data := .seq rest.toArray }).push (excObj C h.objs.size)).get? b = some o := fun b o e => Heap.get?_push_of_some _ (Heap.get?_push_of_some _ e)
  have hx : ((h.push { cls := .type "tuple", data := .seq rest.toArray }).push (excObj C h.objs.size)).get? (h.objs.size + 1) = some (excObj C h.objs.size) := by heap_get
  have i1 := hi.keeps k
  have b1 := (hb (.ref (h.objs.size + 1))).keeps k
  show wpAny _ _ _ _ _ _
  simp only [List.append_eq, List.nil_append, List.singleton_append]
  have hC1 := k _ _ hC
  have hcC : (Value.ref C :: bm).contains (.ref C) = true := by simp
  have t1 : Looks (model prog w) ((h.push { cls := .type "tuple", data := .seq rest.toArray }).push (excObj C h.objs.size)) (typeOf (.ref (h.objs.size + 1))) (.ref C) := (Looks.ld hx).andThen .now
  unfold isInstance callSpecial? specialOf
  repeat (first | with_reducible refine wpAny_call ?_ | (with_reducible refine wpAny_isSubtype_exc hC1 ?_) | simp only [hcC, Bool.not_true, Bool.false_eq_true, if_false] | lk)
  refine codeAny_mono hq fun r s' z => ?_
  rcases r with e | (v | _ | _ | _) <;> first | exact z | exact z.elim | skip
  obtain ⟨rfl, z⟩ := z
  exact wpAny_pure (wpAny_pure z)
end
end Mine

end
section
open PySem PySem.W PyProof.Rows PySem.Calls
set_option Elab.async false
set_option maxRecDepth 100000
set_option maxHeartbeats 1000000
namespace Mine
section
variable {prog : Program} {w : World} {A : Around} {E : Value → Shared → Prop} {h : Heap} {g : Array GenState} {d : Drawn} {t : Nat} {os : OsState}
variable {nm q : Str} {C N : Addr} {bs bm bmB : List Value} {hdct : Bool} {sn : List Str} {sub : List Value} {ab : Bool} {col : Option Bool} {dd : Option Addr} {k0 k1 k2 k3 k5 : Option Value} {B newId initId : String}
theorem xcheckI {M : Model} (F : ExcBaseFacts B newId initId bmB) (hB : bm.contains (.type B) = true) {e : Addr} {oe : Obj} {rest : List Value} {Q : Unit → Shared → Prop}
    (hC : h.get? C = some (excClassObj nm q C N bs bm hdct sn sub ab col dd k0 k1 k2 k3 k5 newId)) (he : h.get? e = some oe) (hcls : oe.cls = .ref C) (hq : Q () ⟨h, g, d, t, os⟩) :
    wpAny M A (checkBuiltinCall initId ⟨.ref e :: rest, []⟩) Q E ⟨h, g, d, t, os⟩ := by
  have hc : (Value.ref C :: bm).contains (.type B) = true := by rw [List.contains_cons, hB, Bool.or_true]
  have hs := F.noStar
  simp only [checkBuiltinCall, F.initKind, F.initSplit, F.initRow]
  repeat (first | (with_reducible refine wpAny_loadPart_at he ?_; rw [hcls]) | with_reducible refine wpAny_loadPart_at hC ?_ | (with_reducible refine wpAny_isSubtype_exc hC ?_; rw [hc]) | wp_step)
  refine wpAny_onRaise ?_
  rw [show ∀ (a b : String) (n : Nat), Bind.check ⟨.positional, "*", B, .self, [⟨"args", .varPos, false⟩]⟩ a b n (List.map (fun x => x.fst) ({ pos := Value.ref e :: rest } : Args).kw) = pure () from
    fun a b n => check_star_args _ _ _ _ _ _]
  exact wpAny_pure hq
end
end Mine

end
section
open PySem PySem.W PyProof.Rows PySem.Calls
set_option Elab.async false
set_option maxRecDepth 100000
set_option maxHeartbeats 1000000
namespace Mine
section
variable {prog : Program} {w : World} {A : Around} {E : Value → Shared → Prop} {s : Shared} {h₀ : Heap} {L : Addr} {m : Str → Option Value} {news : List (Addr × Obj)} {gg : Obj → List (Addr × Obj)}
variable {nm q : Str} {C N : Addr} {bs bm bmB : List Value} {hdct : Bool} {sn : List Str} {sub : List Value} {ab : Bool} {col : Option Bool} {dd : Option Addr} {k0 k1 k2 k3 k5 : Option Value} {B newId initId : String}
/-- Exception.__init__ on an own exception -/
theorem xinit (FB : ExcBaseFacts B newId initId bmB) (hB : bm.contains (.type B) = true) {e t : Addr} {v : Value} {Q : Value → Shared → Prop} (F : Fr h₀ L s.heap m) (N' : News h₀ L s.heap news) (U : UpdF e (excObj C t) news gg)
    (hC : s.heap.get? C = some (excClassObj nm q C N bs bm hdct sn sub ab col dd k0 k1 k2 k3 k5 newId))
    (h : ∀ h' t', Fr h₀ L h' m → News h₀ L h' ((t', { cls := .type "tuple", data := .seq #[v] }) :: gg (excObj C t')) → (∀ p ∈ gg (excObj C t'), p.1 < t') → Q .none { s with heap := h' }) :
    wpAny (model prog w) A (call (.builtin initId) [.ref e, v]) Q E s := by
  obtain ⟨pre, post, e1, e2, a, c⟩ := U.split
  subst e1
  have he := (N' (e, excObj C t) (by simp)).1
  obtain ⟨hh, g, d, tk, os⟩ := s
  refine wpAny_call (codeAny_call_builtin FB.init.plain FB.initEntry (xcheckI FB hB hC he rfl ?_))
  have F1 := F.push { cls := .type "tuple", data := .seq [v].toArray }
  have N1 := N'.push F { cls := .type "tuple", data := .seq [v].toArray }
  have hne : hh.objs.size ≠ e := Nat.ne_of_gt (Heap.lt_size he)
  obtain ⟨F2, N2⟩ := news_upd (f := Obj.mapFields (·.setIfInBounds 0 (.ref hh.objs.size))) (o' := excObj C hh.objs.size) (pre := (hh.objs.size, { cls := .type "tuple", data := .seq [v].toArray }) :: pre) (post := post) F1 N1
    (fun p hp => by
      rcases List.mem_cons.mp hp with q | hp
      · rw [q]; exact hne
      · exact a p hp) c rfl rfl
  have z := h _ hh.objs.size F2 (by rw [e2]; exact N2) (fun p hp => by
    rw [e2] at hp
    rcases List.mem_append.mp hp with q | q
    · exact Heap.lt_size (N' p (List.mem_append_left _ q)).1
    · rcases List.mem_cons.mp q with q | q
      · rw [q]; exact Heap.lt_size he
      · exact Heap.lt_size (N' p (List.mem_append_right _ (.tail _ q))).1)
  wp_walk
  exact z
end
end Mine

end
section
open PySem PySem.W PyProof.Rows PySem.Calls Builtin Builtin.ObjectAttr
set_option Elab.async false
set_option maxRecDepth 100000
set_option maxHeartbeats 1000000
namespace Mine
noncomputable def isRf : Value → Bool
  | .ref _ => true
  | _ => false
noncomputable def tyN : Value → String
  | .type a => a
  | _ => ""
noncomputable def excOver (l : List Value) : Bool := (l.take (l.length - 3)).all isRf && ((l.drop (l.length - 3)).map tyN == ["Exception", "BaseException", "object"])
theorem tyN_of {v : Value} {n : String} (h : tyN v = n) (hn : ("" : String) ≠ n) : v = .type n := by
  cases v <;> first | exact absurd h hn | exact congrArg _ h
theorem isRf_of {v : Value} (h : isRf v = true) : ∃ c, v = .ref c := by
  cases v <;> first | exact ⟨_, rfl⟩ | cases h
theorem excOver_cut {l : List Value} (h : excOver l = true) : ∃ pre : List Value, (∀ v ∈ pre, ∃ c, v = .ref c) ∧ l = pre ++ [.type "Exception", .type "BaseException", .type "object"] := by
  have h' := (Bool.and_eq_true _ _).mp (show ((l.take (l.length - 3)).all isRf && ((l.drop (l.length - 3)).map tyN == ["Exception", "BaseException", "object"])) = true from h)
  obtain ⟨h1, h2⟩ := h'
  have h3 := eq_of_beq h2
  refine ⟨l.take (l.length - 3), fun v hv => isRf_of (List.all_eq_true.mp h1 v hv), ?_⟩
  have e : l.drop (l.length - 3) = [.type "Exception", .type "BaseException", .type "object"] := by
    generalize l.drop (l.length - 3) = d at h3
    cases d with
    | nil => cases h3
    | cons a d => cases d with
      | nil => cases (List.cons.inj h3).2
      | cons b d => cases d with
        | nil => cases (List.cons.inj (List.cons.inj h3).2).2
        | cons c d => cases d with
          | cons _ _ => cases (List.cons.inj (List.cons.inj (List.cons.inj h3).2).2).2
          | nil => rw [tyN_of (List.cons.inj h3).1 (by decide), tyN_of (List.cons.inj (List.cons.inj h3).2).1 (by decide), tyN_of (List.cons.inj (List.cons.inj (List.cons.inj h3).2).2).1 (by decide)]
  rw [← e, List.take_append_drop]
theorem excOver_passes (self : Value) {l : List Value} (e : excOver l = true) : refuseLoop self "__setattr__" l = pure () := by
  obtain ⟨pre, hp, rfl⟩ := excOver_cut e
  clear e
  induction pre with
  | nil => exact PySem.F.store_Exception.passes self
  | cons v pre ih =>
    obtain ⟨c, rfl⟩ := hp v (.head _)
    rw [List.cons_append, refuseLoop_ref]
    exact ih fun v hv => hp v (.tail _ hv)
theorem excOver_has {l : List Value} (e : excOver l = true) : l.contains (.type "object") = true := by
  obtain ⟨pre, hp, rfl⟩ := excOver_cut e
  clear e hp
  induction pre with
  | nil => decide
  | cons v pre ih => rw [List.cons_append, List.contains_cons, ih, Bool.or_true]
section
variable {prog : Program} {w : World} {A : Around} {E : Value → Shared → Prop} {s : Shared} {K : Frag} {x C : Addr} {R : Result → Shared → Prop} {h₀ : Heap} {L : Addr} {m : Str → Option Value} {news : List (Addr × Obj)} {gg : Obj → List (Addr × Obj)} {name : Str} {v : Value}
theorem osaX {ox : Obj} {od : Option Obj} {tk : Tok} (X : K.In s.heap) (I : InstAt s.heap x ox C od) (hp : ((clsIn K C).any fun cd => excOver cd.mro) = true) (ht : takerIn K C name = some none)
    (h : ∀ b, wpAny (model prog w) A.in1 (storeInOwnDict (.ref x) (.ref C) (.str name tk) name v b)
      (fun fin s' => match fin with | .done f => R (.ok f) s' | .again c' => c'.quiet = true ∧ codeAny (model prog w) A c' R s') (fun e s' => R (.error e) s') s) :
    codeAny (model prog w) A (.call (.builtin "object.__setattr__") ⟨[.ref x, .str name tk, v], []⟩) R s := by
  have SF := PySem.F.store_object
  obtain ⟨cd, hc, ho⟩ := any_some hp
  have hob := excOver_has ho
  have ne : cd.mro.isEmpty = false := by cases q : cd.mro with | nil => rw [q] at ho; cases ho | cons _ _ => rfl
  have sub : Looks (model prog w) s.heap (isInstance (.ref x) (.type "object")) true := I.type.andThen (looks_mroIn X (by unfold mroIn; rw [hc, Option.bind_some, if_neg (by rw [ne]; decide), hob]))
  refine codeAny_call_builtin SF.slot.plain SF.entry (@check_slot (model prog w) _ _ s "object.__setattr__" "object" "__setattr__" (.ref x) [.str name tk, v] [] _ SF.kind SF.split sub (SF.args (.ref x) (.str name tk) v) ?_)
  obtain ⟨attr, ha, hr⟩ := Option.bind_eq_some_iff.mp ht
  have hm : Looks (model prog w) s.heap (mroOf (.ref C)) cd.mro := (looks_clsIn X hc).andThen .now
  have L3 : Looks (model prog w) s.heap (storeTaker? attr) none := by
    cases attr with
    | none => exact .now
    | some a =>
      obtain ⟨b, hb, q⟩ := Option.map_eq_some_iff.mp hr
      refine (looks_takesIn X hb).andThen ?_
      cases b with
      | false => exact .now
      | true => cases q
  rw [osa_eq, refuse_eq]
  refine wpAny_bind (wpAny_bind (I.type.here (wpAny_bind (hm.here ?_))))
  rw [excOver_passes _ ho]
  exact wpAny_pure (wpAny_bind (I.type.here (wpAny_bind ((looks_findIn X ha).here (wpAny_bind (L3.here (h _)))))))

/-- what a store into a dict does -/
theorem putX {dx : Addr} {es es' : List DictEntry} {n n' : Nat} {tk : Tok} {Q : Fin → Shared → Prop} (F : Fr h₀ L s.heap m) {pre post : List (Addr × Obj)} (N : News h₀ L s.heap (pre ++ (dx, dictOf es n) :: post))
    (h1 : ∀ p ∈ pre, p.1 ≠ dx) (h2 : ∀ p ∈ post, p.1 ≠ dx) (hl : (getL name es).isSome = true)
    (e : (putL name (PyData.keyHash w.params name) (.str name s.toks) v es, putN name es n) = (es', n')) (hz : es'.length ≤ 1000)
    (h : ∀ h', Fr h₀ L h' m → News h₀ L h' (pre ++ (dx, dictOf es' n') :: post) → Q (.done (.ret .none)) { s with heap := h', toks := s.toks + 1 }) :
    wpAny (model prog w) A (storeInDict dx (.str name tk) name v) Q E s := by
  obtain ⟨q1, q2⟩ := Prod.mk.inj e
  have ep : Obj.putName name (PyData.keyHash w.params name) (.str name s.toks) v (dictOf es n) = dictOf es' n' := by rw [putName_dict, q1, q2]
  obtain ⟨U1, U2⟩ := news_upd (f := Obj.putName name (PyData.keyHash w.params name) (.str name s.toks) v) F N h1 h2 ep rfl
  have D := (N (dx, dictOf es n) (by simp)).1
  have D' := (U2 (dx, dictOf es' n') (by simp)).1
  unfold storeInDict
  refine wpAny_bind (wpAny_pure (wpAny_bind ?_))
  unfold nsSet
  refine wpAny_bind (wpAny_bind (wpAny_askSetting (wpAny_pure (wpAny_bind (wpAny_mkText (wpAny_bind (wpAny_loadPart D ?_)))))))
  have c : (!es.toArray.any (·.key.isStr name) && es.toArray.any (·.refKey)) = false := by
    rw [← Array.any_toList, ← Array.any_toList]
    unfold getL at hl
    split at hl
    · rename_i en he
      rw [List.any_eq_true.mpr ⟨en, List.mem_of_find?_eq_some he, List.find?_some he⟩]; rfl
    · split at hl
      · cases hl
      · rename_i z; rw [Bool.not_eq_true] at z; rw [z, Bool.and_false]
  dsimp only
  rw [aRefKeyMayBeTheName_at, c]
  refine wpAny_updatePart D ?_
  refine wpAny_bind (wpAny_lookBehind D' (pastItsLine_dict (by rw [List.size_toArray, sizeLine_eq]; omega)) ?_)
  exact wpAny_pure (h _ U1 U2)
noncomputable abbrev excObjD (C t : Addr) (dx : Option Addr) : Obj := { cls := .ref C, dict := dx, data := .fields #[.ref t, .none, .none, .none, .bool false, .none] }
/-- a field of the exception, its dict stands -/
theorem xset1 {Q : Unit → Shared → Prop} {t dx : Addr} {es es' : List DictEntry} {n n' : Nat} (F : Fr h₀ L s.heap m) (X₀ : K.In h₀) (N : News h₀ L s.heap news) (hx : (x, excObjD C t (some dx)) ∈ news) (U : UpdF dx (dictOf es n) news gg)
    (hs : findIn K (.ref C) "__setattr__" = some (some (.builtin "object.__setattr__"))) (hp : ((clsIn K C).any fun cd => excOver cd.mro) = true) (ht : takerIn K C name = some none) (hh : (clsIn K C).any (·.hasDict) = true)
    (hl : (getL name es).isSome = true) (e : (putL name (PyData.keyHash w.params name) (.str name (s.toks + 1)) v es, putN name es n) = (es', n')) (hz : es'.length ≤ 1000)
    (h : ∀ h', Fr h₀ L h' m → News h₀ L h' (gg (dictOf es' n')) → Q () { s with heap := h', toks := s.toks + 2 }) :
    wpAny (model prog w) A (setAttr (.ref x) name v) Q E s := by
  obtain ⟨pre, post, rfl, e2, a, b⟩ := U.split
  have X := X₀.keeps F.keep
  have hxx := (N _ hx).1
  have D := (N (dx, dictOf es n) (by simp)).1
  have I : InstAt s.heap x (excObjD C t (some dx)) C (some (dictOf es n)) := ⟨hxx, rfl, rfl, D⟩
  refine set_plain X I hs (osaX X I hp ht fun bb => ?_)
  obtain ⟨cd, hc, hd⟩ := any_some hh
  unfold storeInOwnDict
  refine wpAny_bind (wpAny_pure (wpAny_bind (wpAny_bind (wpAny_loadPart hxx (wpAny_bind ((looks_clsIn X hc) _ _ _ _ (fun _ _ e => e) ?_))))))
  rw [hd]
  refine wpAny_pure (a := some dx) ?_
  exact putX (s := { s with toks := s.toks + 1 }) F N a b hl e hz fun h' F' N' => h h' F' (by rw [e2]; exact N')
/-- the first field: the dict is made -/
theorem xset0 {Q : Unit → Shared → Prop} {t : Addr} (F : Fr h₀ L s.heap m) (X₀ : K.In h₀) (N : News h₀ L s.heap news) (U : UpdF x (excObjD C t none) news gg)
    (hs : findIn K (.ref C) "__setattr__" = some (some (.builtin "object.__setattr__"))) (hp : ((clsIn K C).any fun cd => excOver cd.mro) = true) (ht : takerIn K C name = some none) (hh : (clsIn K C).any (·.hasDict) = true)
    (h : ∀ h' D, Fr h₀ L h' m → News h₀ L h' ((D, dictOf [⟨PyData.keyHash w.params name, .str name (s.toks + 1), v⟩] 1) :: gg (excObjD C t (some D))) → (∀ p ∈ news, p.1 < D) → Q () { s with heap := h', toks := s.toks + 2 }) :
    wpAny (model prog w) A (setAttr (.ref x) name v) Q E s := by
  obtain ⟨pre, post, rfl, e2, a, b⟩ := U.split
  have X := X₀.keeps F.keep
  have hxx := (N (x, excObjD C t none) (by simp)).1
  have I : InstAt s.heap x (excObjD C t none) C none := ⟨hxx, rfl, rfl, trivial⟩
  refine set_plain X I hs (osaX X I hp ht fun bb => ?_)
  obtain ⟨cd, hc, hd⟩ := any_some hh
  have lts : ∀ p ∈ pre ++ (x, excObjD C t none) :: post, p.1 < s.heap.objs.size := fun p hp => Heap.lt_size (N p hp).1
  have hne : s.heap.objs.size ≠ x := Nat.ne_of_gt (Heap.lt_size hxx)
  have F1 := F.push emptyDict
  have N1 := N.push F emptyDict
  obtain ⟨F2, N2⟩ := news_upd (f := fun o => { o with dict := some s.heap.objs.size }) (o' := excObjD C t (some s.heap.objs.size)) (pre := (s.heap.objs.size, emptyDict) :: pre) (post := post) F1 N1
    (fun p hp => by
      rcases List.mem_cons.mp hp with q | hp
      · rw [q]; exact hne
      · exact a p hp) b rfl rfl
  have hx1 : (s.heap.push emptyDict).get? x = some (excObjD C t none) := Heap.get?_push_of_some _ hxx
  unfold storeInOwnDict
  refine wpAny_bind (wpAny_pure (wpAny_bind (wpAny_bind (wpAny_loadPart hxx (wpAny_bind ((looks_clsIn X hc) _ _ _ _ (fun _ _ e => e) ?_))))))
  rw [hd]
  rw [if_neg (by simp)]
  dsimp only
  rw [if_neg (by simp [typeHasDict])]
  refine wpAny_bind (wpAny_alloc ?_)
  refine wpAny_bind (wpAny_update hx1 ?_)
  refine wpAny_pure (a := some s.heap.objs.size) ?_
  refine putX (s := { s with toks := s.toks + 1, heap := ((s.heap.push emptyDict).update x fun o => { o with dict := some s.heap.objs.size }) }) (es := []) (n := 0) (pre := []) (post := pre ++ (x, excObjD C t (some s.heap.objs.size)) :: post) F2 N2 (fun _ h => nomatch h) ?_ rfl rfl (Nat.le_of_ble_eq_true rfl) fun h' F' N' => ?_
  · intro p hp
    have : p.1 < s.heap.objs.size := by
      rcases List.mem_append.mp hp with q | q
      · exact lts p (List.mem_append_left _ q)
      · rcases List.mem_cons.mp q with q | q
        · rw [q]; exact lts (x, excObjD C t none) (by simp)
        · exact lts p (List.mem_append_right _ (.tail _ q))
    exact Nat.ne_of_lt this
  · exact h h' s.heap.objs.size F' (by rw [e2]; exact N') lts
end
end Mine

end
section
open PySem PySem.W PyProof.Rows PySem.Calls Builtin Builtin.ObjectAttr
set_option Elab.async false
set_option maxRecDepth 100000
set_option maxHeartbeats 1000000
namespace Mine
section
variable {prog : Program} {w : World} {A : Around} {E : Value → Shared → Prop} {s : Shared} {K : Frag} {x C : Addr} {R : Result → Shared → Prop} {h₀ : Heap} {L : Addr} {m : Str → Option Value} {news : List (Addr × Obj)} {name : Str} {v : Value}
theorem xga {ox : Obj} {od : Option Obj} {tk : Tok} (X : K.In s.heap) (I : InstAt s.heap x ox C od) (hsub : mroIn K C (.type "BaseException") = some true) (hf : findObj K C od name = some (.value v)) 
    (h : R (.ok (.ret v)) s) :
    codeAny (model prog w) A (.call (.builtin "BaseException.__getattribute__") ⟨[.ref x, .str name tk], []⟩) R s := by
  have hk : builtinKind "BaseException.__getattribute__" = some .slot := by decide +kernel
  have hsplit : splitId "BaseException.__getattribute__" = some ("BaseException", "__getattribute__") := by decide +kernel
  have sub : Looks (model prog w) s.heap (isInstance (.ref x) (.type "BaseException")) true := I.type.andThen (looks_mroIn X hsub)
  refine codeAny_call_builtin PySem.F.attr_Exception.ga.plain PySem.F.entry_bexc_ga (@check_slot (model prog w) _ _ s "BaseException.__getattribute__" "BaseException" "__getattribute__" (.ref x) [.str name tk] [] _ hk hsplit sub (PySem.F.args_bexc_ga (.ref x) (.str name tk)) ?_)
  have L0 := I.type (M := model prog w)
  have L1 := looks_find (M := model prog w) X I hf
  refine wpAny_bind (wpAny_pure (wpAny_bind (wpAny_pure (wpAny_bind (L0.here (wpAny_bind (L1.here ?_)))))))
  exact wpAny_pure h
theorem xget {ox : Obj} {od : Option Obj} {expr : Bool} {Q : Value → Shared → Prop} (X : K.In s.heap) (I : InstAt s.heap x ox C od) (hsub : mroIn K C (.type "BaseException") = some true) (hf : findObj K C od name = some (.value v)) 
    (hga : findIn K (.ref C) "__getattribute__" = some (some (.builtin "BaseException.__getattribute__"))) (hgt : findIn K (.ref C) "__getattr__" = some none) (hh : handedIn v = true)
    (h : Q v { s with toks := s.toks + 1 }) : wpAny (model prog w) A (getAttr (.ref x) name expr) Q E s := by
  have L0 := I.type (M := model prog w)
  have L1 := looks_findIn (M := model prog w) X hga
  have L2 := looks_findIn (M := model prog w) X hgt
  have hx2 : (Value.builtin "BaseException.__getattribute__" == Value.builtin "object.__getattribute__") = false := by decide +kernel
  have hx0 : (expr && onTheHeap (Value.builtin "BaseException.__getattribute__")) = false := by cases expr <;> rfl
  unfold getAttr getAttrBy
  refine wpAny_bind (wpAny_mkText (wpAny_holding (wpAny_bind (L0 _ _ _ _ (fun _ _ e => e) (wpAny_bind (L1 _ _ _ _ (fun _ _ e => e) ?_))))))
  dsimp only
  rw [hx2, Bool.and_false, if_neg (by decide)]
  unfold getAttrByItsOwn
  refine wpAny_bind (L2 _ _ _ _ (fun _ _ e => e) ?_)
  unfold callGetattribute
  rw [hx0, if_neg (by decide)]
  unfold boundAndCalled
  refine wpAny_bind (wpAny_attempt (wpAny_holding (wpAny_bind (wpAny_of_eq (PySem.F.attr_Exception.ga.bind (.ref x)) ?_))))
  refine wpAny_call (xga (s := { s with toks := s.toks + 1 }) X I hsub hf ?_)
  show wpAny _ _ (handedOut v) _ _ _
  rw [handedOut_of hh]
  exact wpAny_pure h
end
end Mine

end
section
open PySem PySem.W PyProof.Rows PySem.Calls
set_option Elab.async false
set_option maxRecDepth 100000
set_option maxHeartbeats 1000000
namespace Mine
section
variable {prog : Program} {w : World} {A : Around} {E : Value → Shared → Prop} {s : Shared} {env : Env}
variable {nm q : Str} {C N : Addr} {bs bm : List Value} {hdct : Bool} {sn : List Str} {sub : List Value} {ab : Bool} {col : Option Bool} {dd : Option Addr} {k0 k1 k2 k3 k5 : Option Value} {newId : String}
theorem xraise {ex : PySem.Expr} {pos : Pos} {Q : Flow → Shared → Prop} (hbase : bm.contains (.type "BaseException") = true) (hh : A.handled = none)
    (h : wpAny (model prog w) A (eval ex env) (fun v s₁ => ∃ e t dx, v = .ref e ∧ s₁.heap.get? C = some (excClassObj nm q C N bs bm hdct sn sub ab col dd k0 k1 k2 k3 k5 newId) ∧
      s₁.heap.get? e = some (excObjD C t dx) ∧ E (.ref e) s₁) E s) :
    wpAny (model prog w) A (exec (.Raise (some ex) none pos) env) Q E s := by
  have hcB : (Value.ref C :: bm).contains (.type "BaseException") = true := by rw [List.contains_cons, hbase, Bool.or_true]
  rw [arm_exec_Raise]
  simp only [evalOpt, Option.map]
  refine wpAny_bind (wpAny_standAt ?_)
  unfold raiseStmt
  refine wpAny_bind (wpAny_bind (wpAny_mono h (fun v s₁ h₁ => wpAny_bind (wpAny_standAt (wpAny_pure ?_))) fun _ _ x => x))
  obtain ⟨e, t, dx, rfl, hC, he, hE⟩ := h₁
  obtain ⟨hp, g, d, tk, os⟩ := s₁
  repeat (first | with_reducible refine wpAny_loadPart_at he ?_ | with_reducible refine wpAny_loadPart_at hC ?_ | (with_reducible refine wpAny_isSubtype_exc hC ?_; rw [hcB]) | wp_step)
  exact wpAny_raiseNew_none hh hE
end
end Mine

end
section
open PySem PySem.W PyProof.Rows PySem.Calls
set_option Elab.async false
set_option maxRecDepth 100000
set_option maxHeartbeats 1000000
namespace Mine
/-- an own exception in flight, its dict told -/
inductive FlX (B : Heap) (e d : Addr) (C : Addr) (fl : Value) (h : Heap) : Prop
  | mk (oe : _) (vs : _) (T : _) (oT : _) (ts : _) (f1 : h.get? e = some oe) (f2 : oe.cls = .ref C) (f3 : oe.dict = some d) (f4 : oe.data = .fields vs) (f5 : vs[1]? = some (.ref T)) (f6 : B.get? T = none) (f7 : T ≠ e)
    (f8 : h.get? T = some oT) (f9 : oT.data = .fields ts) (f10 : ts[3]? = some fl) : FlX B e d C fl h
noncomputable def Fl (B : Heap) (l : List Env) (e d : Addr) (C : Addr) (fl : Value) (h : Heap) : Prop :=
  B.StaysIn h ∧ B.get? e = none ∧ h.FunFrames B l ∧ FlX B e d C fl h
section
variable {M : Model} {A : Around} {E : Value → Shared → Prop} {s : Shared} {B : Heap} {env : Env} {outer : List Env} {L e d C : Addr} {Q : Unit → Shared → Prop}
/-- the new entry of the traceback -/
theorem fl_entry {oe : Obj} {vs : Array Value} {head : Value} {hn : Bool} (hfr : A.frames = some (env :: outer)) (hl : s.heap.FunFrames B (env :: outer)) (hf : env.frame = some L)
    (he : s.heap.get? e = some oe) (hC : oe.cls = .ref C) (hdd : oe.dict = some d) (hB : B.StaysIn s.heap) (hen : B.get? e = none) (hd : oe.data = .fields vs) (hsz : 1 < vs.size)
    (h : ∀ h', Fl B (env :: outer) e d C (rawInt L) h' → s.heap.UpToSlots h' → Q () { s with heap := h' }) :
    wpAny M A (do let a ← frameOf env; let pl ← entryPlaceOf L hn; let b ← EntryCells.newEntry head a .none (rawInt L) .none pl; setField (.ref e) 1 b) Q E s := by
  have eNot : e ∉ (env :: outer).filterMap (·.frame) := by
    intro hm
    obtain ⟨_, o, ho, hx⟩ := hl.mem hm
    rw [he] at ho
    exact hx vs (Option.some.inj ho ▸ hd)
  refine wpAny_bind (wpAny_frameOf_fun hfr hl hf fun g hg => wpAny_bind (wpAny_entryPlaceOf fun pl hpl => ?_))
  unfold EntryCells.newEntry newFields
  refine wpAny_bind (wpAny_newObj_type ?_ (hpl.sizeOk5 _ _ _ _ _))
  have ge : g.get? e = some oe := (hg.2.1 e eNot).trans he
  have gB : B.StaysIn g := fun b o q => (hg.2.1 b fun hm => by rw [(hl.mem hm).1] at q; cases q).trans (hB b o q)
  generalize hot : ({ cls := .type "traceback", dict := none, data := .fields ([head, .ref L, .none, rawInt L, .none] ++ (if pl.isEmpty then List.replicate 6 Value.none else pl)).toArray } : Obj) = ot
  have ge2 : (g.push ot).get? e = some oe := Heap.get?_push_of_some ot ge
  have otd : ot.data = .fields ([head, .ref L, .none, rawInt L, .none] ++ (if pl.isEmpty then List.replicate 6 Value.none else pl)).toArray := by rw [← hot]
  have neT : g.objs.size ≠ e := Nat.ne_of_gt (Heap.lt_size ge)
  have dd := Obj.data_mapFields hd (·.setIfInBounds 1 (Value.ref g.objs.size))
  have e3 := Heap.get?_update_self (Obj.mapFields (·.setIfInBounds 1 (Value.ref g.objs.size))) ge2 (Obj.isFreed_of_fields dd)
  have T3 : ((g.push ot).update e (Obj.mapFields (·.setIfInBounds 1 (Value.ref g.objs.size)))).get? g.objs.size = some ot :=
    (Heap.get?_update_other _ _ (Ne.symm neT)).trans (Heap.get?_push_size g (by rw [← hot]; rfl))
  have still : ∀ b o, b ≠ e → g.get? b = some o → ((g.push ot).update e (Obj.mapFields (·.setIfInBounds 1 (Value.ref g.objs.size)))).get? b = some o := fun b o hb q =>
    (Heap.get?_update_other _ _ (Ne.symm hb)).trans (Heap.get?_push_of_some _ q)
  have unlike : ∀ b o, s.heap.get? b = some o → (∀ vs, o.data ≠ .fields vs) → b ≠ e := fun b o q hx z => by
    rw [z, he] at q
    exact hx vs (Option.some.inj q ▸ hd)
  have hdict : (Obj.mapFields (·.setIfInBounds 1 (Value.ref g.objs.size)) oe).dict = oe.dict := by
    obtain ⟨c1, c2, c3, c4⟩ := oe
    cases c3 <;> rfl
  refine wpAny_setField ge2 hd hsz (h _ ⟨fun b o q => still b o (fun z => by rw [z, hen] at q; cases q) (gB b o q), hen, hl.of_keeps fun b o q hx => ?_, _, _, g.objs.size, ot, _, e3, (Obj.cls_mapFields _ _).trans hC, hdict.trans hdd, dd, by simp [hsz], gB.fresh, neT, T3, otd, by simp⟩ fun b o q hx => ?_)
  · obtain ⟨sl, q'⟩ := hg.2.2 b o q
    exact ⟨_, still b _ (unlike b o q hx) q', rfl⟩
  · obtain ⟨sl, q'⟩ := hg.2.2 b o q
    exact ⟨sl, still b _ (unlike b o q hx) q'⟩
/-- the flight's mark goes -/
theorem fl_none {l : List Env} {fl : Value} (H : Fl B l e d C fl s.heap) (h : ∀ h', Fl B l e d C .none h' → s.heap.UpToSlots h' → Q () { s with heap := h' }) : wpAny M A (setFlight (.ref e) none) Q E s := by
  obtain ⟨hB, hen, hl, oe, vs, T, oT, ts, he, hC, hdd, hd, h1, nT, Te, hT, dT, h3⟩ := H
  have z3 : 3 < ts.size := (Array.getElem?_eq_some_iff.mp h3).1
  have oth : ∀ b, b ≠ T → (s.heap.update T (Obj.mapFields (·.setIfInBounds 3 ((none : Option Addr).elim Value.none fun f => rawInt f)))).get? b = s.heap.get? b := fun b hb => Heap.get?_update_other _ _ (Ne.symm hb)
  have unlike : ∀ b o, s.heap.get? b = some o → (∀ vs, o.data ≠ .fields vs) → b ≠ T := fun b o q hx z => by
    rw [z, hT] at q
    exact hx ts (Option.some.inj q ▸ dT)
  unfold setFlight
  refine wpAny_bind (wpAny_field he hd h1 ?_)
  rw [if_pos (by simp)]
  refine wpAny_setField hT dT z3 (h _ ⟨fun b o q => (oth b fun z => by rw [z, nT] at q; cases q).trans (hB b o q), hen, hl.of_keeps fun b o q hx => ⟨o, (oth b (unlike b o q hx)).trans q, rfl⟩,
    oe, vs, T, _, _, (oth e (Ne.symm Te)).trans he, hC, hdd, hd, h1, nT, Te, Heap.get?_update_self _ hT (Obj.isFreed_of_fields (Obj.data_mapFields dT _)), Obj.data_mapFields dT _, by simp [z3]⟩ fun b o q hx => ⟨o.slots, (oth b (unlike b o q hx)).trans q⟩)
theorem fl_first {oe : Obj} {vs : Array Value} (hfr : A.frames = some (env :: outer)) (hl : s.heap.FunFrames B (env :: outer)) (hf : env.frame = some L)
    (he : s.heap.get? e = some oe) (hC : oe.cls = .ref C) (hdd : oe.dict = some d) (hB : B.StaysIn s.heap) (hen : B.get? e = none) (hd : oe.data = .fields vs) (h1 : vs[1]? = some .none)
    (h : ∀ h', Fl B (env :: outer) e d C (rawInt L) h' → s.heap.UpToSlots h' → Q () { s with heap := h' }) : wpAny M A (noteFrame (.ref e) env) Q E s := by
  unfold noteFrame
  simp only [hf]
  refine wpAny_bind (wpAny_field he hd h1 ?_)
  rw [if_neg (by decide)]
  exact fl_entry hfr hl hf he hC hdd hB hen hd (Array.getElem?_eq_some_iff.mp h1).1 h
theorem fl_next (hfr : A.frames = some (env :: outer)) (hf : env.frame = some L) (H : Fl B (env :: outer) e d C .none s.heap)
    (h : ∀ h', Fl B (env :: outer) e d C (rawInt L) h' → s.heap.UpToSlots h' → Q () { s with heap := h' }) : wpAny M A (noteFrame (.ref e) env) Q E s := by
  obtain ⟨hB, hen, hl, oe, vs, T, oT, ts, he, hC, hdd, hd, h1, nT, Te, hT, dT, h3⟩ := H
  have z3 : 3 < ts.size := (Array.getElem?_eq_some_iff.mp h3).1
  have oth : ∀ b, b ≠ T → (s.heap.update T (Obj.mapFields (·.setIfInBounds 3 Value.none))).get? b = s.heap.get? b := fun b hb => Heap.get?_update_other _ _ (Ne.symm hb)
  have unlike : ∀ b o, s.heap.get? b = some o → (∀ vs, o.data ≠ .fields vs) → b ≠ T := fun b o q hx z => by
    rw [z, hT] at q
    exact hx ts (Option.some.inj q ▸ dT)
  unfold noteFrame
  simp only [hf]
  refine wpAny_bind (wpAny_field he hd h1 ?_)
  rw [if_pos (by simp)]
  refine wpAny_bind (wpAny_field hT dT h3 ?_)
  rw [if_neg (by simp [rawInt])]
  refine wpAny_bind (wpAny_setField hT dT z3 ?_)
  refine fl_entry hfr (hl.of_keeps fun b o q hx => ⟨o, (oth b (unlike b o q hx)).trans q, rfl⟩) hf ((oth e (Ne.symm Te)).trans he) hC hdd (fun b o q => (oth b fun z => by rw [z, nT] at q; cases q).trans (hB b o q)) hen hd
    (Array.getElem?_eq_some_iff.mp h1).1 fun h' H' U' => h h' H' fun b o q hx => U' b o ((oth b (unlike b o q hx)).trans q) hx
end
end Mine

end
section
open PySem PySem.W PyProof.Rows PySem.Calls
set_option Elab.async false
set_option maxRecDepth 100000
set_option maxHeartbeats 1000000
namespace Mine
/-- the exception has left a frame -/
inductive Rz (base G : Heap) (l : List Env) (e d C : Addr) (news : List (Addr × Obj)) (h : Heap) : Prop
  | mk (B : _) (f1 : base.StaysIn B) (f2 : (∀ b o, G.get? b = some o → b ∉ l.filterMap (·.frame) → B.get? b = some o)) (f3 : (∀ q ∈ news, B.get? q.1 = some q.2 ∧ G.get? q.1 = none ∧ base.get? q.1 = none)) (f4 : Fl B l e d C .none h) : Rz base G l e d C news h
theorem memF {env : Env} {L b : Addr} {outer : List Env} (hf : env.frame = some L) (hm : b ∈ (env :: outer).filterMap (·.frame)) : b = L ∨ b ∈ outer.filterMap (·.frame) := by
  rw [List.filterMap_cons, hf] at hm
  exact List.mem_cons.mp hm
theorem frames_hide {base h : Heap} {as : List Addr} : ∀ {l : List Env}, h.FunFrames base l → (∀ env ∈ l, ∀ a, env.frame = some a → a ∈ as) → h.FunFrames (hideAll h as) l
  | [], _, _ => trivial
  | env :: _, ⟨hk, ⟨L, o, hf, _, ho, hd⟩, hr⟩, hin => ⟨hk, ⟨L, o, hf, hideAll_none _ (hin env (.head _) L hf), ho, hd⟩, frames_hide hr fun e he => hin e (.tail _ he)⟩
theorem fr_self {g h : Heap} {L : Addr} {m : Str → Option Value} (F : Fr g L h m) : g.get? L = none := by
  cases q : g.get? L with
  | none => rfl
  | some o => exact absurd (Nat.lt_of_lt_of_le (Heap.lt_size q) F.above) (Nat.lt_irrefl _)
theorem none_of_stays {g h : Heap} (k : g.StaysIn h) {b : Addr} (e : h.get? b = none) : g.get? b = none := by
  cases q : g.get? b with
  | none => rfl
  | some o => rw [k b o q] at e; cases e
section
variable {M : Model} {A : Around} {E : Value → Shared → Prop} {s' : Shared} {base g g₂ : Heap} {outer : List Env} {L e d C t : Addr} {m : Str → Option Value} {env : Env} {Q : Unit → Shared → Prop} {news : List (Addr × Obj)}
theorem rz_first (K : Below A base outer g) (F : Fr g L s'.heap m) (N : News g L s'.heap ((e, excObjD C t (some d)) :: news)) (hne : ∀ q ∈ news, q.1 ≠ e) (hf : env.frame = some L) (hk : env.scope.kind = .function)
    (hQ : ∀ h', Rz base g outer e d C news h' → g.UpToSlots h' → Q () { s' with heap := h' }) : wpAny M (A.deeper env) (leaving env (.ref e)) Q E s' := by
  have hLn : base.get? L = none := none_of_stays K.stays (fr_self F)
  have FF : s'.heap.FunFrames base (env :: outer) := .cons (by rw [hk]; decide) hf F.ns hLn (K.frames.of_keeps fun b o q _ => ⟨o, F.keep b o q, rfl⟩)
  have he := N _ (.head _)
  have inn : ∀ v ∈ (env :: outer), ∀ b, v.frame = some b → b ∈ e :: (env :: outer).filterMap (·.frame) := fun v hv b hb => .tail _ (List.mem_filterMap.mpr ⟨v, hv, hb⟩)
  have eB : (hideAll s'.heap (e :: (env :: outer).filterMap (·.frame))).get? e = none := hideAll_none _ (.head _)
  have st : base.StaysIn (hideAll s'.heap (e :: (env :: outer).filterMap (·.frame))) := fun b o q => hideAll_get _ (F.keep b o (K.stays b o q)) fun hm => by
    rcases List.mem_cons.mp hm with z | hm
    · have := K.stays b o q; rw [z, he.2.2] at this; cases this
    · rw [(FF.mem hm).1] at q; cases q
  have sg : ∀ b o, g.get? b = some o → b ∉ outer.filterMap (·.frame) → (hideAll s'.heap (e :: (env :: outer).filterMap (·.frame))).get? b = some o := fun b o q nm => hideAll_get _ (F.keep b o q) fun hm => by
    rcases List.mem_cons.mp hm with z | hm
    · rw [z, he.2.2] at q; cases q
    · rcases memF hf hm with z | z
      · rw [z, fr_self F] at q; cases q
      · exact nm z
  have hl : ∀ q ∈ news, (hideAll s'.heap (e :: (env :: outer).filterMap (·.frame))).get? q.1 = some q.2 ∧ g.get? q.1 = none ∧ base.get? q.1 = none := fun q hq => by
    have Nq := N q (.tail _ hq)
    refine ⟨hideAll_get _ Nq.1 fun hm => ?_, Nq.2.2, none_of_stays K.stays Nq.2.2⟩
    rcases List.mem_cons.mp hm with z | hm
    · exact hne q hq z
    · rcases memF hf hm with z | z
      · exact Nq.2.1 z
      · obtain ⟨o, ho, _⟩ := (K.frames.mem z).2
        rw [Nq.2.2] at ho; cases ho
  unfold leaving
  refine wpAny_bind (fl_first (B := hideAll s'.heap (e :: (env :: outer).filterMap (·.frame))) (d := d) (C := C) (Around.frames_deeper K.stack) (frames_hide FF inn) hf he.1 rfl rfl (fun b o q => of_hideAll _ q) eB rfl rfl fun h₁ H₁ U₁ => ?_)
  refine fl_none (s := { s' with heap := h₁ }) H₁ fun h₂ H₂ U₂ => hQ h₂ ⟨_, st, sg, hl, ?_⟩ ((Heap.UpToSlots.of_keeps F.keep).trans (U₁.trans U₂))
  obtain ⟨a1, a2, ⟨_, _, a3⟩, a4⟩ := H₂
  exact ⟨a1, a2, a3, a4⟩
theorem rz_next (K : Below A base outer g) (F : Fr g L g₂ m) (R : Rz base g₂ (env :: outer) e d C news s'.heap) (hsm : g₂.UpToSlots s'.heap) (hf : env.frame = some L)
    (hQ : ∀ h', Rz base g outer e d C news h' → g.UpToSlots h' → Q () { s' with heap := h' }) : wpAny M (A.deeper env) (leaving env (.ref e)) Q E s' := by
  obtain ⟨B, hB, hBG, hl, hfl⟩ := R
  unfold leaving
  refine wpAny_bind (fl_next (Around.frames_deeper K.stack) hf hfl fun h₁ H₁ U₁ => ?_)
  refine fl_none (s := { s' with heap := h₁ }) H₁ fun h₂ H₂ U₂ => hQ h₂ ⟨B, hB, fun b o q nm => hBG b o (F.keep b o q) (fun hm => ?_), fun q hq => ⟨(hl q hq).1, none_of_stays F.keep (hl q hq).2.1, (hl q hq).2.2⟩, ?_⟩ ((Heap.UpToSlots.of_keeps F.keep).trans (hsm.trans (U₁.trans U₂)))
  · rcases memF hf hm with z | z
    · rw [z, fr_self F] at q; cases q
    · exact nm z
  · obtain ⟨a1, a2, ⟨_, _, a3⟩, a4⟩ := H₂
    exact ⟨a1, a2, a3, a4⟩
end
section
variable {prog : Program} {w : World} {A₀ : Around} {E : Value → Shared → Prop} {s' : Shared} {base g g₀ G : Heap} {outer : List Env} {L a e d C : Addr} {m : Str → Option Value} {name : Str} {scope : Scope} {cd : Value}
  {n : Str} {b₀ : Stmt} {suite : List Stmt} {pos np : Pos} {rest : List ExceptHandler} {Q : Flow → Shared → Prop} {news more : List (Addr × Obj)} {KF : Frag}
  {p : Program} {loose : List Str} {mean : ExcName → Option Value} {mg mb : Str → Option Value} {x : Str}
theorem rz_caught (R : Rz base G (envOf name scope L a cd :: outer) e d C news s'.heap) (F : Fr g L G m) (K : Below A₀ base outer g) (hsm : G.UpToSlots s'.heap) (XB : KF.In base) (TB : Top p loose mean mg mb base)
    (hmore : ∀ q ∈ more, G.get? q.1 = some q.2 ∧ g.get? q.1 = none ∧ q.1 ∉ (envOf name scope L a cd :: outer).filterMap (·.frame))
    (ex : nsIn KF mainGlobals x = some (some (.ref C))) (q : ktsIn KF C "BaseException" = true)
    (k : ∀ h' g' oe tk, KtsTurn (outer.filterMap (·.frame)) g g' → Fr g' L h' (fun y => if y = n then some (.ref e) else m y) → oe.cls = .ref C → oe.dict = some d → notCls oe = true → News g' L h' ((e, oe) :: (more ++ news)) → Below A₀ base outer g' → KF.In g' → Top p loose mean mg mb g' →
      wpAny (model prog w) ((A₀.deeper (envOf name scope L a cd)).mark (some (.ref e))) (execs (b₀ :: suite) (envOf name scope L a cd))
        (fun f s₄ => wpAny (model prog w) (A₀.deeper (envOf name scope L a cd)) (do bindName (envOf name scope L a cd) n .none; unbindBehindTheSuite (envOf name scope L a cd) n pos) (fun _ s₅ => Q f s₅) E s₄)
        (AsSuiteRaised (model prog w) ((A₀.deeper (envOf name scope L a cd)).mark (some (.ref e))) (envOf name scope L a cd) n pos (notedBy (model prog w) ((A₀.deeper (envOf name scope L a cd)).mark (some (.ref e))) (envOf name scope L a cd) (cameBackBy (model prog w) (A₀.deeper (envOf name scope L a cd)) (envOf name scope L a cd) E)))
        { s' with heap := h', toks := tk })
    (hk : scope.kind = .function := by rfl) (hlo : (envOf name scope L a cd).kindOf n = some .local := by rfl) (hx : (envOf name scope L a cd).kindOf x = some .globalImplicit := by rfl) (hd : (x == ("__debug__" : Str)) = false := by decide) :
    wpAny (model prog w) (A₀.deeper (envOf name scope L a cd)) (noteFrame (.ref e) (envOf name scope L a cd))
      (fun _ s₂ => wpAny (model prog w) (A₀.deeper (envOf name scope L a cd)) (setFlight (.ref e) none) (fun _ s₃ =>
        wpAny (model prog w) (A₀.deeper (envOf name scope L a cd)) (handleBy (.ref e) (envOf name scope L a cd) (.ExceptHandler (some (.Name x np)) (some n) (b₀ :: suite) pos :: rest)) Q E s₃) E s₂) E s' := by
  obtain ⟨B, hB, hBG, hl, hfl⟩ := R
  have hL : B.get? L = none := by
    obtain ⟨_, ⟨L', _, hf, hn', _⟩, _⟩ := hfl.2.2.1
    obtain rfl : L = L' := Option.some.inj hf
    exact hn'
  refine fl_next (Around.frames_deeper K.stack) rfl hfl fun h₄ H₄ U₄ => ?_
  refine fl_none (s := { s' with heap := h₄ }) H₄ fun h₅ H₅ U₅' => ?_
  have U₅ := hsm.trans (U₄.trans U₅')
  obtain ⟨g₅, T₅, F₅, K₅⟩ := kts_ground K F hBG H₅.1 U₅
  have X₅ : KF.In g₅ := XB.keeps K₅.stays
  have P₅ : TopRead p loose mg mb g₅ := topRead_of (TB.keeps K₅.stays)
  obtain ⟨_, _, _, o5, _, _, _, _, he5, hC5, _⟩ := id H₅
  obtain ⟨nm, q', NN, bs, bm, hdct, sn, sub, ab, col, dd, k0, k1, k2, k3, k5, newId, hC, hbase, hbT⟩ := kts_cls X₅ q
  have hC₅ := F₅.keep _ _ hC
  refine wpAny_handleBy_cons (codeAny_handlers_test (name_K F₅ X₅ P₅ ex ?_ hk hx hd)) (by intro q; cases q)
  refine wpAny_excMatches_sub_self hC₅ he5 hC5 hbase (codeAny_handlers_suite_as ?_)
  refine fl_none (s := { s' with heap := h₅ }) H₅ fun h₆ H₆ U₆' => ?_
  have U₆ := U₅.trans U₆'
  obtain ⟨g₆, T₆, F₆, K₆⟩ := kts_ground K F hBG H₆.1 U₆
  obtain ⟨hB6, hen6, _, oe, vs, _, _, _, he6, hC6, hd6, hv6, _⟩ := H₆
  have ne₆ : g₆.get? e = none := T₆.none_ _ (kts_fresh F hBG hen6 fun o ho mm => by
    obtain ⟨_, o', ho', hdn⟩ := K.frames.mem mm
    rw [ho] at ho'
    cases ho'
    obtain ⟨sl, hs⟩ := U₆ _ _ (F.keep _ _ ho) hdn
    rw [he6] at hs
    cases hs
    exact hdn _ hv6)
  have N₆ := News.more F₆ News.nil he6 (fun es n q => by rw [hv6] at q; cases q) ne₆
  have Nl : News g₆ L h₆ news := fun q hq => ⟨hB6 _ _ (hl q hq).1, (fun z => by have := (hl q hq).1; rw [z, hL] at this; cases this), T₆.none_ _ (kts_none F.keep (hl q hq).2.1)⟩
  have Nm : News g₆ L h₆ more := fun q hq => by
    obtain ⟨b1, b2, b3⟩ := hmore q hq
    have := hBG _ _ b1 b3
    exact ⟨hB6 _ _ this, (fun z => by rw [z, hL] at this; cases this), T₆.none_ _ b2⟩
  have X₆ : KF.In g₆ := XB.keeps K₆.stays
  have P₆ : Top p loose mean mg mb g₆ := TB.keeps K₆.stays
  have hnc : notCls oe = true := by unfold notCls; rw [hv6]
  refine stN F₆ (news := (e, oe) :: (more ++ news)) (fun q hq => ?_) (fun h₇ F₇ N₇ => ?_) hk hlo
  · rcases List.mem_cons.mp hq with z | hq
    · exact N₆ q (by rw [z]; exact .head _)
    · exact (List.mem_append.mp hq).elim (Nm q) (Nl q)
  · exact k h₇ g₆ oe _ T₆ F₇ hC6 hd6 hnc N₇ K₆ X₆ P₆
end
end Mine

end
section
open PySem PySem.W PyProof.Rows PySem.Calls
set_option Elab.async false
set_option maxRecDepth 100000
set_option maxHeartbeats 1000000
namespace Mine
inductive xIn (K : Frag) (C : Addr) (newId : String) : Prop
  | mk (nm : _) (qn : _) (N : _) (bs : _) (bm : _) (hdct : _) (sn : _) (sub : _) (ab : _) (col : _) (dd : _) (k0 : _) (k1 : _) (k2 : _) (k3 : _) (k5 : _) (f1 : K.lookup C = some (excClassObj nm qn C N bs bm hdct sn sub ab col dd k0 k1 k2 k3 k5 newId)) (f2 : bm.contains (.type "BaseException") = true) (f3 : bm.contains (.type "Exception") = true) (f4 : bm.contains (.type "AttributeError") = false) (f5 : bm.contains (.type "NameError") = false) : xIn K C newId
inductive XC (h : Heap) (C : Addr) (newId : String) : Prop
  | mk (nm : _) (qn : _) (N : _) (bs : _) (bm : _) (hdct : _) (sn : _) (sub : _) (ab : _) (col : _) (dd : _) (k0 : _) (k1 : _) (k2 : _) (k3 : _) (k5 : _) (f1 : h.get? C = some (excClassObj nm qn C N bs bm hdct sn sub ab col dd k0 k1 k2 k3 k5 newId)) (f2 : bm.contains (.type "BaseException") = true) (f3 : bm.contains (.type "Exception") = true) (f4 : bm.contains (.type "AttributeError") = false) (f5 : bm.contains (.type "NameError") = false) : XC h C newId
theorem x_cls {K : Frag} {h : Heap} {C : Addr} {newId : String} (X : K.In h) (q : xIn K C newId) : XC h C newId := by
  obtain ⟨nm, qn, N, bs, bm, hdct, sn, sub, ab, col, dd, k0, k1, k2, k3, k5, f1, f2, f3, f4, f5⟩ := q
  exact ⟨nm, qn, N, bs, bm, hdct, sn, sub, ab, col, dd, k0, k1, k2, k3, k5, X _ _ f1, f2, f3, f4, f5⟩
section
variable {prog : Program} {w : World} {A : Around} {E : Value → Shared → Prop} {s : Shared} {K : Frag} {C : Addr} {h₀ : Heap} {L : Addr} {m : Str → Option Value} {news : List (Addr × Obj)} {gg : Obj → List (Addr × Obj)} {Q : Value → Shared → Prop}
theorem xcls {pos : List Value} {fI : Addr} (F : Fr h₀ L s.heap m) (X₀ : K.In h₀) (N : News h₀ L s.heap news) (hm : xIn K C "Exception.__new__") (hi : findIn K (.ref C) "__init__" = some (some (.ref fI)))
    (hf : typeIn K (.ref fI) = some (.type "function")) (hz : pos.length ≤ 1000)
    (h : ∀ x t h', Fr h₀ L h' m → News h₀ L h' ((x, excObjD C t none) :: (t, ({ cls := .type "tuple", data := .seq pos.toArray } : Obj)) :: news) → (∀ p ∈ news, p.1 < t) → t < x →
      codeAny (model prog w) (A.under (.builtin "type.__call__" ⟨.ref C :: pos, []⟩)) (.call (.ref fI) ⟨.ref x :: pos, []⟩) (InitBack x fun r s' => match r with | .ok (.ret v) => Q v s' | .ok _ => False | .error e => E e s') { s with heap := h' }) :
    wpAny (model prog w) A (call (.ref C) pos []) Q E s := by
  have X := X₀.keeps F.keep
  obtain ⟨nm, q', NN, bs, bm, hdct, sn, sub, ab, col, dd, k0, k1, k2, k3, k5, hC, hb, hb2, ha, hn⟩ := x_cls X hm
  obtain ⟨hh, g, d, t, os⟩ := s
  refine wpAny_call ?_
  refine xcall PySem.F.excBase_Exception hb2 ha hn hC (looks_findIn X hi) (fun self => bind_fn X self hf) (by rw [sizeLine_eq]; omega) ?_
  have N1 := N.push F { cls := .type "tuple", data := .seq pos.toArray }
  have N2 := N1.push (F.push _) (excObjD C hh.objs.size none)
  rw [Heap.size_push] at N2
  exact h _ hh.objs.size _ ((F.push _).push _) N2 (fun p hp => Heap.lt_size (N p hp).1) (Nat.lt_succ_self _)
theorem xinitK {e t : Addr} {v : Value} (F : Fr h₀ L s.heap m) (X₀ : K.In h₀) (N : News h₀ L s.heap news) (U : UpdF e (excObjD C t none) news gg) (hm : xIn K C "Exception.__new__")
    (h : ∀ h' t', Fr h₀ L h' m → News h₀ L h' ((t', ({ cls := .type "tuple", data := .seq #[v] } : Obj)) :: gg (excObjD C t' none)) → (∀ p ∈ gg (excObjD C t' none), p.1 < t') → Q .none { s with heap := h' }) :
    wpAny (model prog w) A (call (.builtin "Exception.__init__") [.ref e, v]) Q E s := by
  obtain ⟨nm, q', NN, bs, bm, hdct, sn, sub, ab, col, dd, k0, k1, k2, k3, k5, hC, hb, hb2, ha, hn⟩ := x_cls (X₀.keeps F.keep) hm
  obtain ⟨pre, post, e1, e2, a, c⟩ := U.split
  exact xinit PySem.F.excBase_Exception hb2 F N U hC h
/-- what the value of a raise is to be -/
inductive XP (C : Addr) (h₀ : Heap) (E : Value → Shared → Prop) (v : Value) (s₁ : Shared) : Prop
  | mk (e : _) (t : _) (dx : _) (f1 : v = .ref e) (f2 : (∀ b o, h₀.get? b = some o → s₁.heap.get? b = some o)) (f3 : s₁.heap.get? e = some (excObjD C t dx)) (f4 : E (.ref e) s₁) : XP C h₀ E v s₁
theorem xraiseK {env : Env} {ex : PySem.Expr} {pos : Pos} {Q : Flow → Shared → Prop} (X₀ : K.In h₀) (hm : xIn K C "Exception.__new__") (hh : A.handled = none)
    (h : wpAny (model prog w) A (eval ex env) (XP C h₀ E) E s) :
    wpAny (model prog w) A (exec (.Raise (some ex) none pos) env) Q E s := by
  obtain ⟨nm, q', NN, bs, bm, hdct, sn, sub, ab, col, dd, k0, k1, k2, k3, k5, hC, hb, hb2, ha, hn⟩ := x_cls X₀ hm
  exact xraise hb hh (wpAny_mono h (fun v s₁ ⟨e, t, dx, hv, hk, he, hE⟩ => ⟨e, t, dx, hv, hk _ _ hC, he, hE⟩) fun _ _ y => y)
end
end Mine

end
section
open PySem PySem.W PyProof.Rows PySem.Calls
set_option Elab.async false
set_option maxRecDepth 100000
set_option maxHeartbeats 1000000
namespace Mine
section
variable {prog : Program} {w : World} {A₀ A : Around} {s : Shared} {base h₀ : Heap} {outer : List Env} {L : Addr} {m : Str → Option Value} {env : Env} {news : List (Addr × Obj)} {K : Frag}
  {p : Program} {loose : List Str} {mean : ExcName → Option Value} {mg mb : Str → Option Value}
  {R : Result → Shared → Prop} {name qual : Str} {params : Arguments} {body : List Stmt} {scope : Scope} {dV kV doc pm cdv ct oc : Value} {an od : Option Addr} {osl : Array (Option Value)} {f : Addr} {args : Args} {binds : List (Str × Value)}
/-- the entry into a def with cells; what is not on the ledger stays in the new ground -/
theorem enterT (B : Below A₀ base outer h₀) (F : Fr h₀ L s.heap m) (X₀ : K.In h₀) (N : News h₀ L s.heap news) (T : Top p loose mean mg mb h₀) (hA : A.frames = some (env :: outer)) (hf : env.frame = some L) (hke : env.scope.kind = .function)
    (ho : K.lookup f = some ⟨oc, od, .func (fnOf name qual params body scope dV kV doc pm an cdv ct), osl⟩) (hcd : codeIn K cdv qual = true) (hroom : A.depth < recursionLimit)
    (hbind : BindsTo s (fnOf name qual params body scope dV kV doc pm an cdv ct) args binds) (hkind : (binds.all fun y => scope.names.lookup y.1 == some .local || scope.names.lookup y.1 == some .cell) = true)
    (hnd : ((cellsFrom 0 scope.names []).map (·.1)).Nodup)
    (h : ∀ g L' h₁ tk cells, (∀ b o, s.heap.get? b = some o → b ∉ news.map (·.1) → g.get? b = some o) → Fr h₀ L g m → Fr g L' h₁ (bindL (envOfC qual scope L' f cdv).kindOf binds fun _ => none) → News g L' h₁ (cells ++ news) →
      CellsAre (bindC (envOfC qual scope L' f cdv).kindOf binds fun _ => none) (cellsFrom (L' + 1) scope.names []) cells → Below A base (env :: outer) g → K.In g → Top p loose mean mg mb g → (∀ p ∈ news, p.1 < L') →
      wpAny (model prog w) (A.deeper (envOfC qual scope L' f cdv)) (execs body (envOfC qual scope L' f cdv))
        (fun fl s' => LeaveK h₀ L m g R (match fl with | .ret v => v | _ => .none) s')
        (fun e s' => wpAny (model prog w) (A.deeper (envOfC qual scope L' f cdv)) (leaving (envOfC qual scope L' f cdv) e) (fun _ s'' => R (.error e) s'') (fun e' s'' => R (.error e') s'') s')
        { s with heap := h₁, toks := tk })
    (hco : scope.isCoroutine = false) (hgen : scope.isGenerator = false) (hk : scope.kind = .function) : codeAny (model prog w) A (.call (.ref f) args) R s := by
  obtain ⟨FG, BG, st, lv⟩ := groundX (R := R) B F N hA hf hke
  have X := X₀.keeps F.keep
  refine codeAny_call_function hroom (X _ _ ho) rfl hco hgen rfl (codeRec_of X hcd) (hbind _ _ _ _ ?_)
  refine wpAny_newFunctionEnv_cells hk (kindsX hkind _) fun env' he s' x => ?_
  subst he
  refine ⟨(T.nolimit.keeps F.keep).keeps x.toInCall.keep, codeAny_func ?_⟩
  obtain ⟨h₁, tk, rfl, _⟩ := x.done
  have k₁ := x.toInCall.keep
  obtain ⟨cells, NC, Y⟩ := Cl.news (h₀ := s.heap) (Nat.le_refl _) fun n c hm => ⟨x.cell n c (lookup_of_mem_nodup (cellsFrom_names scope.names 0 (s.heap.objs.size + 1) [] [] rfl ▸ hnd) hm), x.above n c hm⟩
  refine wpAny_mono (h _ s.heap.objs.size h₁ tk cells (fun b o e n => hideAll_get _ e n) FG ⟨x.toInCall.ns, fun b o e => k₁ b o (of_hideAll _ e), Nat.le_of_eq (hideAll_size _ _)⟩ (fun p hp => ?_) Y BG (X₀.keeps st) (T.keeps st) (fun p hp => Heap.lt_size (N p hp).1)) (fun fl s' hl => lv _ _ hl) fun _ _ y => y
  rcases List.mem_append.mp hp with hp | hp
  · refine ⟨(NC p hp).1, (NC p hp).2.1, ?_⟩
    cases q : (hideAll s.heap (news.map (·.1))).get? p.1 with
    | none => rfl
    | some o => have := of_hideAll _ q; rw [(NC p hp).2.2] at this; cases this
  · exact ⟨k₁ _ _ (N p hp).1, Nat.ne_of_lt (Heap.lt_size (N p hp).1), hideAll_none _ (List.mem_map_of_mem hp)⟩
end
end Mine

end
section
open PySem PySem.W PySem.Calls PyProof.Rows PyProof.V PySem.Spec
set_option Elab.async false
set_option maxRecDepth 100000
set_option maxHeartbeats 1000000
namespace Mine
section
variable {prog : Program} {w : World} {A₀ A : Around} {s : Shared} {base h₀ : Heap} {L : Addr} {m : Str → Option Value} {env : Env} {news : List (Addr × Obj)} {K : Frag}
  {p : Program} {loose : List Str} {mean : ExcName → Option Value} {mg mb : Str → Option Value}
  {R : Result → Shared → Prop} {name qual : Str} {params : Arguments} {body : List Stmt} {scope : Scope} {dV kV doc pm cdv ct oc : Value} {an od : Option Addr} {osl : Array (Option Value)} {f : Addr} {args : Args} {binds : List (Str × Value)}
/-- the end of a def that may have caught: the ground may be another, up to the frames' slots -/
inductive LvS (h₀ : Heap) (L : Addr) (m : Str → Option Value) (g : Heap) (R : Result → Shared → Prop) (v : Value) (s' : Shared) : Prop
  | mk (g' : _) (L' : _) (m' : _) (news' : _) (f1 : KtsTurn [L] g g') (f2 : Fr g' L' s'.heap m') (f3 : News g' L' s'.heap news') (f4 : (Fr h₀ L s'.heap m → News h₀ L s'.heap news' → R (.ok (.ret v)) s')) : LvS h₀ L m g R v s'
/-- the entry into a def that catches, from the law's own frame -/
theorem enterS (B : Below A₀ base [] h₀) (F : Fr h₀ L s.heap m) (X₀ : K.In h₀) (N : News h₀ L s.heap news) (T : Top p loose mean mg mb h₀) (hA : A.frames = some [env]) (hf : env.frame = some L) (hke : env.scope.kind = .function)
    (ho : K.lookup f = some ⟨oc, od, .func (fnOf name qual params body scope dV kV doc pm an cdv ct), osl⟩) (hcd : codeIn K cdv qual = true) (hroom : A.depth < recursionLimit)
    (hbind : BindsTo s (fnOf name qual params body scope dV kV doc pm an cdv ct) args binds) (hloc : ∀ y ∈ binds, scope.names.lookup y.1 = some .local)
    (h : ∀ g L' h₁, Fr h₀ L g m → Fr g L' h₁ (fun y => binds.reverse.lookup y) → News g L' h₁ news → Below A base [env] g → K.In g → Top p loose mean mg mb g → (∀ p ∈ news, p.1 < L') →
      wpAny (model prog w) (A.deeper (envOf qual scope L' f cdv)) (execs body (envOf qual scope L' f cdv))
        (fun fl s' => LvS h₀ L m g R (match fl with | .ret v => v | _ => .none) s')
        (fun e s' => wpAny (model prog w) (A.deeper (envOf qual scope L' f cdv)) (leaving (envOf qual scope L' f cdv) e) (fun _ s'' => R (.error e) s'') (fun e' s'' => R (.error e') s'') s')
        { s with heap := h₁, toks := s.toks + binds.length })
    (hco : scope.isCoroutine = false) (hgen : scope.isGenerator = false) (hk : scope.kind = .function)
    (hcell : ∀ x ∈ scope.names, x.2 ≠ .cell) : codeAny (model prog w) A (.call (.ref f) args) R s := by
  have X := X₀.keeps F.keep
  obtain ⟨FG, BG, st, -⟩ := groundX (R := R) B F N hA hf hke
  refine codeAny_call_def (fd := fnOf name qual params body scope dV kV doc pm an cdv ct) (body := body) (binds := binds) hroom (X _ _ ho) rfl (T.nolimit.keeps F.keep) (codeRec_of X hcd) rfl hbind hcell hloc (fun h₁ hns hk₁ => ?_) hco hgen hk
  refine wpAny_mono (h _ s.heap.objs.size h₁ FG ⟨hns, fun b o e => hk₁ b o (of_hideAll _ e), Nat.le_of_eq (hideAll_size _ _)⟩
    (fun p hp => ⟨hk₁ _ _ (N p hp).1, Nat.ne_of_lt (Heap.lt_size (N p hp).1), hideAll_none _ (List.mem_map_of_mem hp)⟩) BG (X₀.keeps st) (T.keeps st) (fun p hp => Heap.lt_size (N p hp).1)) (fun fl s' hl => ?_) fun _ _ y => y
  obtain ⟨g', L', m', news', T', F', N', k⟩ := hl
  have nL : h₀.get? L = none := fr_self F
  obtain ⟨oL, es, ep, hL, hd, h1, h2⟩ := FG.ns
  obtain ⟨sl, hs⟩ := T'.up hL
  refine k ⟨⟨_, es, ep, F'.keep _ _ hs, hd, h1, h2⟩, fun b o e => F'.keep b o (T'.other b o (st b o e) (fun q => by
    rw [List.mem_singleton.mp q, nL] at e
    cases e)), F.above⟩ fun p hp => ⟨(N' p hp).1, fun q => ?_, ?_⟩
  · have := (N' p hp).2.2; rw [q, hs] at this; cases this
  · cases q : h₀.get? p.1 with
    | none => rfl
    | some o =>
      obtain ⟨sl', hs'⟩ := T'.up (st _ _ q)
      have := (N' p hp).2.2
      rw [hs'] at this
      cases this
end
section
variable {h₀ h : Heap} {L : Addr} {news : List (Addr × Obj)}
/-- data that reads back, bools too -/
noncomputable def okD : Nat → Dat → Bool
  | _, .none => true
  | _, .int _ => true
  | _, .bool _ => true
  | _, .str x => PyData.strOk x
  | n + 1, .tuple ds => ds.all (okD n)
  | _, _ => false
mutual
theorem okD_in (N : News h₀ L h news) : ∀ {v : Value} {d : Dat} (n : Nat), DatIn news v d → okD n d = true → ∃ as, Reads h v (kqdP d) as
  | _, _, _, .none, _ => ⟨_, Reads.none⟩
  | _, _, _, .bool b, _ => ⟨_, Reads.bool b⟩
  | _, _, _, .int i t, _ => ⟨_, Reads.int i t⟩
  | _, _, _, .str x t, _ => ⟨_, Reads.str x t⟩
  | _, _, n, .bytes _ _, hk => by cases n <;> simp [okD] at hk
  | _, _, 0, .tuple _ _, hk => by simp [okD] at hk
  | _, _, n, .list _ _, hk => by cases n <;> simp [okD] at hk
  | _, _, n + 1, .tuple hm r, hk => by
    obtain ⟨as, q⟩ := okD_all N n r (by simpa [okD] using hk)
    rw [kqdP]
    exact ⟨as, reads_tuple_at (N.get hm) rfl rfl (by simpa using q)⟩
theorem okD_all (N : News h₀ L h news) : ∀ {vs : List Value} {ds : List Dat} (n : Nat), DatAll news vs ds → (∀ d ∈ ds, okD n d = true) → ∃ as, ReadsAll h vs (kqdPs ds) as
  | _, _, _, .nil, _ => ⟨_, ReadsAll.nil⟩
  | _, _, n, .cons hd r, hk => by
    obtain ⟨as, q⟩ := okD_in N n hd (hk _ (.head _))
    obtain ⟨bs, p⟩ := okD_all N n r fun d hm => hk d (.tail _ hm)
    rw [kqdPs]
    exact ⟨_, ReadsAll.cons q p⟩
end
theorem okD_lay : ∀ (n : Nat) (d : Dat), okD n d = true → (kqdP d).canLay0 = true ∧ (kqdP d).depth ≤ n ∧ PyData.eqv (kqdP d) (kqdP d) = true := by
  have all : ∀ (n : Nat), (∀ d, okD n d = true → (kqdP d).canLay0 = true ∧ (kqdP d).depth ≤ n ∧ PyData.eqv (kqdP d) (kqdP d) = true) → ∀ ds : List Dat, (∀ d ∈ ds, okD n d = true) →
      PyData.canLayAll0 (kqdPs ds) = true ∧ PyData.depthAll (kqdPs ds) ≤ n ∧ PyData.eqvAll (kqdPs ds) (kqdPs ds) = true := by
    intro n ih ds
    induction ds with
    | nil => intro _; exact ⟨rfl, by simp [kqdPs, PyData.depthAll], by simp [kqdPs, PyData.eqvAll]⟩
    | cons d ds hi =>
      intro h
      obtain ⟨a1, a2, a3⟩ := ih d (h d (.head _))
      obtain ⟨b1, b2, b3⟩ := hi fun x hx => h x (.tail _ hx)
      refine ⟨by simp [kqdPs, PyData.canLayAll0, a1, b1], ?_, by simp [kqdPs, PyData.eqvAll, a3, b3]⟩
      simp only [kqdPs, PyData.depthAll]
      omega
  intro n
  induction n with
  | zero => intro d h; cases d <;> simp_all [okD, kqdP, PyData.canLay0, PyData.depth, PyData.eqv]
  | succ n ih =>
    intro d h
    cases d with
    | tuple ds =>
      obtain ⟨a, b, c⟩ := all n ih ds (by simpa [okD] using h)
      refine ⟨by simpa [kqdP, PyData.canLay0] using a, ?_, by simpa [kqdP, PyData.eqv] using c⟩
      simp only [kqdP, PyData.depth]
      omega
    | _ => simp_all [okD, kqdP, PyData.canLay0, PyData.depth, PyData.eqv]
end
section
variable {prog : Program} {w : World} {A : Around} {E : Value → Shared → Prop} {s : Shared} {h₀ : Heap} {L a b : Addr} {news : List (Addr × Obj)} {d : Dat} {Q : Value → Shared → Prop}
theorem ne_same (N : News h₀ L s.heap news) (Da : DatIn news (.ref a) d) (Db : DatIn news (.ref b) d) (ok : okD 8 d = true) (hu : A.units + 64 < cLine) (h : Q (.bool false) s) : wpAny (model prog w) A (compareOp .NotEq (.ref a) (.ref b)) Q E s := by
  obtain ⟨as, ra⟩ := okD_in N 8 Da ok
  obtain ⟨bs, rb⟩ := okD_in N 8 Db ok
  obtain ⟨l1, l2, l3⟩ := okD_lay 8 d ok
  refine ne_dataH ra rb ?_ ?_ hu (by rw [l3]; exact h)
  · unfold SeqAt.shaped; rw [l1, Bool.true_and]; exact decide_eq_true (Nat.le_trans l2 (by decide))
  · unfold SeqAt.shaped; rw [l1, Bool.true_and]; exact decide_eq_true (Nat.le_trans l2 (by decide))
theorem eq_same (N : News h₀ L s.heap news) (Da : DatIn news (.ref a) d) (Db : DatIn news (.ref b) d) (ok : okD 8 d = true) (hu : A.units + 64 < cLine) (h : Q (.bool true) s) : wpAny (model prog w) A (compareOp .Eq (.ref a) (.ref b)) Q E s := by
  obtain ⟨as, ra⟩ := okD_in N 8 Da ok
  obtain ⟨bs, rb⟩ := okD_in N 8 Db ok
  obtain ⟨l1, l2, l3⟩ := okD_lay 8 d ok
  refine eq_dataH ra rb ?_ ?_ hu (by rw [l3]; exact h)
  · unfold SeqAt.shaped; rw [l1, Bool.true_and]; exact decide_eq_true (Nat.le_trans l2 (by decide))
  · unfold SeqAt.shaped; rw [l1, Bool.true_and]; exact decide_eq_true (Nat.le_trans l2 (by decide))
end
section
variable {prog : Program} {w : World} {A : Around} {E : Value → Shared → Prop} {s : Shared} {K : Frag} {e d C L : Addr} {h₀ : Heap} {m : Str → Option Value} {news : List (Addr × Obj)} {oe : Obj} {es : List DictEntry} {n : Nat} {name : Str} {v : Value}
theorem xgetK {expr : Bool} {Q : Value → Shared → Prop} (F : Fr h₀ L s.heap m) (X₀ : K.In h₀) (N : News h₀ L s.heap news) (he : (e, oe) ∈ news) (hde : (d, dictOf es n) ∈ news) (hcls : oe.cls = .ref C) (hdict : oe.dict = some d) (hnc : notCls oe = true)
    (hsub : mroIn K C (.type "BaseException") = some true) (hh : hasDictIn K C = true) (ha : findIn K (.ref C) name = some none) (hl : getL name es = some (some v))
    (hga : findIn K (.ref C) "__getattribute__" = some (some (.builtin "BaseException.__getattribute__"))) (hgt : findIn K (.ref C) "__getattr__" = some none) (hv : handedIn v = true)
    (h : Q v { s with toks := s.toks + 1 }) : wpAny (model prog w) A (getAttr (.ref e) name expr) Q E s := by
  have I : InstAt s.heap e oe C (some (dictOf es n)) := ⟨(N _ he).1, hcls, hnc, by rw [hdict]; exact (N _ hde).1⟩
  exact xget (X₀.keeps F.keep) I hsub (findObj_own hh ha rfl hl) hga hgt hv h
end
end Mine

end
section
open PySem PySem.W PyProof.Rows PySem.Calls
set_option Elab.async false
set_option maxRecDepth 100000
set_option maxHeartbeats 1000000
namespace Mine
section
variable {prog : Program} {w : World} {A : Around} {E : Value → Shared → Prop} {s : Shared} {h₀ : Heap} {L : Addr} {m : Str → Option Value} {news : List (Addr × Obj)}
theorem upto_applied {sl : Addr} {b n : Nat} {y : Int} {u : Tok} {Q : Int × Int × Nat → Shared → Prop} (hs : s.heap.IsSliceOf sl .none (.int y u) .none) (hy : y = (b : Int)) (hb : b ≤ n) (h : Q (0, 1, b) s) :
    wpAny (model prog w) A (Builtin.Slice.sliceApplied (.ref sl) (pure (n : Int))) Q E s := by
  subst hy
  obtain ⟨os, hos, hcs, hds⟩ := id hs
  have e1 : Builtin.Slice.sliceAdjust none (some (b : Int)) 1 (n : Int) = (0, (b : Int)) := by
    unfold Builtin.Slice.sliceAdjust
    have h1 : ¬ ((1 : Int) < 0) := by omega
    have h2 : ¬ ((b : Int) < 0) := by omega
    simp only [h1, h2, if_false]
    congr 1
    omega
  have e2 : Builtin.Slice.slicePlaces 0 (b : Int) 1 = b := by
    unfold Builtin.Slice.slicePlaces
    have h1 : (1 : Int) > 0 := by omega
    simp only [h1, if_true, Int.ediv_one]
    split <;> omega
  unfold Builtin.Slice.sliceApplied Builtin.Slice.sliceFields
  refine wpAny_bind (wpAny_bind (wpAny_field hos hds (x := .none) rfl (wpAny_bind (wpAny_field hos hds (x := .int b u) rfl (wpAny_bind (wpAny_field hos hds (x := .none) rfl (wpAny_pure ?_)))))))
  refine wpAny_bind (slicePart_none ?_)
  show wpAny _ _ (if ((1 : Int) == 0) = true then _ else _) _ _ s
  rw [if_neg (by decide)]
  refine wpAny_bind (slicePart_none (wpAny_bind (slicePart_int (wpAny_bind (wpAny_pure ?_)))))
  show wpAny _ _ (match Builtin.Slice.sliceAdjust none (some (b : Int)) 1 (n : Int) with | (lo, hi) => pure (lo, (1 : Int), Builtin.Slice.slicePlaces lo hi 1)) _ _ s
  rw [e1]
  show wpAny _ _ (pure ((0 : Int), (1 : Int), Builtin.Slice.slicePlaces (0 : Int) (b : Int) 1)) _ _ s
  rw [e2]
  exact wpAny_pure h
theorem upto_get {t sl : Addr} {items : Array Value} {b : Nat} {y : Int} {u : Tok} {zs : List Value} {Q : Value → Shared → Prop} (ht : IsTup s.heap t items) (hs : s.heap.IsSliceOf sl .none (.int y u) .none) (hy : y = (b : Int)) (hb : b < items.size)
    (e : ((List.range b).filterMap fun (k : Nat) => items[((0 : Int) + (k : Int) * 1).toNat]?) = zs) (hz : zs.length ≤ 1000)
    (h : Q (.ref s.heap.objs.size) { s with heap := s.heap.push { cls := .type "tuple", data := .seq zs.toArray } }) : wpAny (model prog w) A (getItem (.ref t) (.ref sl)) Q E s := by
  have hok : sizeOk (.seq zs.toArray) := by
    show zs.toArray.size ≤ sizeLine
    rw [List.size_toArray, sizeLine_eq]; omega
  obtain ⟨os, hos, hcs, hds⟩ := id hs
  have hTs : s.TypeIs (.ref sl) "slice" := ⟨os, hos, hcs⟩
  unfold getItem
  try with_reducible refine wpAny_holding ?_
  first | refine wpAny_bind (wpAny_pure ?_) | skip
  refine wpAny_bind (wpAny_sequenceKey ht.typeIs (by decide) ?_)
  refine wpAny_bind (wpAny_callSpecial?_slot (name := Str.ofString "__getitem__") ht.typeIs slot_tuple_getitem
    (wpAny_call_entry slot_tuple_getitem ht.typeIs entry_tuple_getitem ?_ (args_tuple_getitem _ _)))
  show wpAny _ _ (Builtin.Tuple.tupleItemsOf (.ref t) >>= _) _ _ s
  refine wpAny_bind (tupleItemsOf_ ht ?_)
  refine wpAny_bind (wpAny_typeOf hTs ?_)
  rw [if_pos (by decide)]
  refine wpAny_bind (upto_applied hs hy (Nat.le_of_lt hb) ?_)
  have hno : ¬ (((0 : Int) == 0 && (1 : Int) == 1 && b == items.size) = true) := by
    have : (b == items.size) = false := by rw [beq_eq_false_iff_ne]; omega
    rw [this]; simp
  show wpAny _ _ (if ((0 : Int) == 0 && (1 : Int) == 1 && b == items.size) = true then _ else _) _ _ s
  rw [if_neg hno, e]
  first
    | exact wpAny_bind (m := Builtin.Tuple.tupleExact _) (wpAny_newObj_type (wpAny_pure ⟨_, rfl, wpAny_pure h⟩) hok)
    | exact wpAny_bind (m := Builtin.Tuple.tupleExact _) (wpAny_newObj_type (wpAny_bind (wpAny_pure (wpAny_pure ⟨_, rfl, wpAny_pure h⟩))) hok)
    | exact wpAny_bind (wpAny_bind (m := Builtin.Tuple.tupleExact _) (wpAny_newObj_type (wpAny_pure (wpAny_pure ⟨_, rfl, wpAny_pure h⟩)) hok))
    | exact wpAny_bind (wpAny_bind (m := Builtin.Tuple.tupleExact _) (wpAny_newObj_type (wpAny_pure ⟨_, rfl, wpAny_pure h⟩) hok))
theorem all_get {t sl : Addr} {items : Array Value} {y : Int} {u : Tok} {Q : Value → Shared → Prop} (ht : IsTup s.heap t items) (hs : s.heap.IsSliceOf sl .none (.int y u) .none) (hy : y = (items.size : Int))
    (h : Q (.ref t) s) : wpAny (model prog w) A (getItem (.ref t) (.ref sl)) Q E s := by
  obtain ⟨os, hos, hcs, hds⟩ := id hs
  have hTs : s.TypeIs (.ref sl) "slice" := ⟨os, hos, hcs⟩
  unfold getItem
  try with_reducible refine wpAny_holding ?_
  first | refine wpAny_bind (wpAny_pure ?_) | skip
  refine wpAny_bind (wpAny_sequenceKey ht.typeIs (by decide) ?_)
  refine wpAny_bind (wpAny_callSpecial?_slot (name := Str.ofString "__getitem__") ht.typeIs slot_tuple_getitem
    (wpAny_call_entry slot_tuple_getitem ht.typeIs entry_tuple_getitem ?_ (args_tuple_getitem _ _)))
  show wpAny _ _ (Builtin.Tuple.tupleItemsOf (.ref t) >>= _) _ _ s
  refine wpAny_bind (tupleItemsOf_ ht ?_)
  refine wpAny_bind (wpAny_typeOf hTs ?_)
  rw [if_pos (by decide)]
  refine wpAny_bind (upto_applied hs hy (Nat.le_refl _) ?_)
  show wpAny _ _ (if ((0 : Int) == 0 && (1 : Int) == 1 && items.size == items.size) = true then _ else _) _ _ s
  rw [if_pos (by simp)]
  unfold Builtin.Tuple.tupleIsExact
  refine wpAny_bind (wpAny_bind (wpAny_typeOf ht.typeIs (wpAny_pure ?_)))
  rw [if_pos (by decide)]
  exact wpAny_bind (wpAny_rule (wpAny_pure ⟨_, rfl, wpAny_pure h⟩))
theorem tup_upto {value slice : PySem.Expr} {t : Addr} {items : Array Value} {b : Nat} {y : Int} {u : Tok} {zs : List Value} {Q : Value → Shared → Prop} (F : Fr h₀ L s.heap m) (N : News h₀ L s.heap news) (ht : IsTup s.heap t items) (hy : y = (b : Int)) (hb : b < items.size)
    (e : ((List.range b).filterMap fun (k : Nat) => items[((0 : Int) + (k : Int) * 1).toNat]?) = zs) (hz : zs.length ≤ 1000)
    (h : ∀ D h', Fr h₀ L h' m → News h₀ L h' ((D, ({ cls := .type "tuple", data := .seq zs.toArray } : Obj)) :: news) → (∀ p ∈ news, p.1 < D) → Q (.ref D) { s with heap := h' })
    (hs : subscripted slice false (.ref t) (.ref s.heap.objs.size) = operate [.ref s.heap.objs.size, .ref t] (getItem (.ref t) (.ref s.heap.objs.size))) (hg : ∀ r, letTemporaryGo value (.ref t) r = pure ()) :
    wpAny (model prog w) A (subscriptTail value slice (.ref t) (.ref s.heap.objs.size)) Q E { s with heap := s.heap.push { cls := .type "slice", data := .fields #[.none, .int y u, .none] } } := by
  have ht' : IsTup (s.heap.push { cls := .type "slice", data := .fields #[.none, .int y u, .none] }) t items := ht.keeps fun _ _ e => Heap.get?_push_of_some _ e
  refine subscriptTail_ops (s := { s with heap := s.heap.push { cls := .type "slice", data := .fields #[.none, .int y u, .none] } }) ht'.typeIs slot_tuple_getitem.lookup
    (upto_get ht' (Heap.IsSliceOf.new ..) hy hb e hz ?_) hs hg
  have N1 := News.push (F.push { cls := .type "slice", data := .fields #[.none, .int y u, .none] }) (N.grown fun _ _ e => Heap.get?_push_of_some _ e) { cls := .type "tuple", data := .seq zs.toArray }
  exact h _ _ ((F.push _).push _) N1 fun p hp => Nat.lt_trans (Heap.lt_size (N p hp).1) (by rw [Heap.size_push]; exact Nat.lt_succ_self _)
theorem tup_all {value slice : PySem.Expr} {t : Addr} {items : Array Value} {y : Int} {u : Tok} {Q : Value → Shared → Prop} (F : Fr h₀ L s.heap m) (N : News h₀ L s.heap news) (ht : IsTup s.heap t items) (hy : y = (items.size : Int))
    (h : ∀ h', Fr h₀ L h' m → News h₀ L h' news → Q (.ref t) { s with heap := h' })
    (hs : subscripted slice false (.ref t) (.ref s.heap.objs.size) = operate [.ref s.heap.objs.size, .ref t] (getItem (.ref t) (.ref s.heap.objs.size))) (hg : ∀ r, letTemporaryGo value (.ref t) r = pure ()) :
    wpAny (model prog w) A (subscriptTail value slice (.ref t) (.ref s.heap.objs.size)) Q E { s with heap := s.heap.push { cls := .type "slice", data := .fields #[.none, .int y u, .none] } } := by
  have ht' : IsTup (s.heap.push { cls := .type "slice", data := .fields #[.none, .int y u, .none] }) t items := ht.keeps fun _ _ e => Heap.get?_push_of_some _ e
  exact subscriptTail_ops (s := { s with heap := s.heap.push { cls := .type "slice", data := .fields #[.none, .int y u, .none] } }) ht'.typeIs slot_tuple_getitem.lookup
    (all_get ht' (Heap.IsSliceOf.new ..) hy (h _ (F.push _) (N.grown fun _ _ e => Heap.get?_push_of_some _ e))) hs hg
end
end Mine

end
section
open PySem PySem.W PyProof.Rows PySem.Calls
set_option Elab.async false
set_option maxRecDepth 100000
set_option maxHeartbeats 4000000
namespace Mine
/-- a stop: the goal, wrapped; the text goes on by hand -/
structure Stp (P : Prop) : Prop where
  un : P
theorem stp {P : Prop} (h : Stp P) : P := h.un
theorem unstp {P : Prop} (h : P) : Stp P := ⟨h⟩
abbrev GoM (P : Prop) : Prop := P
theorem goM {P : Prop} (h : GoM P) : P := h
theorem toksG {α : Type} {M : Model} {A : Around} {t : Sem α} {Q : α → Shared → Prop} {E : Value → Shared → Prop} {h : Heap} {g : Array GenState} {d : Drawn} {k : Nat} {o : OsState}
    (H : ∀ k', wpAny M A t Q E ⟨h, g, d, k', o⟩) : wpAny M A t Q E ⟨h, g, d, k, o⟩ := H k
abbrev PG : Program := PySem.Challenge.rw_pb0259_01.row.prog
abbrev ctx (D U : Nat) (env : Env) (outer : List Env) (gd : Option (List Code)) : Around := { handled := none, depth := D, frames := some (env :: outer), guards := gd, units := U }
theorem ctx_mono {α : Type} {M : Model} {D U D' U' : Nat} {env : Env} {outer : List Env} {gd : Option (List Code)} {t : Sem α} {Q : α → Shared → Prop} {E : Value → Shared → Prop} {s : Shared}
    (hD : D ≤ D') (hU : U ≤ U') (h : wpAny M (ctx D' U' env outer gd) t Q E s) : wpAny M (ctx D U env outer gd) t Q E s :=
  fun Γ p hΓ => h Γ p ⟨hΓ.1, Nat.le_trans hΓ.2.1 hD, hΓ.2.2.1, hΓ.2.2.2.1, Nat.le_trans hΓ.2.2.2.2 hU⟩

/-- the reader's dict -/
noncomputable abbrev rdO (P : Params) (t1 t2 t3 : Tok) (lt : Addr) (p : Int) (tk : Tok) (nd : Addr) : Obj :=
  dictOf [⟨PyData.keyHash P "tokens", .str "tokens" t1, .ref lt⟩, ⟨PyData.keyHash P "at", .str "at" t2, .int p tk⟩, ⟨PyData.keyHash P "named", .str "named" t3, .ref nd⟩] 3
/-- a token's dict -/
noncomputable abbrev tkO (P : Params) (t1 t2 t3 t4 : Tok) (kind worth : Str) (k1 k2 : Tok) (pos : Addr) (n : Nat) : Obj :=
  dictOf [⟨PyData.keyHash P "kind", .str "kind" t1, .str kind k1⟩, ⟨PyData.keyHash P "worth", .str "worth" t2, .str worth k2⟩, ⟨PyData.keyHash P "at", .str "at" t3, .ref pos⟩, ⟨PyData.keyHash P "is_in_a", .str "is_in_a" t4, .bool false⟩] n
/-- what a token is, and where it lies -/
structure Tk where
  t : Addr
  d : Addr
  pos : Addr
  t1 : Tok
  t2 : Tok
  t3 : Tok
  t4 : Tok
  k1 : Tok
  k2 : Tok
  k3 : Tok
  k4 : Tok
  n : Nat
  line : Int
  kind : Str
  x : Str
noncomputable def Tk.In (P : Params) (h : Heap) (k : Tk) : Prop :=
  h.get? k.t = some (instObj 401 k.d) ∧ h.get? k.d = some (tkO P k.t1 k.t2 k.t3 k.t4 k.kind k.x k.k1 k.k2 k.pos k.n) ∧
  IsTup h k.pos #[.int k.line k.k3, .int 12 k.k4]
/-- the tokens, by the list at lt -/
structure TB (P : Params) (h : Heap) (lt : Addr) (l : List Tk) : Prop where
  lst : h.IsList lt (l.map fun k => Value.ref k.t).toArray
  all : ∀ k ∈ l, k.In P h
  short : l.length < 1000
  shortx : ∀ k ∈ l, k.x.length ≤ 1000
theorem Tk.In.keeps {P : Params} {h h' : Heap} {k : Tk} (a : k.In P h) (q : ∀ b o, h.get? b = some o → h'.get? b = some o) : k.In P h' :=
  ⟨q _ _ a.1, q _ _ a.2.1, a.2.2.keeps q⟩
theorem TB.keeps {P : Params} {h h' : Heap} {lt : Addr} {l : List Tk} (a : TB P h lt l) (q : ∀ b o, h.get? b = some o → h'.get? b = some o) : TB P h' lt l :=
  ⟨let ⟨o, ho, r⟩ := a.lst; ⟨o, q _ _ ho, r⟩, fun k hk => (a.all k hk).keeps q, a.short, a.shortx⟩

theorem tok_inst {P : Params} {g h : Heap} {L : Addr} {m : Str → Option Value} {lt : Addr} {l : List Tk} {k : Tk} (F : Fr g L h m) (tb : TB P g lt l) (hm : k ∈ l) :
    InstAt h k.t (instObj 401 k.d) 401 (some (tkO P k.t1 k.t2 k.t3 k.t4 k.kind k.x k.k1 k.k2 k.pos k.n)) :=
  ⟨F.keep _ _ (tb.all k hm).1, rfl, rfl, F.keep _ _ (tb.all k hm).2.1⟩
local macro_rules | `(tactic| walk_at "eval Name") => `(tactic| (k_here; name_kind "cell"; k_dflt (refine' nameX_C ?N ?c ?m ?d ?_ ?a ?b; (case a => exact rfl); (case b => kernel_rfl!); (case N => k_asm); (case c => exact rfl); (case m => k_mem); (case d => k_asm); k_whole)))
local macro_rules | `(tactic| walk_at "eval Name") => `(tactic| (k_here; name_kind "globalImplicit"; k_dflt (first | (refine' nameX_K ?F ?X ?T ?e ?_ ?a ?b; (case F => k_asm); (case X => k_asm); (case T => k_asm); (case a => exact rfl); (case b => kernel_rfl!); (case e => k_is); k_whole) | (refine' nameX_B ?F ?X ?T ?e ?v ?n ?_ ?a ?b; (case F => k_asm); (case X => k_asm); (case T => k_asm); (case a => exact rfl); (case b => kernel_rfl!); (case e => k_is); (case v => boot_fast); (case n => decide); k_whole))))
local macro_rules | `(tactic| walk_at "eval Name") => `(tactic| (k_here; name_kind "local"; k_dflt (refine' nameX_L ?F ?v ?_ ?a ?b; (case F => k_asm); (case a => exact rfl); (case b => kernel_rfl!); (case v => first | assumption | exact rfl | (simp (decide := true) only [reduceIte]; assumption)); k_whole)))
local macro_rules | `(tactic| walk_at "execs cons") => `(tactic| (k_here; (with_reducible refine wpAny_execs_cons ?_); (try dsimp only); (try k_fold)))
local macro_rules | `(tactic| k_mem) => `(tactic| assumption)
local macro_rules | `(tactic| walk_at "own:m1") => `(tactic| first | with_reducible assumption | exact .head _ | (refine .tail _ ?_; walk_at "own:m1"))
local macro_rules | `(tactic| walk_at "own:m2") => `(tactic| first | assumption | exact .head _ | (refine .tail _ ?_; walk_at "own:m2"))
local macro_rules | `(tactic| walk_at "own:m3") => `(tactic| first | exact .head _ | (refine .tail _ ?_; walk_at "own:m3") | assumption)
local macro_rules | `(tactic| k_inst) => `(tactic| exact tok_inst (by assumption) (by assumption) (by assumption))
local macro_rules | `(tactic| k_enter) => `(tactic| (refine' code_def ?k1 ?k2 ?k3 ?k4 ?k5 ?kA ?kF ?kK ?k6 ?k7 ?k8 ?k9 ?kB ?_ ?c2 ?c3 ?c4 ?c5; (case kA => exact rfl); (case kF => first | exact rfl | assumption); (case kK => first | exact rfl | assumption); (case k1 => k_asm); (case k2 => k_asm); (case k3 => k_asm); (case k4 => k_asm); (case k5 => k_asm); (case k6 => k_is); (case k7 => k_is); (case k8 => k_room); (case k9 => first | exact BindsTo.of_eq rfl | exact binds_K (by k_in) rfl (by k_is) rfl rfl rfl); (case c5 => decide); (case kB => exact locs rfl); (case c2 => exact rfl); (case c3 => exact rfl); (case c4 => exact rfl); k_whole; intro g' L' h' FG' F' N' B' X' T'; (try dsimp only); refine toksG ?_; intro tkG'; (try (have TB' := TB.keeps (by assumption) (Fr.keep (by assumption)); have TL' := TB'.lst)); (try k_fold)))
local macro_rules | `(tactic| walk_at "subscriptTail") => `(tactic| (goal_lacks GoM; refine stp ?_))



local macro_rules | `(tactic| k_all) => `(tactic| assumption)
theorem nb0 {h₀ h : Heap} {L : Addr} {c big : List (Addr × Obj)} (N : News h₀ L h c) (hb : ∀ x ∈ big, x ∈ c) : News h₀ L h big := fun x hx => N x (hb x hx)
theorem nb1 {h₀ h : Heap} {L : Addr} {a : Addr × Obj} {c big : List (Addr × Obj)} (N : News h₀ L h (a :: c)) (hb : ∀ x ∈ big, x ∈ c) : News h₀ L h big := fun x hx => N x (.tail _ (hb x hx))
theorem nb2 {h₀ h : Heap} {L : Addr} {a b : Addr × Obj} {c big : List (Addr × Obj)} (N : News h₀ L h (a :: b :: c)) (hb : ∀ x ∈ big, x ∈ c) : News h₀ L h big := fun x hx => N x (.tail _ (.tail _ (hb x hx)))
theorem nb3 {h₀ h : Heap} {L : Addr} {a b d : Addr × Obj} {c big : List (Addr × Obj)} (N : News h₀ L h (a :: b :: d :: c)) (hb : ∀ x ∈ big, x ∈ c) : News h₀ L h big := fun x hx => N x (.tail _ (.tail _ (.tail _ (hb x hx))))
theorem canon {h₀ h : Heap} {L r dr : Addr} {es : List DictEntry} {n : Nat} {news : List (Addr × Obj)} {g : Obj → List (Addr × Obj)} (N : News h₀ L h news) (hr : (r, instObj 371 dr) ∈ news) (hu : UpdF dr (dictOf es n) news g) :
    ∃ rest, (∀ q ∈ rest, q.1 ≠ dr) ∧ (dr, dictOf es n) ∈ news ∧ r ≠ dr ∧ News h₀ L h ((r, instObj 371 dr) :: (dr, dictOf es n) :: rest) ∧ ∀ O', ∀ x ∈ g O', x ∈ (r, instObj 371 dr) :: (dr, O') :: rest := by
  obtain ⟨pre, post, e1, e2, a, b⟩ := hu.split
  have hd : (dr, dictOf es n) ∈ news := by rw [e1]; simp
  refine ⟨pre ++ post, ?_, hd, ?_, ?_, ?_⟩
  · intro q hq
    rcases List.mem_append.mp hq with h | h
    · exact a q h
    · exact b q h
  · rintro rfl
    have h1 := (N _ hr).1
    have h2 := (N _ hd).1
    rw [h1] at h2
    exact absurd (congrArg Obj.cls (Option.some.inj h2)) (by intro e; cases e)
  · intro x hx
    rcases List.mem_cons.mp hx with rfl | hx
    · exact N _ hr
    · rcases List.mem_cons.mp hx with rfl | hx
      · exact N _ hd
      · refine N _ ?_
        rw [e1]
        rcases List.mem_append.mp hx with h | h
        · exact List.mem_append_left _ h
        · exact List.mem_append_right _ (.tail _ h)
  · intro O' x hx
    rw [e2] at hx
    rcases List.mem_append.mp hx with h | h
    · exact .tail _ (.tail _ (List.mem_append_left _ h))
    · rcases List.mem_cons.mp h with rfl | h
      · exact .tail _ (.head _)
      · exact .tail _ (.tail _ (List.mem_append_right _ h))
noncomputable def tokAt (l : List Tk) (i : Int) : Option Tk := l[i.toNat]?
noncomputable abbrev tkv : Option Tk → Value
  | none => .none
  | some k => .ref k.t
noncomputable def isKind (l : List Tk) (i : Int) (kd : Str) : Bool := match tokAt l i with | none => false | some t => t.kind == kd
noncomputable def isWord (l : List Tk) (i : Int) (wd : Str) : Bool := match tokAt l i with | none => false | some t => t.kind == "word" && t.x == wd
noncomputable def isSign (l : List Tk) (i : Int) (sg : Str) : Bool := match tokAt l i with | none => false | some t => t.kind == "sign" && t.x == sg
theorem allLt_all {d : Addr} (l : List (Addr × Obj)) : AllLt d l → ∀ p ∈ l, p.1 < d := by
  induction l with
  | nil => intro _ p hp; cases hp
  | cons a r ih =>
    intro h p hp
    rcases List.mem_cons.mp hp with e | hp
    · rw [e]; exact h.1
    · exact ih h.2 p hp

local macro_rules | `(tactic| walk_at "call builtin:len") => `(tactic| (goal_lacks GoM; refine stp ?_))

section
variable {w : World} {p : Program} {loose : List Str} {mean : ExcName → Option Value} {mg mb : Str → Option Value}
  {env : Env} {outer : List Env} {gd : Option (List Code)} {A₀ : Around} {base h₀ : Heap} {L : Addr} {m : Str → Option Value} {news : List (Addr × Obj)} {g : Obj → List (Addr × Obj)} {s : Shared} {Q E : Value → Shared → Prop}
  {D U : Nat} {r dr lt nd : Addr} {t1 t2 t3 tk ka : Tok} {q k : Int} {n : Nat} {l : List Tk}
theorem peek_c {o : Option Tk} (hD : D ≤ 980) (hU : U ≤ 4900) (B : Below A₀ base outer h₀) (F : Fr h₀ L s.heap m) (X : (kdef.heap_1 w.params).In h₀) (N : News h₀ L s.heap news) (hr : (r, instObj 371 dr) ∈ news) (hd : (dr, rdO w.params t1 t2 t3 lt q tk nd) ∈ news) 
  (T : Top p loose mean mg mb h₀) (hf : env.frame = some L) (hke : env.scope.kind = .function) (tb : TB w.params h₀ lt l) (h0 : 0 ≤ q) (h2 : q < 10000)
  (h1 : 0 ≤ k) (h3 : k < 10000) (ho : tokAt l (q + k) = o)
  (ret : ∀ h' tk', Fr h₀ L h' m → News h₀ L h' news → Q (tkv o) { s with heap := h', toks := tk' }) :
  wpAny (model PG w) (ctx D U env outer gd) (call (.ref 225) [.ref r, .int k ka]) Q E s := by
  refine ctx_mono hD hU ?_
  subst ho
  have hsh := tb.short
  unfold tokAt at ret
  cases hv : l[(q + k).toNat]? with
  | none =>
    rw [hv] at ret
    have hge : (l.length : Int) ≤ q + k := by rw [List.getElem?_eq_none_iff] at hv; omega
    refine wpAny_call ?_
    k_dflt k_enter
    (repeat' (first | (with_reducible refine unstp ?_; first | ((k_here; (with_reducible show wpAny _ _ (call (Value.builtin "len") [Value.ref _]) _ _ _); (with_unfolding_all refine' len_list ?k1 ?k2 ?_; (case k1 => is_list); (case k2 => first | (simp only [List.size_toArray, List.length_map]; omega) | decide); k_whole); (try simp only [List.size_toArray, List.length_map]))) | ((k_here; (with_reducible show wpAny _ _ (subscriptTail _ _ (Value.ref _) (Value.int _ _)) _ _ _); (with_unfolding_all refine' item_list (x := Value.ref _) ?k1 ?k2 ?k3 ?k4 ?_ ?k6 ?k7; (case k1 => is_list); (case k2 => omega); (case k3 => omega); (case k4 => (simp only [List.getElem?_toArray, List.getElem?_map, *]; rfl)); (case k6 => with_unfolding_all rfl); (case k7 => intro _; with_unfolding_all rfl); k_whole))) | (refine goM ?_; k_dflt walk1) | (k_dflt (dsimp only); refine stp ?_)) | (k_unfold; (first | with_reducible refine (?_ : wpAny _ _ _ _ _ _) | (try dsimp only))) | (k_end; wrow_close) | walk1 | (dsimp only; walk1) | (leave1; walk_say "STEP leave1"; try dsimp only) | fail "no step"))
    all_goals first | exact ret _ _ (by k_asm) (nb0 (by k_asm) (fun _ h => h)) | exact ret _ _ (by k_asm) (nb1 (by k_asm) (fun _ h => h)) | exact ret _ _ (by k_asm) (nb2 (by k_asm) (fun _ h => h)) | exact ret _ _ (by k_asm) (nb3 (by k_asm) (fun _ h => h))
  | some k' =>
    rw [hv] at ret
    have hlt : q + k < (l.length : Int) := by have := (List.getElem?_eq_some_iff.mp hv).1; omega
    refine wpAny_call ?_
    k_dflt k_enter
    (repeat' (first | (with_reducible refine unstp ?_; first | ((k_here; (with_reducible show wpAny _ _ (call (Value.builtin "len") [Value.ref _]) _ _ _); (with_unfolding_all refine' len_list ?k1 ?k2 ?_; (case k1 => is_list); (case k2 => first | (simp only [List.size_toArray, List.length_map]; omega) | decide); k_whole); (try simp only [List.size_toArray, List.length_map]))) | ((k_here; (with_reducible show wpAny _ _ (subscriptTail _ _ (Value.ref _) (Value.int _ _)) _ _ _); (with_unfolding_all refine' item_list (x := Value.ref _) ?k1 ?k2 ?k3 ?k4 ?_ ?k6 ?k7; (case k1 => is_list); (case k2 => omega); (case k3 => omega); (case k4 => (simp only [List.getElem?_toArray, List.getElem?_map, *]; rfl)); (case k6 => with_unfolding_all rfl); (case k7 => intro _; with_unfolding_all rfl); k_whole))) | (refine goM ?_; k_dflt walk1) | (k_dflt (dsimp only); refine stp ?_)) | (k_unfold; (first | with_reducible refine (?_ : wpAny _ _ _ _ _ _) | (try dsimp only))) | (k_end; wrow_close) | walk1 | (dsimp only; walk1) | (leave1; walk_say "STEP leave1"; try dsimp only) | fail "no step"))
    all_goals first | exact ret _ _ (by k_asm) (nb0 (by k_asm) (fun _ h => h)) | exact ret _ _ (by k_asm) (nb1 (by k_asm) (fun _ h => h)) | exact ret _ _ (by k_asm) (nb2 (by k_asm) (fun _ h => h)) | exact ret _ _ (by k_asm) (nb3 (by k_asm) (fun _ h => h))
end
local macro_rules | `(tactic| walk_at "call ref") => `(tactic| (goal_lacks GoM; refine stp ?_))

section
variable {w : World} {p : Program} {loose : List Str} {mean : ExcName → Option Value} {mg mb : Str → Option Value}
  {env : Env} {outer : List Env} {gd : Option (List Code)} {A₀ : Around} {base h₀ : Heap} {L : Addr} {m : Str → Option Value} {news : List (Addr × Obj)} {g : Obj → List (Addr × Obj)} {s : Shared} {Q E : Value → Shared → Prop}
  {D U : Nat} {r dr lt nd : Addr} {t1 t2 t3 tk ka : Tok} {q k : Int} {n : Nat} {l : List Tk}
theorem is_kind_c {kd : Str} {kt : Tok} {b : Bool} (hD : D ≤ 970) (hU : U ≤ 4850) (B : Below A₀ base outer h₀) (F : Fr h₀ L s.heap m) (X : (kdef.heap_1 w.params).In h₀) (N : News h₀ L s.heap news) (hr : (r, instObj 371 dr) ∈ news) (hd : (dr, rdO w.params t1 t2 t3 lt q tk nd) ∈ news) 
  (T : Top p loose mean mg mb h₀) (hf : env.frame = some L) (hke : env.scope.kind = .function) (tb : TB w.params h₀ lt l) (h0 : 0 ≤ q) (h2 : q < 10000)
  (h1 : 0 ≤ k) (h3 : k < 10000) (hb : isKind l (q + k) kd = b)
  (ret : ∀ h' tk', Fr h₀ L h' m → News h₀ L h' news → Q (.bool b) { s with heap := h', toks := tk' }) :
  wpAny (model PG w) (ctx D U env outer gd) (call (.ref 254) [.ref r, .str kd kt, .int k ka]) Q E s := by
  refine ctx_mono hD hU ?_
  subst hb
  unfold isKind at ret
  cases hv : tokAt l (q + k) with
  | none =>
    rw [hv] at ret
    refine wpAny_call ?_
    k_dflt k_enter
    (repeat' (first | (with_reducible refine unstp ?_; first | ((k_here; k_dflt (refine' peek_c ?hD ?hU ?B ?F ?X ?N ?hr ?hd ?T ?hf ?hke ?tb ?h0 ?h2 ?h1 ?h3 ?ho ?_; (case hD => exact Nat.le_of_ble_eq_true rfl); (case hU => exact Nat.le_of_ble_eq_true rfl); (case B => k_asm); (case F => k_asm); (case X => k_asm); (case N => k_asm); (case hr => k_mem); (case hd => k_mem); (case T => k_asm); (case hf => rfl); (case hke => rfl); (case tb => assumption); (case h0 => omega); (case h2 => omega); (case h1 => omega); (case h3 => omega); (case ho => first | assumption | exact rfl); k_whole); intro h9z' tk9z' F9z' N9z'; (try dsimp only [tkv]))) | ((k_here; (with_reducible show wpAny _ _ (call (Value.builtin "len") [Value.ref _]) _ _ _); (with_unfolding_all refine' len_list ?k1 ?k2 ?_; (case k1 => is_list); (case k2 => first | (simp only [List.size_toArray, List.length_map]; omega) | decide); k_whole); (try simp only [List.size_toArray, List.length_map]))) | ((k_here; (with_reducible show wpAny _ _ (subscriptTail _ _ (Value.ref _) (Value.int _ _)) _ _ _); (with_unfolding_all refine' item_list (x := Value.ref _) ?k1 ?k2 ?k3 ?k4 ?_ ?k6 ?k7; (case k1 => is_list); (case k2 => omega); (case k3 => omega); (case k4 => (simp only [List.getElem?_toArray, List.getElem?_map, *]; rfl)); (case k6 => with_unfolding_all rfl); (case k7 => intro _; with_unfolding_all rfl); k_whole))) | (refine goM ?_; k_dflt walk1) | (k_dflt (dsimp only); refine stp ?_)) | (k_unfold; (first | with_reducible refine (?_ : wpAny _ _ _ _ _ _) | (try dsimp only))) | (k_end; wrow_close) | walk1 | (dsimp only; walk1) | (leave1; walk_say "STEP leave1"; try dsimp only) | fail "no step"))
    all_goals first | exact ret _ _ (by k_asm) (nb0 (by k_asm) (fun _ h => h)) | exact ret _ _ (by k_asm) (nb1 (by k_asm) (fun _ h => h)) | exact ret _ _ (by k_asm) (nb2 (by k_asm) (fun _ h => h)) | exact ret _ _ (by k_asm) (nb3 (by k_asm) (fun _ h => h))
  | some k' =>
    rw [hv] at ret
    have hm : k' ∈ l := List.mem_of_getElem? hv
    refine wpAny_call ?_
    k_dflt k_enter
    (repeat' (first | (with_reducible refine unstp ?_; first | ((k_here; k_dflt (refine' peek_c ?hD ?hU ?B ?F ?X ?N ?hr ?hd ?T ?hf ?hke ?tb ?h0 ?h2 ?h1 ?h3 ?ho ?_; (case hD => exact Nat.le_of_ble_eq_true rfl); (case hU => exact Nat.le_of_ble_eq_true rfl); (case B => k_asm); (case F => k_asm); (case X => k_asm); (case N => k_asm); (case hr => k_mem); (case hd => k_mem); (case T => k_asm); (case hf => rfl); (case hke => rfl); (case tb => assumption); (case h0 => omega); (case h2 => omega); (case h1 => omega); (case h3 => omega); (case ho => first | assumption | exact rfl); k_whole); intro h9z' tk9z' F9z' N9z'; (try dsimp only [tkv]))) | ((k_here; (with_reducible show wpAny _ _ (call (Value.builtin "len") [Value.ref _]) _ _ _); (with_unfolding_all refine' len_list ?k1 ?k2 ?_; (case k1 => is_list); (case k2 => first | (simp only [List.size_toArray, List.length_map]; omega) | decide); k_whole); (try simp only [List.size_toArray, List.length_map]))) | ((k_here; (with_reducible show wpAny _ _ (subscriptTail _ _ (Value.ref _) (Value.int _ _)) _ _ _); (with_unfolding_all refine' item_list (x := Value.ref _) ?k1 ?k2 ?k3 ?k4 ?_ ?k6 ?k7; (case k1 => is_list); (case k2 => omega); (case k3 => omega); (case k4 => (simp only [List.getElem?_toArray, List.getElem?_map, *]; rfl)); (case k6 => with_unfolding_all rfl); (case k7 => intro _; with_unfolding_all rfl); k_whole))) | (refine goM ?_; k_dflt walk1) | (k_dflt (dsimp only); refine stp ?_)) | (k_unfold; (first | with_reducible refine (?_ : wpAny _ _ _ _ _ _) | (try dsimp only))) | (k_end; wrow_close) | walk1 | (dsimp only; walk1) | (leave1; walk_say "STEP leave1"; try dsimp only) | fail "no step"))
    all_goals first | exact ret _ _ (by k_asm) (nb0 (by k_asm) (fun _ h => h)) | exact ret _ _ (by k_asm) (nb1 (by k_asm) (fun _ h => h)) | exact ret _ _ (by k_asm) (nb2 (by k_asm) (fun _ h => h)) | exact ret _ _ (by k_asm) (nb3 (by k_asm) (fun _ h => h))
end
theorem split_one {prog : Program} {w : World} {A : Around} {E : Value → Shared → Prop} {s : Shared} {h₀ : Heap} {L : Addr} {m : PySem.Str → Option Value} {news : List (Addr × Obj)} {x y z : PySem.Str} {t u : Tok} {Q : Value → Shared → Prop}
    (hF : Fr h₀ L s.heap m) (hN : News h₀ L s.heap news) (hy : (y.length == 0) = false) (hsp : Txt.split x y = [z]) (hsz : x.length ≤ 1000)
    (h : ∀ D tz h' k, Fr h₀ L h' m → News h₀ L h' ((D, listOf #[.str z tz] 0) :: news) → (∀ p ∈ news, p.1 < D) → Q (.ref D) { s with heap := h', toks := k }) :
    wpAny (model prog w) A (call (.builtin "str.split") [.str x t, .str y u]) Q E s :=
  KSpl.split1 hF hN hy (fun D l h' k e _ F' N' l1 => by
    rw [hsp] at e
    obtain ⟨tz, r, rfl, hr⟩ := KSpl.cons_of e
    have := KSpl.nil_of hr
    subst this
    exact h D tz h' k F' N' l1) (by rw [PySem.sizeLine_eq]; omega)
local macro_rules | `(tactic| walk_at "call builtin:str.split") => `(tactic| (goal_lacks GoM; refine stp ?_))
local macro_rules | `(tactic| walk_at "pyIter ref") => `(tactic| (goal_lacks GoM; refine stp ?_))
local macro_rules | `(tactic| walk_at "UnrEnd") => `(tactic| (goal_lacks GoM; refine stp ?_))

section
variable {w : World} {p : Program} {loose : List Str} {mean : ExcName → Option Value} {mg mb : Str → Option Value}
  {env : Env} {outer : List Env} {gd : Option (List Code)} {A₀ : Around} {base h₀ : Heap} {L : Addr} {m : Str → Option Value} {news : List (Addr × Obj)} {g : Obj → List (Addr × Obj)} {s : Shared} {Q E : Value → Shared → Prop}
  {D U : Nat} {r dr lt nd : Addr} {t1 t2 t3 tk ka : Tok} {q k : Int} {n : Nat} {l : List Tk}
theorem is_word_c {wd : Str} {kt : Tok} {b : Bool} (hD : D ≤ 960) (hU : U ≤ 4800) (B : Below A₀ base outer h₀) (F : Fr h₀ L s.heap m) (X : (kdef.heap_1 w.params).In h₀) (N : News h₀ L s.heap news) (hr : (r, instObj 371 dr) ∈ news) (hd : (dr, rdO w.params t1 t2 t3 lt q tk nd) ∈ news) 
  (T : Top p loose mean mg mb h₀) (hf : env.frame = some L) (hke : env.scope.kind = .function) (tb : TB w.params h₀ lt l) (h0 : 0 ≤ q) (h2 : q < 10000)
  (hsp : Txt.split wd (Str.ofString " ") = [wd]) (hz : wd.length ≤ 1000) (hb : isWord l (q + 0) wd = b)
  (ret : ∀ h' tk', Fr h₀ L h' m → News h₀ L h' news → Q (.bool b) { s with heap := h', toks := tk' }) :
  wpAny (model PG w) (ctx D U env outer gd) (call (.ref 261) [.ref r, .str wd kt]) Q E s := by
  refine ctx_mono hD hU ?_
  subst hb
  unfold isWord at ret
  cases hv : tokAt l (q + 0) with
  | none =>
    rw [hv] at ret
    have hk : isKind l (q + 0) "word" = false := by unfold isKind; rw [hv]
    refine wpAny_call ?_
    k_dflt k_enter
    (repeat' (first | (with_reducible refine unstp ?_; first | (k_dflt ((k_here; refine UnrEnd.intro (by k_asm) (by k_asm) _ (fun _ h => h) (fun p hp => Nat.ne_of_lt ((by assumption : ∀ p ∈ _, p.1 < _) p hp)) ⟨by k_mem, ?_⟩))) | (first | ((k_here; (with_reducible show wpAny _ _ (pyIter (Value.ref _)) (fun it s₂ => LoopAtV _ _ _ _ _ _ _ _ _ it s₂) _ _); (rename Fr _ _ _ _ => lF9z'); (rename News _ _ _ _ => lN9z'); (with_unfolding_all first | refine iter_listUnr (vs := [Value.str _ _]) (by rfl) lF9z' lN9z' (by k_mem) (by rfl) (by rfl) ?_ | refine iter_listUnr (vs := [Value.str _ _, Value.str _ _]) (by rfl) lF9z' lN9z' (by k_mem) (by rfl) (by rfl) ?_); clear lF9z' lN9z'; intro i9z' lI9z'; (have lJ9z' := allLt_of lI9z'); (try simp only [AllLt, and_true] at lJ9z'))) | k_dflt ((k_here; (with_reducible show wpAny _ _ (pyIter (Value.ref _)) (fun it s₂ => LoopAtV _ _ _ _ _ _ _ _ _ it s₂) _ _); (rename Fr _ _ _ _ => lF9z'); (rename News _ _ _ _ => lN9z'); (with_unfolding_all first | refine iter_listUnr (vs := [Value.str _ _]) (by rfl) lF9z' lN9z' (by k_mem) (by rfl) (by rfl) ?_ | refine iter_listUnr (vs := [Value.str _ _, Value.str _ _]) (by rfl) lF9z' lN9z' (by k_mem) (by rfl) (by rfl) ?_); clear lF9z' lN9z'; intro i9z' lI9z'; (have lJ9z' := allLt_of lI9z'); (try simp only [AllLt, and_true] at lJ9z')))) | ((k_here; (with_reducible show wpAny _ _ (call (Value.builtin "str.split") _) _ _ _); k_dflt (refine' split_one ?F ?N ?hy ?hsp ?hz ?_; (case F => k_asm); (case N => k_asm); (case hy => decide); (case hsp => assumption); (case hz => assumption); k_whole); intro D9z' tz9z' h9z' k9z' F9z' N9z' l19z; (try k_lt l19z))) | ((k_here; k_dflt (refine' is_kind_c ?hD ?hU ?B ?F ?X ?N ?hr ?hd ?T ?hf ?hke ?tb ?h0 ?h2 ?h1 ?h3 ?hb ?_; (case hD => exact Nat.le_of_ble_eq_true rfl); (case hU => exact Nat.le_of_ble_eq_true rfl); (case B => k_asm); (case F => k_asm); (case X => k_asm); (case N => k_asm); (case hr => k_mem); (case hd => k_mem); (case T => k_asm); (case hf => rfl); (case hke => rfl); (case tb => assumption); (case h0 => omega); (case h2 => omega); (case h1 => omega); (case h3 => omega); (case hb => first | assumption | exact rfl); k_whole); intro h9z' tk9z' F9z' N9z'; (try dsimp only [tkv]))) | ((k_here; k_dflt (refine' peek_c ?hD ?hU ?B ?F ?X ?N ?hr ?hd ?T ?hf ?hke ?tb ?h0 ?h2 ?h1 ?h3 ?ho ?_; (case hD => exact Nat.le_of_ble_eq_true rfl); (case hU => exact Nat.le_of_ble_eq_true rfl); (case B => k_asm); (case F => k_asm); (case X => k_asm); (case N => k_asm); (case hr => k_mem); (case hd => k_mem); (case T => k_asm); (case hf => rfl); (case hke => rfl); (case tb => assumption); (case h0 => omega); (case h2 => omega); (case h1 => omega); (case h3 => omega); (case ho => first | assumption | exact rfl); k_whole); intro h9z' tk9z' F9z' N9z'; (try dsimp only [tkv]))) | ((k_here; (with_reducible show wpAny _ _ (call (Value.builtin "len") [Value.ref _]) _ _ _); (with_unfolding_all refine' len_list ?k1 ?k2 ?_; (case k1 => is_list); (case k2 => first | (simp only [List.size_toArray, List.length_map]; omega) | decide); k_whole); (try simp only [List.size_toArray, List.length_map]))) | ((k_here; (with_reducible show wpAny _ _ (subscriptTail _ _ (Value.ref _) (Value.int _ _)) _ _ _); (with_unfolding_all refine' item_list (x := Value.ref _) ?k1 ?k2 ?k3 ?k4 ?_ ?k6 ?k7; (case k1 => is_list); (case k2 => omega); (case k3 => omega); (case k4 => (simp only [List.getElem?_toArray, List.getElem?_map, *]; rfl)); (case k6 => with_unfolding_all rfl); (case k7 => intro _; with_unfolding_all rfl); k_whole))) | (refine goM ?_; k_dflt walk1) | (k_dflt (dsimp only); refine stp ?_)) | (k_unfold; (first | with_reducible refine (?_ : wpAny _ _ _ _ _ _) | (try dsimp only))) | (k_end; wrow_close) | walk1 | (dsimp only; walk1) | (leave1; walk_say "STEP leave1"; try dsimp only) | fail "no step"))
    all_goals first | exact ret _ _ (by k_asm) (nb0 (by k_asm) (fun _ h => h)) | exact ret _ _ (by k_asm) (nb1 (by k_asm) (fun _ h => h)) | exact ret _ _ (by k_asm) (nb2 (by k_asm) (fun _ h => h)) | exact ret _ _ (by k_asm) (nb3 (by k_asm) (fun _ h => h))
  | some k' =>
    rw [hv] at ret
    dsimp only at ret
    have hm : k' ∈ l := List.mem_of_getElem? hv
    cases hkd : (k'.kind == Str.ofString "word") with
    | false =>
      rw [hkd] at ret
      have hk : isKind l (q + 0) "word" = false := by unfold isKind; rw [hv]; exact hkd
      refine wpAny_call ?_
      k_dflt k_enter
      (repeat' (first | (with_reducible refine unstp ?_; first | (k_dflt ((k_here; refine UnrEnd.intro (by k_asm) (by k_asm) _ (fun _ h => h) (fun p hp => Nat.ne_of_lt ((by assumption : ∀ p ∈ _, p.1 < _) p hp)) ⟨by k_mem, ?_⟩))) | (first | ((k_here; (with_reducible show wpAny _ _ (pyIter (Value.ref _)) (fun it s₂ => LoopAtV _ _ _ _ _ _ _ _ _ it s₂) _ _); (rename Fr _ _ _ _ => lF9z'); (rename News _ _ _ _ => lN9z'); (with_unfolding_all first | refine iter_listUnr (vs := [Value.str _ _]) (by rfl) lF9z' lN9z' (by k_mem) (by rfl) (by rfl) ?_ | refine iter_listUnr (vs := [Value.str _ _, Value.str _ _]) (by rfl) lF9z' lN9z' (by k_mem) (by rfl) (by rfl) ?_); clear lF9z' lN9z'; intro i9z' lI9z'; (have lJ9z' := allLt_of lI9z'); (try simp only [AllLt, and_true] at lJ9z'))) | k_dflt ((k_here; (with_reducible show wpAny _ _ (pyIter (Value.ref _)) (fun it s₂ => LoopAtV _ _ _ _ _ _ _ _ _ it s₂) _ _); (rename Fr _ _ _ _ => lF9z'); (rename News _ _ _ _ => lN9z'); (with_unfolding_all first | refine iter_listUnr (vs := [Value.str _ _]) (by rfl) lF9z' lN9z' (by k_mem) (by rfl) (by rfl) ?_ | refine iter_listUnr (vs := [Value.str _ _, Value.str _ _]) (by rfl) lF9z' lN9z' (by k_mem) (by rfl) (by rfl) ?_); clear lF9z' lN9z'; intro i9z' lI9z'; (have lJ9z' := allLt_of lI9z'); (try simp only [AllLt, and_true] at lJ9z')))) | ((k_here; (with_reducible show wpAny _ _ (call (Value.builtin "str.split") _) _ _ _); k_dflt (refine' split_one ?F ?N ?hy ?hsp ?hz ?_; (case F => k_asm); (case N => k_asm); (case hy => decide); (case hsp => assumption); (case hz => assumption); k_whole); intro D9z' tz9z' h9z' k9z' F9z' N9z' l19z; (try k_lt l19z))) | ((k_here; k_dflt (refine' is_kind_c ?hD ?hU ?B ?F ?X ?N ?hr ?hd ?T ?hf ?hke ?tb ?h0 ?h2 ?h1 ?h3 ?hb ?_; (case hD => exact Nat.le_of_ble_eq_true rfl); (case hU => exact Nat.le_of_ble_eq_true rfl); (case B => k_asm); (case F => k_asm); (case X => k_asm); (case N => k_asm); (case hr => k_mem); (case hd => k_mem); (case T => k_asm); (case hf => rfl); (case hke => rfl); (case tb => assumption); (case h0 => omega); (case h2 => omega); (case h1 => omega); (case h3 => omega); (case hb => first | assumption | exact rfl); k_whole); intro h9z' tk9z' F9z' N9z'; (try dsimp only [tkv]))) | ((k_here; k_dflt (refine' peek_c ?hD ?hU ?B ?F ?X ?N ?hr ?hd ?T ?hf ?hke ?tb ?h0 ?h2 ?h1 ?h3 ?ho ?_; (case hD => exact Nat.le_of_ble_eq_true rfl); (case hU => exact Nat.le_of_ble_eq_true rfl); (case B => k_asm); (case F => k_asm); (case X => k_asm); (case N => k_asm); (case hr => k_mem); (case hd => k_mem); (case T => k_asm); (case hf => rfl); (case hke => rfl); (case tb => assumption); (case h0 => omega); (case h2 => omega); (case h1 => omega); (case h3 => omega); (case ho => first | assumption | exact rfl); k_whole); intro h9z' tk9z' F9z' N9z'; (try dsimp only [tkv]))) | ((k_here; (with_reducible show wpAny _ _ (call (Value.builtin "len") [Value.ref _]) _ _ _); (with_unfolding_all refine' len_list ?k1 ?k2 ?_; (case k1 => is_list); (case k2 => first | (simp only [List.size_toArray, List.length_map]; omega) | decide); k_whole); (try simp only [List.size_toArray, List.length_map]))) | ((k_here; (with_reducible show wpAny _ _ (subscriptTail _ _ (Value.ref _) (Value.int _ _)) _ _ _); (with_unfolding_all refine' item_list (x := Value.ref _) ?k1 ?k2 ?k3 ?k4 ?_ ?k6 ?k7; (case k1 => is_list); (case k2 => omega); (case k3 => omega); (case k4 => (simp only [List.getElem?_toArray, List.getElem?_map, *]; rfl)); (case k6 => with_unfolding_all rfl); (case k7 => intro _; with_unfolding_all rfl); k_whole))) | (refine goM ?_; k_dflt walk1) | (k_dflt (dsimp only); refine stp ?_)) | (k_unfold; (first | with_reducible refine (?_ : wpAny _ _ _ _ _ _) | (try dsimp only))) | (k_end; wrow_close) | walk1 | (dsimp only; walk1) | (leave1; walk_say "STEP leave1"; try dsimp only) | fail "no step"))
      all_goals first | exact ret _ _ (by k_asm) (nb0 (by k_asm) (fun _ h => h)) | exact ret _ _ (by k_asm) (nb1 (by k_asm) (fun _ h => h)) | exact ret _ _ (by k_asm) (nb2 (by k_asm) (fun _ h => h)) | exact ret _ _ (by k_asm) (nb3 (by k_asm) (fun _ h => h))
    | true =>
      rw [hkd] at ret
      have hk : isKind l (q + 0) "word" = true := by unfold isKind; rw [hv]; exact hkd
      cases hx : (k'.x == wd) with
      | false =>
        rw [hx] at ret
        refine wpAny_call ?_
        k_dflt k_enter
        (repeat' (first | (with_reducible refine unstp ?_; first | (k_dflt ((k_here; refine UnrEnd.intro (by k_asm) (by k_asm) _ (fun _ h => h) (fun p hp => Nat.ne_of_lt ((by assumption : ∀ p ∈ _, p.1 < _) p hp)) ⟨by k_mem, ?_⟩))) | (first | ((k_here; (with_reducible show wpAny _ _ (pyIter (Value.ref _)) (fun it s₂ => LoopAtV _ _ _ _ _ _ _ _ _ it s₂) _ _); (rename Fr _ _ _ _ => lF9z'); (rename News _ _ _ _ => lN9z'); (with_unfolding_all first | refine iter_listUnr (vs := [Value.str _ _]) (by rfl) lF9z' lN9z' (by k_mem) (by rfl) (by rfl) ?_ | refine iter_listUnr (vs := [Value.str _ _, Value.str _ _]) (by rfl) lF9z' lN9z' (by k_mem) (by rfl) (by rfl) ?_); clear lF9z' lN9z'; intro i9z' lI9z'; (have lJ9z' := allLt_of lI9z'); (try simp only [AllLt, and_true] at lJ9z'))) | k_dflt ((k_here; (with_reducible show wpAny _ _ (pyIter (Value.ref _)) (fun it s₂ => LoopAtV _ _ _ _ _ _ _ _ _ it s₂) _ _); (rename Fr _ _ _ _ => lF9z'); (rename News _ _ _ _ => lN9z'); (with_unfolding_all first | refine iter_listUnr (vs := [Value.str _ _]) (by rfl) lF9z' lN9z' (by k_mem) (by rfl) (by rfl) ?_ | refine iter_listUnr (vs := [Value.str _ _, Value.str _ _]) (by rfl) lF9z' lN9z' (by k_mem) (by rfl) (by rfl) ?_); clear lF9z' lN9z'; intro i9z' lI9z'; (have lJ9z' := allLt_of lI9z'); (try simp only [AllLt, and_true] at lJ9z')))) | ((k_here; (with_reducible show wpAny _ _ (call (Value.builtin "str.split") _) _ _ _); k_dflt (refine' split_one ?F ?N ?hy ?hsp ?hz ?_; (case F => k_asm); (case N => k_asm); (case hy => decide); (case hsp => assumption); (case hz => assumption); k_whole); intro D9z' tz9z' h9z' k9z' F9z' N9z' l19z; (try k_lt l19z))) | ((k_here; k_dflt (refine' is_kind_c ?hD ?hU ?B ?F ?X ?N ?hr ?hd ?T ?hf ?hke ?tb ?h0 ?h2 ?h1 ?h3 ?hb ?_; (case hD => exact Nat.le_of_ble_eq_true rfl); (case hU => exact Nat.le_of_ble_eq_true rfl); (case B => k_asm); (case F => k_asm); (case X => k_asm); (case N => k_asm); (case hr => k_mem); (case hd => k_mem); (case T => k_asm); (case hf => rfl); (case hke => rfl); (case tb => assumption); (case h0 => omega); (case h2 => omega); (case h1 => omega); (case h3 => omega); (case hb => first | assumption | exact rfl); k_whole); intro h9z' tk9z' F9z' N9z'; (try dsimp only [tkv]))) | ((k_here; k_dflt (refine' peek_c ?hD ?hU ?B ?F ?X ?N ?hr ?hd ?T ?hf ?hke ?tb ?h0 ?h2 ?h1 ?h3 ?ho ?_; (case hD => exact Nat.le_of_ble_eq_true rfl); (case hU => exact Nat.le_of_ble_eq_true rfl); (case B => k_asm); (case F => k_asm); (case X => k_asm); (case N => k_asm); (case hr => k_mem); (case hd => k_mem); (case T => k_asm); (case hf => rfl); (case hke => rfl); (case tb => assumption); (case h0 => omega); (case h2 => omega); (case h1 => omega); (case h3 => omega); (case ho => first | assumption | exact rfl); k_whole); intro h9z' tk9z' F9z' N9z'; (try dsimp only [tkv]))) | ((k_here; (with_reducible show wpAny _ _ (call (Value.builtin "len") [Value.ref _]) _ _ _); (with_unfolding_all refine' len_list ?k1 ?k2 ?_; (case k1 => is_list); (case k2 => first | (simp only [List.size_toArray, List.length_map]; omega) | decide); k_whole); (try simp only [List.size_toArray, List.length_map]))) | ((k_here; (with_reducible show wpAny _ _ (subscriptTail _ _ (Value.ref _) (Value.int _ _)) _ _ _); (with_unfolding_all refine' item_list (x := Value.ref _) ?k1 ?k2 ?k3 ?k4 ?_ ?k6 ?k7; (case k1 => is_list); (case k2 => omega); (case k3 => omega); (case k4 => (simp only [List.getElem?_toArray, List.getElem?_map, *]; rfl)); (case k6 => with_unfolding_all rfl); (case k7 => intro _; with_unfolding_all rfl); k_whole))) | (refine goM ?_; k_dflt walk1) | (k_dflt (dsimp only); refine stp ?_)) | (k_unfold; (first | with_reducible refine (?_ : wpAny _ _ _ _ _ _) | (try dsimp only))) | (k_end; wrow_close) | walk1 | (dsimp only; walk1) | (leave1; walk_say "STEP leave1"; try dsimp only) | fail "no step"))
        all_goals first | exact ret _ _ (by k_asm) (nb0 (by k_asm) (fun _ h => h)) | exact ret _ _ (by k_asm) (nb1 (by k_asm) (fun _ h => h)) | exact ret _ _ (by k_asm) (nb2 (by k_asm) (fun _ h => h)) | exact ret _ _ (by k_asm) (nb3 (by k_asm) (fun _ h => h)) | (exfalso; simp_all [bne]; done)
      | true =>
        rw [hx] at ret
        refine wpAny_call ?_
        k_dflt k_enter
        (repeat' (first | (with_reducible refine unstp ?_; first | (k_dflt ((k_here; refine UnrEnd.intro (by k_asm) (by k_asm) _ (fun _ h => h) (fun p hp => Nat.ne_of_lt ((by assumption : ∀ p ∈ _, p.1 < _) p hp)) ⟨by k_mem, ?_⟩))) | (first | ((k_here; (with_reducible show wpAny _ _ (pyIter (Value.ref _)) (fun it s₂ => LoopAtV _ _ _ _ _ _ _ _ _ it s₂) _ _); (rename Fr _ _ _ _ => lF9z'); (rename News _ _ _ _ => lN9z'); (with_unfolding_all first | refine iter_listUnr (vs := [Value.str _ _]) (by rfl) lF9z' lN9z' (by k_mem) (by rfl) (by rfl) ?_ | refine iter_listUnr (vs := [Value.str _ _, Value.str _ _]) (by rfl) lF9z' lN9z' (by k_mem) (by rfl) (by rfl) ?_); clear lF9z' lN9z'; intro i9z' lI9z'; (have lJ9z' := allLt_of lI9z'); (try simp only [AllLt, and_true] at lJ9z'))) | k_dflt ((k_here; (with_reducible show wpAny _ _ (pyIter (Value.ref _)) (fun it s₂ => LoopAtV _ _ _ _ _ _ _ _ _ it s₂) _ _); (rename Fr _ _ _ _ => lF9z'); (rename News _ _ _ _ => lN9z'); (with_unfolding_all first | refine iter_listUnr (vs := [Value.str _ _]) (by rfl) lF9z' lN9z' (by k_mem) (by rfl) (by rfl) ?_ | refine iter_listUnr (vs := [Value.str _ _, Value.str _ _]) (by rfl) lF9z' lN9z' (by k_mem) (by rfl) (by rfl) ?_); clear lF9z' lN9z'; intro i9z' lI9z'; (have lJ9z' := allLt_of lI9z'); (try simp only [AllLt, and_true] at lJ9z')))) | ((k_here; (with_reducible show wpAny _ _ (call (Value.builtin "str.split") _) _ _ _); k_dflt (refine' split_one ?F ?N ?hy ?hsp ?hz ?_; (case F => k_asm); (case N => k_asm); (case hy => decide); (case hsp => assumption); (case hz => assumption); k_whole); intro D9z' tz9z' h9z' k9z' F9z' N9z' l19z; (try k_lt l19z))) | ((k_here; k_dflt (refine' is_kind_c ?hD ?hU ?B ?F ?X ?N ?hr ?hd ?T ?hf ?hke ?tb ?h0 ?h2 ?h1 ?h3 ?hb ?_; (case hD => exact Nat.le_of_ble_eq_true rfl); (case hU => exact Nat.le_of_ble_eq_true rfl); (case B => k_asm); (case F => k_asm); (case X => k_asm); (case N => k_asm); (case hr => k_mem); (case hd => k_mem); (case T => k_asm); (case hf => rfl); (case hke => rfl); (case tb => assumption); (case h0 => omega); (case h2 => omega); (case h1 => omega); (case h3 => omega); (case hb => first | assumption | exact rfl); k_whole); intro h9z' tk9z' F9z' N9z'; (try dsimp only [tkv]))) | ((k_here; k_dflt (refine' peek_c ?hD ?hU ?B ?F ?X ?N ?hr ?hd ?T ?hf ?hke ?tb ?h0 ?h2 ?h1 ?h3 ?ho ?_; (case hD => exact Nat.le_of_ble_eq_true rfl); (case hU => exact Nat.le_of_ble_eq_true rfl); (case B => k_asm); (case F => k_asm); (case X => k_asm); (case N => k_asm); (case hr => k_mem); (case hd => k_mem); (case T => k_asm); (case hf => rfl); (case hke => rfl); (case tb => assumption); (case h0 => omega); (case h2 => omega); (case h1 => omega); (case h3 => omega); (case ho => first | assumption | exact rfl); k_whole); intro h9z' tk9z' F9z' N9z'; (try dsimp only [tkv]))) | ((k_here; (with_reducible show wpAny _ _ (call (Value.builtin "len") [Value.ref _]) _ _ _); (with_unfolding_all refine' len_list ?k1 ?k2 ?_; (case k1 => is_list); (case k2 => first | (simp only [List.size_toArray, List.length_map]; omega) | decide); k_whole); (try simp only [List.size_toArray, List.length_map]))) | ((k_here; (with_reducible show wpAny _ _ (subscriptTail _ _ (Value.ref _) (Value.int _ _)) _ _ _); (with_unfolding_all refine' item_list (x := Value.ref _) ?k1 ?k2 ?k3 ?k4 ?_ ?k6 ?k7; (case k1 => is_list); (case k2 => omega); (case k3 => omega); (case k4 => (simp only [List.getElem?_toArray, List.getElem?_map, *]; rfl)); (case k6 => with_unfolding_all rfl); (case k7 => intro _; with_unfolding_all rfl); k_whole))) | (refine goM ?_; k_dflt walk1) | (k_dflt (dsimp only); refine stp ?_)) | (k_unfold; (first | with_reducible refine (?_ : wpAny _ _ _ _ _ _) | (try dsimp only))) | (k_end; wrow_close) | walk1 | (dsimp only; walk1) | (leave1; walk_say "STEP leave1"; try dsimp only) | fail "no step"))
        all_goals first | exact ret _ _ (by k_asm) (nb0 (by k_asm) (fun _ h => h)) | exact ret _ _ (by k_asm) (nb1 (by k_asm) (fun _ h => h)) | exact ret _ _ (by k_asm) (nb2 (by k_asm) (fun _ h => h)) | exact ret _ _ (by k_asm) (nb3 (by k_asm) (fun _ h => h)) | (exfalso; simp_all [bne]; done)
end

section
variable {w : World} {p : Program} {loose : List Str} {mean : ExcName → Option Value} {mg mb : Str → Option Value}
  {env : Env} {outer : List Env} {gd : Option (List Code)} {A₀ : Around} {base h₀ : Heap} {L : Addr} {m : Str → Option Value} {news : List (Addr × Obj)} {g : Obj → List (Addr × Obj)} {s : Shared} {Q E : Value → Shared → Prop}
  {D U : Nat} {r dr lt nd : Addr} {t1 t2 t3 tk ka : Tok} {q k : Int} {n : Nat} {l : List Tk}
theorem skip_f {wd : Str} {kt : Tok} (hD : D ≤ 950) (hU : U ≤ 4750) (B : Below A₀ base outer h₀) (F : Fr h₀ L s.heap m) (X : (kdef.heap_1 w.params).In h₀) (N : News h₀ L s.heap news) (hr : (r, instObj 371 dr) ∈ news) (hd : (dr, rdO w.params t1 t2 t3 lt q tk nd) ∈ news) 
  (T : Top p loose mean mg mb h₀) (hf : env.frame = some L) (hke : env.scope.kind = .function) (tb : TB w.params h₀ lt l) (h0 : 0 ≤ q) (h2 : q < 10000)
  (hsp : Txt.split wd (Str.ofString " ") = [wd]) (hz : wd.length ≤ 1000) (hb : isWord l (q + 0) wd = false)
  (ret : ∀ h' tk', Fr h₀ L h' m → News h₀ L h' news → Q (.bool false) { s with heap := h', toks := tk' }) :
  wpAny (model PG w) (ctx D U env outer gd) (call (.ref 268) [.ref r, .str wd kt]) Q E s := by
  refine ctx_mono hD hU ?_
  refine wpAny_call ?_
  k_dflt k_enter
  (repeat' (first | (with_reducible refine unstp ?_; first | ((k_here; k_dflt (refine' is_word_c ?hD ?hU ?B ?F ?X ?N ?hr ?hd ?T ?hf ?hke ?tb ?h0 ?h2 ?hsp ?hz ?hb ?_; (case hD => exact Nat.le_of_ble_eq_true rfl); (case hU => exact Nat.le_of_ble_eq_true rfl); (case B => k_asm); (case F => k_asm); (case X => k_asm); (case N => k_asm); (case hr => k_mem); (case hd => k_mem); (case T => k_asm); (case hf => rfl); (case hke => rfl); (case tb => assumption); (case h0 => omega); (case h2 => omega); (case hsp => first | assumption | decide +kernel); (case hz => first | assumption | decide +kernel); (case hb => first | assumption | exact rfl); k_whole); intro h9z' tk9z' F9z' N9z'; (try dsimp only [tkv]))) | (k_dflt ((k_here; refine UnrEnd.intro (by k_asm) (by k_asm) _ (fun _ h => h) (fun p hp => Nat.ne_of_lt ((by assumption : ∀ p ∈ _, p.1 < _) p hp)) ⟨by k_mem, ?_⟩))) | (first | ((k_here; (with_reducible show wpAny _ _ (pyIter (Value.ref _)) (fun it s₂ => LoopAtV _ _ _ _ _ _ _ _ _ it s₂) _ _); (rename Fr _ _ _ _ => lF9z'); (rename News _ _ _ _ => lN9z'); (with_unfolding_all first | refine iter_listUnr (vs := [Value.str _ _]) (by rfl) lF9z' lN9z' (by k_mem) (by rfl) (by rfl) ?_ | refine iter_listUnr (vs := [Value.str _ _, Value.str _ _]) (by rfl) lF9z' lN9z' (by k_mem) (by rfl) (by rfl) ?_); clear lF9z' lN9z'; intro i9z' lI9z'; (have lJ9z' := allLt_of lI9z'); (try simp only [AllLt, and_true] at lJ9z'))) | k_dflt ((k_here; (with_reducible show wpAny _ _ (pyIter (Value.ref _)) (fun it s₂ => LoopAtV _ _ _ _ _ _ _ _ _ it s₂) _ _); (rename Fr _ _ _ _ => lF9z'); (rename News _ _ _ _ => lN9z'); (with_unfolding_all first | refine iter_listUnr (vs := [Value.str _ _]) (by rfl) lF9z' lN9z' (by k_mem) (by rfl) (by rfl) ?_ | refine iter_listUnr (vs := [Value.str _ _, Value.str _ _]) (by rfl) lF9z' lN9z' (by k_mem) (by rfl) (by rfl) ?_); clear lF9z' lN9z'; intro i9z' lI9z'; (have lJ9z' := allLt_of lI9z'); (try simp only [AllLt, and_true] at lJ9z')))) | ((k_here; (with_reducible show wpAny _ _ (call (Value.builtin "str.split") _) _ _ _); k_dflt (refine' split_one ?F ?N ?hy ?hsp ?hz ?_; (case F => k_asm); (case N => k_asm); (case hy => decide); (case hsp => assumption); (case hz => assumption); k_whole); intro D9z' tz9z' h9z' k9z' F9z' N9z' l19z; (try k_lt l19z))) | ((k_here; k_dflt (refine' is_kind_c ?hD ?hU ?B ?F ?X ?N ?hr ?hd ?T ?hf ?hke ?tb ?h0 ?h2 ?h1 ?h3 ?hb ?_; (case hD => exact Nat.le_of_ble_eq_true rfl); (case hU => exact Nat.le_of_ble_eq_true rfl); (case B => k_asm); (case F => k_asm); (case X => k_asm); (case N => k_asm); (case hr => k_mem); (case hd => k_mem); (case T => k_asm); (case hf => rfl); (case hke => rfl); (case tb => assumption); (case h0 => omega); (case h2 => omega); (case h1 => omega); (case h3 => omega); (case hb => first | assumption | exact rfl); k_whole); intro h9z' tk9z' F9z' N9z'; (try dsimp only [tkv]))) | ((k_here; k_dflt (refine' peek_c ?hD ?hU ?B ?F ?X ?N ?hr ?hd ?T ?hf ?hke ?tb ?h0 ?h2 ?h1 ?h3 ?ho ?_; (case hD => exact Nat.le_of_ble_eq_true rfl); (case hU => exact Nat.le_of_ble_eq_true rfl); (case B => k_asm); (case F => k_asm); (case X => k_asm); (case N => k_asm); (case hr => k_mem); (case hd => k_mem); (case T => k_asm); (case hf => rfl); (case hke => rfl); (case tb => assumption); (case h0 => omega); (case h2 => omega); (case h1 => omega); (case h3 => omega); (case ho => first | assumption | exact rfl); k_whole); intro h9z' tk9z' F9z' N9z'; (try dsimp only [tkv]))) | ((k_here; (with_reducible show wpAny _ _ (call (Value.builtin "len") [Value.ref _]) _ _ _); (with_unfolding_all refine' len_list ?k1 ?k2 ?_; (case k1 => is_list); (case k2 => first | (simp only [List.size_toArray, List.length_map]; omega) | decide); k_whole); (try simp only [List.size_toArray, List.length_map]))) | ((k_here; (with_reducible show wpAny _ _ (subscriptTail _ _ (Value.ref _) (Value.int _ _)) _ _ _); (with_unfolding_all refine' item_list (x := Value.ref _) ?k1 ?k2 ?k3 ?k4 ?_ ?k6 ?k7; (case k1 => is_list); (case k2 => omega); (case k3 => omega); (case k4 => (simp only [List.getElem?_toArray, List.getElem?_map, *]; rfl)); (case k6 => with_unfolding_all rfl); (case k7 => intro _; with_unfolding_all rfl); k_whole))) | (refine goM ?_; k_dflt walk1) | (k_dflt (dsimp only); refine stp ?_)) | (k_unfold; (first | with_reducible refine (?_ : wpAny _ _ _ _ _ _) | (try dsimp only))) | (k_end; wrow_close) | walk1 | (dsimp only; walk1) | (leave1; walk_say "STEP leave1"; try dsimp only) | fail "no step"))
  all_goals first | exact ret _ _ (by k_asm) (nb0 (by k_asm) (fun _ h => h)) | exact ret _ _ (by k_asm) (nb1 (by k_asm) (fun _ h => h)) | exact ret _ _ (by k_asm) (nb2 (by k_asm) (fun _ h => h)) | exact ret _ _ (by k_asm) (nb3 (by k_asm) (fun _ h => h))
theorem skip_t {wd : Str} {kt : Tok} (hD : D ≤ 950) (hU : U ≤ 4750) (B : Below A₀ base outer h₀) (F : Fr h₀ L s.heap m) (X : (kdef.heap_1 w.params).In h₀) (N : News h₀ L s.heap news) (hr : (r, instObj 371 dr) ∈ news) (hu : UpdF dr (rdO w.params t1 t2 t3 lt q tk nd) news g) 
  (T : Top p loose mean mg mb h₀) (hf : env.frame = some L) (hke : env.scope.kind = .function) (tb : TB w.params h₀ lt l) (h0 : 0 ≤ q) (h2 : q < 10000)
  (hsp : Txt.split wd (Str.ofString " ") = [wd]) (hz : wd.length ≤ 1000) (hb : isWord l (q + 0) wd = true)
  (ret : ∀ h' tk' tk2, Fr h₀ L h' m → News h₀ L h' (g (rdO w.params t1 t2 t3 lt (q + 1) tk2 nd)) → Q (.bool true) { s with heap := h', toks := tk' }) :
  wpAny (model PG w) (ctx D U env outer gd) (call (.ref 268) [.ref r, .str wd kt]) Q E s := by
  refine ctx_mono hD hU ?_
  obtain ⟨rest, hrest, hd, hne, N1, hback⟩ := canon N hr hu
  clear N hr hu hd
  have hne1 := neN hne
  refine wpAny_call ?_
  k_dflt k_enter
  (repeat' (first | (with_reducible refine unstp ?_; first | ((k_here; k_dflt (refine' is_word_c ?hD ?hU ?B ?F ?X ?N ?hr ?hd ?T ?hf ?hke ?tb ?h0 ?h2 ?hsp ?hz ?hb ?_; (case hD => exact Nat.le_of_ble_eq_true rfl); (case hU => exact Nat.le_of_ble_eq_true rfl); (case B => k_asm); (case F => k_asm); (case X => k_asm); (case N => k_asm); (case hr => k_mem); (case hd => k_mem); (case T => k_asm); (case hf => rfl); (case hke => rfl); (case tb => assumption); (case h0 => omega); (case h2 => omega); (case hsp => first | assumption | decide +kernel); (case hz => first | assumption | decide +kernel); (case hb => first | assumption | exact rfl); k_whole); intro h9z' tk9z' F9z' N9z'; (try dsimp only [tkv]))) | (k_dflt ((k_here; refine UnrEnd.intro (by k_asm) (by k_asm) _ (fun _ h => h) (fun p hp => Nat.ne_of_lt ((by assumption : ∀ p ∈ _, p.1 < _) p hp)) ⟨by k_mem, ?_⟩))) | (first | ((k_here; (with_reducible show wpAny _ _ (pyIter (Value.ref _)) (fun it s₂ => LoopAtV _ _ _ _ _ _ _ _ _ it s₂) _ _); (rename Fr _ _ _ _ => lF9z'); (rename News _ _ _ _ => lN9z'); (with_unfolding_all first | refine iter_listUnr (vs := [Value.str _ _]) (by rfl) lF9z' lN9z' (by k_mem) (by rfl) (by rfl) ?_ | refine iter_listUnr (vs := [Value.str _ _, Value.str _ _]) (by rfl) lF9z' lN9z' (by k_mem) (by rfl) (by rfl) ?_); clear lF9z' lN9z'; intro i9z' lI9z'; (have lJ9z' := allLt_of lI9z'); (try simp only [AllLt, and_true] at lJ9z'))) | k_dflt ((k_here; (with_reducible show wpAny _ _ (pyIter (Value.ref _)) (fun it s₂ => LoopAtV _ _ _ _ _ _ _ _ _ it s₂) _ _); (rename Fr _ _ _ _ => lF9z'); (rename News _ _ _ _ => lN9z'); (with_unfolding_all first | refine iter_listUnr (vs := [Value.str _ _]) (by rfl) lF9z' lN9z' (by k_mem) (by rfl) (by rfl) ?_ | refine iter_listUnr (vs := [Value.str _ _, Value.str _ _]) (by rfl) lF9z' lN9z' (by k_mem) (by rfl) (by rfl) ?_); clear lF9z' lN9z'; intro i9z' lI9z'; (have lJ9z' := allLt_of lI9z'); (try simp only [AllLt, and_true] at lJ9z')))) | ((k_here; (with_reducible show wpAny _ _ (call (Value.builtin "str.split") _) _ _ _); k_dflt (refine' split_one ?F ?N ?hy ?hsp ?hz ?_; (case F => k_asm); (case N => k_asm); (case hy => decide); (case hsp => assumption); (case hz => assumption); k_whole); intro D9z' tz9z' h9z' k9z' F9z' N9z' l19z; (try k_lt l19z))) | ((k_here; k_dflt (refine' is_kind_c ?hD ?hU ?B ?F ?X ?N ?hr ?hd ?T ?hf ?hke ?tb ?h0 ?h2 ?h1 ?h3 ?hb ?_; (case hD => exact Nat.le_of_ble_eq_true rfl); (case hU => exact Nat.le_of_ble_eq_true rfl); (case B => k_asm); (case F => k_asm); (case X => k_asm); (case N => k_asm); (case hr => k_mem); (case hd => k_mem); (case T => k_asm); (case hf => rfl); (case hke => rfl); (case tb => assumption); (case h0 => omega); (case h2 => omega); (case h1 => omega); (case h3 => omega); (case hb => first | assumption | exact rfl); k_whole); intro h9z' tk9z' F9z' N9z'; (try dsimp only [tkv]))) | ((k_here; k_dflt (refine' peek_c ?hD ?hU ?B ?F ?X ?N ?hr ?hd ?T ?hf ?hke ?tb ?h0 ?h2 ?h1 ?h3 ?ho ?_; (case hD => exact Nat.le_of_ble_eq_true rfl); (case hU => exact Nat.le_of_ble_eq_true rfl); (case B => k_asm); (case F => k_asm); (case X => k_asm); (case N => k_asm); (case hr => k_mem); (case hd => k_mem); (case T => k_asm); (case hf => rfl); (case hke => rfl); (case tb => assumption); (case h0 => omega); (case h2 => omega); (case h1 => omega); (case h3 => omega); (case ho => first | assumption | exact rfl); k_whole); intro h9z' tk9z' F9z' N9z'; (try dsimp only [tkv]))) | ((k_here; (with_reducible show wpAny _ _ (call (Value.builtin "len") [Value.ref _]) _ _ _); (with_unfolding_all refine' len_list ?k1 ?k2 ?_; (case k1 => is_list); (case k2 => first | (simp only [List.size_toArray, List.length_map]; omega) | decide); k_whole); (try simp only [List.size_toArray, List.length_map]))) | ((k_here; (with_reducible show wpAny _ _ (subscriptTail _ _ (Value.ref _) (Value.int _ _)) _ _ _); (with_unfolding_all refine' item_list (x := Value.ref _) ?k1 ?k2 ?k3 ?k4 ?_ ?k6 ?k7; (case k1 => is_list); (case k2 => omega); (case k3 => omega); (case k4 => (simp only [List.getElem?_toArray, List.getElem?_map, *]; rfl)); (case k6 => with_unfolding_all rfl); (case k7 => intro _; with_unfolding_all rfl); k_whole))) | (refine goM ?_; k_dflt walk1) | (k_dflt (dsimp only); refine stp ?_)) | (k_unfold; (first | with_reducible refine (?_ : wpAny _ _ _ _ _ _) | (try dsimp only))) | (k_end; wrow_close) | walk1 | (dsimp only; walk1) | (leave1; walk_say "STEP leave1"; try dsimp only) | fail "no step"))
  all_goals first | exact ret _ _ _ (by k_asm) (nb0 (by k_asm) (hback _)) | exact ret _ _ _ (by k_asm) (nb1 (by k_asm) (hback _)) | exact ret _ _ _ (by k_asm) (nb2 (by k_asm) (hback _)) | exact ret _ _ _ (by k_asm) (nb3 (by k_asm) (hback _))
end

noncomputable def resv (x : Str) : Bool := !(Builtin.Str.occurrences resStr (Str.ofString " " ++ x ++ Str.ofString " ") 0 resStr.length 1).isEmpty
noncomputable def preL : List Nat → List Nat → Bool
  | [], _ => true
  | _ :: _, [] => false
  | a :: r, b :: t => Nat.beq a b && preL r t
noncomputable def findL (y : List Nat) : List Nat → Bool
  | [] => preL y []
  | b :: t => preL y (b :: t) || findL y t
theorem preL_iff : ∀ (y l : List Nat), preL y l = true ↔ l.take y.length = y
  | [], l => by simp [preL]
  | a :: r, [] => by simp [preL]
  | a :: r, b :: t => by
    simp only [preL, Bool.and_eq_true, Nat.beq_eq, preL_iff r t, List.length_cons, List.take_succ_cons, List.cons.injEq]
    constructor <;> (rintro ⟨rfl, h⟩; exact ⟨rfl, h⟩)
theorem findL_iff (y : List Nat) : ∀ l : List Nat, findL y l = true ↔ ∃ i, i ≤ l.length ∧ (l.drop i).take y.length = y
  | [] => by
    rw [findL, preL_iff]
    constructor
    · intro h; exact ⟨0, by simp, by simpa using h⟩
    · rintro ⟨i, hi, h⟩; simpa using h
  | b :: t => by
    rw [findL, Bool.or_eq_true, preL_iff, findL_iff y t]
    constructor
    · rintro (h | ⟨i, hi, h⟩)
      · exact ⟨0, by simp, by simpa using h⟩
      · exact ⟨i + 1, by simp; omega, by simpa using h⟩
    · rintro ⟨i, hi, h⟩
      cases i with
      | zero => left; simpa using h
      | succ i => right; exact ⟨i, by simp at hi; omega, by simpa using h⟩
theorem subAt_iff (x y : Str) (i : Nat) : Builtin.Str.subAt x y i = true ↔ (x.cps.toList.drop i).take y.cps.toList.length = y.cps.toList := by
  unfold Builtin.Str.subAt
  rw [beq_iff_eq, ← Array.toList_inj, Array.toList_extract]
  rw [List.extract_eq_take_drop]
  simp [Str.length]
theorem resv_eq (x : Str) : resv x = findL (Str.ofString " " ++ x ++ Str.ofString " ").cps.toList resStr.cps.toList := by
  rw [Bool.eq_iff_iff]
  unfold resv
  rw [StrLaws.found_iff, findL_iff]
  constructor
  · rintro ⟨i, hi, h⟩
    exact ⟨i, by simp [Str.length] at hi ⊢; omega, (subAt_iff _ _ _).mp h⟩
  · rintro ⟨i, hi, h⟩
    refine ⟨i, ?_, (subAt_iff _ _ _).mpr h⟩
    have := congrArg List.length h
    rw [List.length_take, List.length_drop] at this
    simp [Str.length] at this hi ⊢
    omega
theorem resv_f {x : Str} (h : (!findL (Str.ofString " " ++ x ++ Str.ofString " ").cps.toList resQ.cps.toList) = true) : resv x = false := by rw [resv_eq, resQ_eq]; simpa using h
theorem resv_t {x : Str} (h : findL (Str.ofString " " ++ x ++ Str.ofString " ").cps.toList resQ.cps.toList = true) : resv x = true := by rw [resv_eq, resQ_eq]; exact h
theorem res_D : resv (Str.ofString "D") = false := resv_f (by k_qdec)
theorem res_G : resv (Str.ofString "G") = false := resv_f (by k_qdec)
theorem res_H : resv (Str.ofString "H") = false := resv_f (by k_qdec)
theorem res_K : resv (Str.ofString "K") = false := resv_f (by k_qdec)
theorem res_L : resv (Str.ofString "L") = false := resv_f (by k_qdec)
theorem res_M_1 : resv (Str.ofString "M-1") = false := resv_f (by k_qdec)
theorem res_N : resv (Str.ofString "N") = false := resv_f (by k_qdec)
theorem res_I : resv (Str.ofString "I") = false := resv_f (by k_qdec)
theorem res_J_2 : resv (Str.ofString "J-2") = false := resv_f (by k_qdec)
theorem res_ASCENDING : resv (Str.ofString "ASCENDING") = true := resv_t (by k_qdec)
theorem res_DESCENDING : resv (Str.ofString "DESCENDING") = true := resv_t (by k_qdec)
theorem res_INDEXED : resv (Str.ofString "INDEXED") = true := resv_t (by k_qdec)
theorem res_VALUE : resv (Str.ofString "VALUE") = true := resv_t (by k_qdec)
theorem res_PIC : resv (Str.ofString "PIC") = true := resv_t (by k_qdec)
noncomputable def isName (l : List Tk) (i : Int) : Bool := match tokAt l i with | none => false | some t => t.kind == "word" && !resv t.x

section
variable {w : World} {p : Program} {loose : List Str} {mean : ExcName → Option Value} {mg mb : Str → Option Value}
  {env : Env} {outer : List Env} {gd : Option (List Code)} {A₀ : Around} {base h₀ : Heap} {L : Addr} {m : Str → Option Value} {news : List (Addr × Obj)} {g : Obj → List (Addr × Obj)} {s : Shared} {Q E : Value → Shared → Prop}
  {D U : Nat} {r dr lt nd : Addr} {t1 t2 t3 tk ka : Tok} {q k : Int} {n : Nat} {l : List Tk}
theorem is_reserved_c {x : Str} {xt : Tok} {b : Bool} (hD : D ≤ 980) (hU : U ≤ 4900) (B : Below A₀ base outer h₀) (F : Fr h₀ L s.heap m) (X : (kdef.heap_1 w.params).In h₀) (N : News h₀ L s.heap news)
  (T : Top p loose mean mg mb h₀) (hf : env.frame = some L) (hke : env.scope.kind = .function) (hz : x.length ≤ 1000) (hb : resv x = b)
  (ret : ∀ h' tk', Fr h₀ L h' m → News h₀ L h' news → Q (.bool b) { s with heap := h', toks := tk' }) :
  wpAny (model PG w) (ctx D U env outer gd) (call (.ref 202) [.str x xt]) Q E s := by
  refine ctx_mono hD hU ?_
  subst hb
  have hz2 : (Str.ofString " " ++ x).length ≤ sizeLine := by rw [Str.length_append, PySem.sizeLine_eq, show (Str.ofString " ").length = 1 from by decide]; omega
  have hz3 : (Str.ofString " " ++ x ++ Str.ofString " ").length ≤ sizeLine := by rw [Str.length_append, Str.length_append, PySem.sizeLine_eq, show (Str.ofString " ").length = 1 from by decide]; omega
  refine wpAny_call ?_
  k_dflt k_enter
  (repeat' (first | (with_reducible refine unstp ?_; first | (refine goM ?_; k_dflt walk1) | (k_dflt (dsimp only); refine stp ?_)) | (k_unfold; (first | with_reducible refine (?_ : wpAny _ _ _ _ _ _) | (try dsimp only))) | (k_end; wrow_close) | walk1 | (dsimp only; walk1) | (leave1; walk_say "STEP leave1"; try dsimp only) | fail "no step"))
  all_goals first | exact ret _ _ (by k_asm) (nb0 (by k_asm) (fun _ h => h)) | exact ret _ _ (by k_asm) (nb1 (by k_asm) (fun _ h => h)) | exact ret _ _ (by k_asm) (nb2 (by k_asm) (fun _ h => h)) | exact ret _ _ (by k_asm) (nb3 (by k_asm) (fun _ h => h))
end


section
variable {w : World} {p : Program} {loose : List Str} {mean : ExcName → Option Value} {mg mb : Str → Option Value}
  {env : Env} {outer : List Env} {gd : Option (List Code)} {A₀ : Around} {base h₀ : Heap} {L : Addr} {m : Str → Option Value} {news : List (Addr × Obj)} {g : Obj → List (Addr × Obj)} {s : Shared} {Q E : Value → Shared → Prop}
  {D U : Nat} {r dr lt nd : Addr} {t1 t2 t3 tk ka : Tok} {q k : Int} {n : Nat} {l : List Tk}
theorem peek0_c {o : Option Tk} (hD : D ≤ 980) (hU : U ≤ 4900) (B : Below A₀ base outer h₀) (F : Fr h₀ L s.heap m) (X : (kdef.heap_1 w.params).In h₀) (N : News h₀ L s.heap news) (hr : (r, instObj 371 dr) ∈ news) (hd : (dr, rdO w.params t1 t2 t3 lt q tk nd) ∈ news) 
  (T : Top p loose mean mg mb h₀) (hf : env.frame = some L) (hke : env.scope.kind = .function) (tb : TB w.params h₀ lt l) (h0 : 0 ≤ q) (h2 : q < 10000)
  (ho : tokAt l (q + 0) = o)
  (ret : ∀ h' tk', Fr h₀ L h' m → News h₀ L h' news → Q (tkv o) { s with heap := h', toks := tk' }) :
  wpAny (model PG w) (ctx D U env outer gd) (call (.ref 225) [.ref r]) Q E s := by
  refine ctx_mono hD hU ?_
  subst ho
  have hsh := tb.short
  unfold tokAt at ret
  cases hv : l[(q + 0).toNat]? with
  | none =>
    rw [hv] at ret
    have hge : (l.length : Int) ≤ q + 0 := by rw [List.getElem?_eq_none_iff] at hv; omega
    refine wpAny_call ?_
    k_dflt k_enter
    (repeat' (first | (with_reducible refine unstp ?_; first | ((k_here; k_dflt (refine' is_reserved_c ?hD ?hU ?B ?F ?X ?N ?T ?hf ?hke ?hz ?hb ?_; (case hD => exact Nat.le_of_ble_eq_true rfl); (case hU => exact Nat.le_of_ble_eq_true rfl); (case B => k_asm); (case F => k_asm); (case X => k_asm); (case N => k_asm); (case T => k_asm); (case hf => rfl); (case hke => rfl); (case hz => first | assumption | decide +kernel); (case hb => first | assumption | exact rfl); k_whole); intro h9z' tk9z' F9z' N9z')) | ((k_here; k_dflt (refine' is_kind_c ?hD ?hU ?B ?F ?X ?N ?hr ?hd ?T ?hf ?hke ?tb ?h0 ?h2 ?h1 ?h3 ?hb ?_; (case hD => exact Nat.le_of_ble_eq_true rfl); (case hU => exact Nat.le_of_ble_eq_true rfl); (case B => k_asm); (case F => k_asm); (case X => k_asm); (case N => k_asm); (case hr => k_mem); (case hd => k_mem); (case T => k_asm); (case hf => rfl); (case hke => rfl); (case tb => assumption); (case h0 => omega); (case h2 => omega); (case h1 => omega); (case h3 => omega); (case hb => first | assumption | exact rfl); k_whole); intro h9z' tk9z' F9z' N9z'; (try dsimp only [tkv]))) | ((k_here; k_dflt (refine' peek_c ?hD ?hU ?B ?F ?X ?N ?hr ?hd ?T ?hf ?hke ?tb ?h0 ?h2 ?h1 ?h3 ?ho ?_; (case hD => exact Nat.le_of_ble_eq_true rfl); (case hU => exact Nat.le_of_ble_eq_true rfl); (case B => k_asm); (case F => k_asm); (case X => k_asm); (case N => k_asm); (case hr => k_mem); (case hd => k_mem); (case T => k_asm); (case hf => rfl); (case hke => rfl); (case tb => assumption); (case h0 => omega); (case h2 => omega); (case h1 => omega); (case h3 => omega); (case ho => first | assumption | exact rfl); k_whole); intro h9z' tk9z' F9z' N9z'; (try dsimp only [tkv]))) | ((k_here; (with_reducible show wpAny _ _ (call (Value.builtin "len") [Value.ref _]) _ _ _); (with_unfolding_all refine' len_list ?k1 ?k2 ?_; (case k1 => is_list); (case k2 => first | (simp only [List.size_toArray, List.length_map]; omega) | decide); k_whole); (try simp only [List.size_toArray, List.length_map]))) | ((k_here; (with_reducible show wpAny _ _ (subscriptTail _ _ (Value.ref _) (Value.int _ _)) _ _ _); (with_unfolding_all refine' item_list (x := Value.ref _) ?k1 ?k2 ?k3 ?k4 ?_ ?k6 ?k7; (case k1 => is_list); (case k2 => omega); (case k3 => omega); (case k4 => (simp only [List.getElem?_toArray, List.getElem?_map, *]; rfl)); (case k6 => with_unfolding_all rfl); (case k7 => intro _; with_unfolding_all rfl); k_whole))) | (refine goM ?_; k_dflt walk1) | (k_dflt (dsimp only); refine stp ?_)) | (k_unfold; (first | with_reducible refine (?_ : wpAny _ _ _ _ _ _) | (try dsimp only))) | (k_end; wrow_close) | walk1 | (dsimp only; walk1) | (leave1; walk_say "STEP leave1"; try dsimp only) | fail "no step"))
    all_goals first | exact ret _ _ (by k_asm) (nb0 (by k_asm) (fun _ h => h)) | exact ret _ _ (by k_asm) (nb1 (by k_asm) (fun _ h => h)) | exact ret _ _ (by k_asm) (nb2 (by k_asm) (fun _ h => h)) | exact ret _ _ (by k_asm) (nb3 (by k_asm) (fun _ h => h))
  | some k' =>
    rw [hv] at ret
    have hlt : q + 0 < (l.length : Int) := by have := (List.getElem?_eq_some_iff.mp hv).1; omega
    refine wpAny_call ?_
    k_dflt k_enter
    (repeat' (first | (with_reducible refine unstp ?_; first | ((k_here; k_dflt (refine' is_reserved_c ?hD ?hU ?B ?F ?X ?N ?T ?hf ?hke ?hz ?hb ?_; (case hD => exact Nat.le_of_ble_eq_true rfl); (case hU => exact Nat.le_of_ble_eq_true rfl); (case B => k_asm); (case F => k_asm); (case X => k_asm); (case N => k_asm); (case T => k_asm); (case hf => rfl); (case hke => rfl); (case hz => first | assumption | decide +kernel); (case hb => first | assumption | exact rfl); k_whole); intro h9z' tk9z' F9z' N9z')) | ((k_here; k_dflt (refine' is_kind_c ?hD ?hU ?B ?F ?X ?N ?hr ?hd ?T ?hf ?hke ?tb ?h0 ?h2 ?h1 ?h3 ?hb ?_; (case hD => exact Nat.le_of_ble_eq_true rfl); (case hU => exact Nat.le_of_ble_eq_true rfl); (case B => k_asm); (case F => k_asm); (case X => k_asm); (case N => k_asm); (case hr => k_mem); (case hd => k_mem); (case T => k_asm); (case hf => rfl); (case hke => rfl); (case tb => assumption); (case h0 => omega); (case h2 => omega); (case h1 => omega); (case h3 => omega); (case hb => first | assumption | exact rfl); k_whole); intro h9z' tk9z' F9z' N9z'; (try dsimp only [tkv]))) | ((k_here; k_dflt (refine' peek_c ?hD ?hU ?B ?F ?X ?N ?hr ?hd ?T ?hf ?hke ?tb ?h0 ?h2 ?h1 ?h3 ?ho ?_; (case hD => exact Nat.le_of_ble_eq_true rfl); (case hU => exact Nat.le_of_ble_eq_true rfl); (case B => k_asm); (case F => k_asm); (case X => k_asm); (case N => k_asm); (case hr => k_mem); (case hd => k_mem); (case T => k_asm); (case hf => rfl); (case hke => rfl); (case tb => assumption); (case h0 => omega); (case h2 => omega); (case h1 => omega); (case h3 => omega); (case ho => first | assumption | exact rfl); k_whole); intro h9z' tk9z' F9z' N9z'; (try dsimp only [tkv]))) | ((k_here; (with_reducible show wpAny _ _ (call (Value.builtin "len") [Value.ref _]) _ _ _); (with_unfolding_all refine' len_list ?k1 ?k2 ?_; (case k1 => is_list); (case k2 => first | (simp only [List.size_toArray, List.length_map]; omega) | decide); k_whole); (try simp only [List.size_toArray, List.length_map]))) | ((k_here; (with_reducible show wpAny _ _ (subscriptTail _ _ (Value.ref _) (Value.int _ _)) _ _ _); (with_unfolding_all refine' item_list (x := Value.ref _) ?k1 ?k2 ?k3 ?k4 ?_ ?k6 ?k7; (case k1 => is_list); (case k2 => omega); (case k3 => omega); (case k4 => (simp only [List.getElem?_toArray, List.getElem?_map, *]; rfl)); (case k6 => with_unfolding_all rfl); (case k7 => intro _; with_unfolding_all rfl); k_whole))) | (refine goM ?_; k_dflt walk1) | (k_dflt (dsimp only); refine stp ?_)) | (k_unfold; (first | with_reducible refine (?_ : wpAny _ _ _ _ _ _) | (try dsimp only))) | (k_end; wrow_close) | walk1 | (dsimp only; walk1) | (leave1; walk_say "STEP leave1"; try dsimp only) | fail "no step"))
    all_goals first | exact ret _ _ (by k_asm) (nb0 (by k_asm) (fun _ h => h)) | exact ret _ _ (by k_asm) (nb1 (by k_asm) (fun _ h => h)) | exact ret _ _ (by k_asm) (nb2 (by k_asm) (fun _ h => h)) | exact ret _ _ (by k_asm) (nb3 (by k_asm) (fun _ h => h))
end

section
variable {w : World} {p : Program} {loose : List Str} {mean : ExcName → Option Value} {mg mb : Str → Option Value}
  {env : Env} {outer : List Env} {gd : Option (List Code)} {A₀ : Around} {base h₀ : Heap} {L : Addr} {m : Str → Option Value} {news : List (Addr × Obj)} {g : Obj → List (Addr × Obj)} {s : Shared} {Q E : Value → Shared → Prop}
  {D U : Nat} {r dr lt nd : Addr} {t1 t2 t3 tk ka : Tok} {q k : Int} {n : Nat} {l : List Tk}
theorem is_kind0_c {kd : Str} {kt : Tok} {b : Bool} (hD : D ≤ 970) (hU : U ≤ 4850) (B : Below A₀ base outer h₀) (F : Fr h₀ L s.heap m) (X : (kdef.heap_1 w.params).In h₀) (N : News h₀ L s.heap news) (hr : (r, instObj 371 dr) ∈ news) (hd : (dr, rdO w.params t1 t2 t3 lt q tk nd) ∈ news) 
  (T : Top p loose mean mg mb h₀) (hf : env.frame = some L) (hke : env.scope.kind = .function) (tb : TB w.params h₀ lt l) (h0 : 0 ≤ q) (h2 : q < 10000)
  (hb : isKind l (q + 0) kd = b)
  (ret : ∀ h' tk', Fr h₀ L h' m → News h₀ L h' news → Q (.bool b) { s with heap := h', toks := tk' }) :
  wpAny (model PG w) (ctx D U env outer gd) (call (.ref 254) [.ref r, .str kd kt]) Q E s := by
  refine ctx_mono hD hU ?_
  subst hb
  unfold isKind at ret
  cases hv : tokAt l (q + 0) with
  | none =>
    rw [hv] at ret
    refine wpAny_call ?_
    k_dflt k_enter
    (repeat' (first | (with_reducible refine unstp ?_; first | ((k_here; k_dflt (refine' peek0_c ?hD ?hU ?B ?F ?X ?N ?hr ?hd ?T ?hf ?hke ?tb ?h0 ?h2 ?ho ?_; (case hD => exact Nat.le_of_ble_eq_true rfl); (case hU => exact Nat.le_of_ble_eq_true rfl); (case B => k_asm); (case F => k_asm); (case X => k_asm); (case N => k_asm); (case hr => k_mem); (case hd => k_mem); (case T => k_asm); (case hf => rfl); (case hke => rfl); (case tb => assumption); (case h0 => omega); (case h2 => omega); (case ho => first | assumption | exact rfl); k_whole); intro h9z' tk9z' F9z' N9z'; (try dsimp only [tkv]))) | ((k_here; k_dflt (refine' is_reserved_c ?hD ?hU ?B ?F ?X ?N ?T ?hf ?hke ?hz ?hb ?_; (case hD => exact Nat.le_of_ble_eq_true rfl); (case hU => exact Nat.le_of_ble_eq_true rfl); (case B => k_asm); (case F => k_asm); (case X => k_asm); (case N => k_asm); (case T => k_asm); (case hf => rfl); (case hke => rfl); (case hz => first | assumption | decide +kernel); (case hb => first | assumption | exact rfl); k_whole); intro h9z' tk9z' F9z' N9z')) | ((k_here; k_dflt (refine' is_kind_c ?hD ?hU ?B ?F ?X ?N ?hr ?hd ?T ?hf ?hke ?tb ?h0 ?h2 ?h1 ?h3 ?hb ?_; (case hD => exact Nat.le_of_ble_eq_true rfl); (case hU => exact Nat.le_of_ble_eq_true rfl); (case B => k_asm); (case F => k_asm); (case X => k_asm); (case N => k_asm); (case hr => k_mem); (case hd => k_mem); (case T => k_asm); (case hf => rfl); (case hke => rfl); (case tb => assumption); (case h0 => omega); (case h2 => omega); (case h1 => omega); (case h3 => omega); (case hb => first | assumption | exact rfl); k_whole); intro h9z' tk9z' F9z' N9z'; (try dsimp only [tkv]))) | ((k_here; k_dflt (refine' peek_c ?hD ?hU ?B ?F ?X ?N ?hr ?hd ?T ?hf ?hke ?tb ?h0 ?h2 ?h1 ?h3 ?ho ?_; (case hD => exact Nat.le_of_ble_eq_true rfl); (case hU => exact Nat.le_of_ble_eq_true rfl); (case B => k_asm); (case F => k_asm); (case X => k_asm); (case N => k_asm); (case hr => k_mem); (case hd => k_mem); (case T => k_asm); (case hf => rfl); (case hke => rfl); (case tb => assumption); (case h0 => omega); (case h2 => omega); (case h1 => omega); (case h3 => omega); (case ho => first | assumption | exact rfl); k_whole); intro h9z' tk9z' F9z' N9z'; (try dsimp only [tkv]))) | ((k_here; (with_reducible show wpAny _ _ (call (Value.builtin "len") [Value.ref _]) _ _ _); (with_unfolding_all refine' len_list ?k1 ?k2 ?_; (case k1 => is_list); (case k2 => first | (simp only [List.size_toArray, List.length_map]; omega) | decide); k_whole); (try simp only [List.size_toArray, List.length_map]))) | ((k_here; (with_reducible show wpAny _ _ (subscriptTail _ _ (Value.ref _) (Value.int _ _)) _ _ _); (with_unfolding_all refine' item_list (x := Value.ref _) ?k1 ?k2 ?k3 ?k4 ?_ ?k6 ?k7; (case k1 => is_list); (case k2 => omega); (case k3 => omega); (case k4 => (simp only [List.getElem?_toArray, List.getElem?_map, *]; rfl)); (case k6 => with_unfolding_all rfl); (case k7 => intro _; with_unfolding_all rfl); k_whole))) | (refine goM ?_; k_dflt walk1) | (k_dflt (dsimp only); refine stp ?_)) | (k_unfold; (first | with_reducible refine (?_ : wpAny _ _ _ _ _ _) | (try dsimp only))) | (k_end; wrow_close) | walk1 | (dsimp only; walk1) | (leave1; walk_say "STEP leave1"; try dsimp only) | fail "no step"))
    all_goals first | exact ret _ _ (by k_asm) (nb0 (by k_asm) (fun _ h => h)) | exact ret _ _ (by k_asm) (nb1 (by k_asm) (fun _ h => h)) | exact ret _ _ (by k_asm) (nb2 (by k_asm) (fun _ h => h)) | exact ret _ _ (by k_asm) (nb3 (by k_asm) (fun _ h => h))
  | some k' =>
    rw [hv] at ret
    have hm : k' ∈ l := List.mem_of_getElem? hv
    refine wpAny_call ?_
    k_dflt k_enter
    (repeat' (first | (with_reducible refine unstp ?_; first | ((k_here; k_dflt (refine' peek0_c ?hD ?hU ?B ?F ?X ?N ?hr ?hd ?T ?hf ?hke ?tb ?h0 ?h2 ?ho ?_; (case hD => exact Nat.le_of_ble_eq_true rfl); (case hU => exact Nat.le_of_ble_eq_true rfl); (case B => k_asm); (case F => k_asm); (case X => k_asm); (case N => k_asm); (case hr => k_mem); (case hd => k_mem); (case T => k_asm); (case hf => rfl); (case hke => rfl); (case tb => assumption); (case h0 => omega); (case h2 => omega); (case ho => first | assumption | exact rfl); k_whole); intro h9z' tk9z' F9z' N9z'; (try dsimp only [tkv]))) | ((k_here; k_dflt (refine' is_reserved_c ?hD ?hU ?B ?F ?X ?N ?T ?hf ?hke ?hz ?hb ?_; (case hD => exact Nat.le_of_ble_eq_true rfl); (case hU => exact Nat.le_of_ble_eq_true rfl); (case B => k_asm); (case F => k_asm); (case X => k_asm); (case N => k_asm); (case T => k_asm); (case hf => rfl); (case hke => rfl); (case hz => first | assumption | decide +kernel); (case hb => first | assumption | exact rfl); k_whole); intro h9z' tk9z' F9z' N9z')) | ((k_here; k_dflt (refine' is_kind_c ?hD ?hU ?B ?F ?X ?N ?hr ?hd ?T ?hf ?hke ?tb ?h0 ?h2 ?h1 ?h3 ?hb ?_; (case hD => exact Nat.le_of_ble_eq_true rfl); (case hU => exact Nat.le_of_ble_eq_true rfl); (case B => k_asm); (case F => k_asm); (case X => k_asm); (case N => k_asm); (case hr => k_mem); (case hd => k_mem); (case T => k_asm); (case hf => rfl); (case hke => rfl); (case tb => assumption); (case h0 => omega); (case h2 => omega); (case h1 => omega); (case h3 => omega); (case hb => first | assumption | exact rfl); k_whole); intro h9z' tk9z' F9z' N9z'; (try dsimp only [tkv]))) | ((k_here; k_dflt (refine' peek_c ?hD ?hU ?B ?F ?X ?N ?hr ?hd ?T ?hf ?hke ?tb ?h0 ?h2 ?h1 ?h3 ?ho ?_; (case hD => exact Nat.le_of_ble_eq_true rfl); (case hU => exact Nat.le_of_ble_eq_true rfl); (case B => k_asm); (case F => k_asm); (case X => k_asm); (case N => k_asm); (case hr => k_mem); (case hd => k_mem); (case T => k_asm); (case hf => rfl); (case hke => rfl); (case tb => assumption); (case h0 => omega); (case h2 => omega); (case h1 => omega); (case h3 => omega); (case ho => first | assumption | exact rfl); k_whole); intro h9z' tk9z' F9z' N9z'; (try dsimp only [tkv]))) | ((k_here; (with_reducible show wpAny _ _ (call (Value.builtin "len") [Value.ref _]) _ _ _); (with_unfolding_all refine' len_list ?k1 ?k2 ?_; (case k1 => is_list); (case k2 => first | (simp only [List.size_toArray, List.length_map]; omega) | decide); k_whole); (try simp only [List.size_toArray, List.length_map]))) | ((k_here; (with_reducible show wpAny _ _ (subscriptTail _ _ (Value.ref _) (Value.int _ _)) _ _ _); (with_unfolding_all refine' item_list (x := Value.ref _) ?k1 ?k2 ?k3 ?k4 ?_ ?k6 ?k7; (case k1 => is_list); (case k2 => omega); (case k3 => omega); (case k4 => (simp only [List.getElem?_toArray, List.getElem?_map, *]; rfl)); (case k6 => with_unfolding_all rfl); (case k7 => intro _; with_unfolding_all rfl); k_whole))) | (refine goM ?_; k_dflt walk1) | (k_dflt (dsimp only); refine stp ?_)) | (k_unfold; (first | with_reducible refine (?_ : wpAny _ _ _ _ _ _) | (try dsimp only))) | (k_end; wrow_close) | walk1 | (dsimp only; walk1) | (leave1; walk_say "STEP leave1"; try dsimp only) | fail "no step"))
    all_goals first | exact ret _ _ (by k_asm) (nb0 (by k_asm) (fun _ h => h)) | exact ret _ _ (by k_asm) (nb1 (by k_asm) (fun _ h => h)) | exact ret _ _ (by k_asm) (nb2 (by k_asm) (fun _ h => h)) | exact ret _ _ (by k_asm) (nb3 (by k_asm) (fun _ h => h))
end

section
variable {w : World} {p : Program} {loose : List Str} {mean : ExcName → Option Value} {mg mb : Str → Option Value}
  {env : Env} {outer : List Env} {gd : Option (List Code)} {A₀ : Around} {base h₀ : Heap} {L : Addr} {m : Str → Option Value} {news : List (Addr × Obj)} {g : Obj → List (Addr × Obj)} {s : Shared} {Q E : Value → Shared → Prop}
  {D U : Nat} {r dr lt nd : Addr} {t1 t2 t3 tk ka : Tok} {q k : Int} {n : Nat} {l : List Tk}
theorem is_name_c {b : Bool} (hD : D ≤ 960) (hU : U ≤ 4800) (B : Below A₀ base outer h₀) (F : Fr h₀ L s.heap m) (X : (kdef.heap_1 w.params).In h₀) (N : News h₀ L s.heap news) (hr : (r, instObj 371 dr) ∈ news) (hd : (dr, rdO w.params t1 t2 t3 lt q tk nd) ∈ news) 
  (T : Top p loose mean mg mb h₀) (hf : env.frame = some L) (hke : env.scope.kind = .function) (tb : TB w.params h₀ lt l) (h0 : 0 ≤ q) (h2 : q < 10000)
  (hb : isName l (q + 0) = b)
  (ret : ∀ h' tk', Fr h₀ L h' m → News h₀ L h' news → Q (.bool b) { s with heap := h', toks := tk' }) :
  wpAny (model PG w) (ctx D U env outer gd) (call (.ref 297) [.ref r]) Q E s := by
  refine ctx_mono hD hU ?_
  subst hb
  unfold isName at ret
  cases hv : tokAt l (q + 0) with
  | none =>
    rw [hv] at ret
    have hk : isKind l (q + 0) "word" = false := by unfold isKind; rw [hv]
    refine wpAny_call ?_
    k_dflt k_enter
    (repeat' (first | (with_reducible refine unstp ?_; first | ((k_here; k_dflt (refine' peek0_c ?hD ?hU ?B ?F ?X ?N ?hr ?hd ?T ?hf ?hke ?tb ?h0 ?h2 ?ho ?_; (case hD => exact Nat.le_of_ble_eq_true rfl); (case hU => exact Nat.le_of_ble_eq_true rfl); (case B => k_asm); (case F => k_asm); (case X => k_asm); (case N => k_asm); (case hr => k_mem); (case hd => k_mem); (case T => k_asm); (case hf => rfl); (case hke => rfl); (case tb => assumption); (case h0 => omega); (case h2 => omega); (case ho => first | assumption | exact rfl); k_whole); intro h9z' tk9z' F9z' N9z'; (try dsimp only [tkv]))) | ((k_here; k_dflt (refine' is_reserved_c ?hD ?hU ?B ?F ?X ?N ?T ?hf ?hke ?hz ?hb ?_; (case hD => exact Nat.le_of_ble_eq_true rfl); (case hU => exact Nat.le_of_ble_eq_true rfl); (case B => k_asm); (case F => k_asm); (case X => k_asm); (case N => k_asm); (case T => k_asm); (case hf => rfl); (case hke => rfl); (case hz => first | assumption | decide +kernel); (case hb => first | assumption | exact rfl); k_whole); intro h9z' tk9z' F9z' N9z')) | ((k_here; k_dflt (refine' is_kind_c ?hD ?hU ?B ?F ?X ?N ?hr ?hd ?T ?hf ?hke ?tb ?h0 ?h2 ?h1 ?h3 ?hb ?_; (case hD => exact Nat.le_of_ble_eq_true rfl); (case hU => exact Nat.le_of_ble_eq_true rfl); (case B => k_asm); (case F => k_asm); (case X => k_asm); (case N => k_asm); (case hr => k_mem); (case hd => k_mem); (case T => k_asm); (case hf => rfl); (case hke => rfl); (case tb => assumption); (case h0 => omega); (case h2 => omega); (case h1 => omega); (case h3 => omega); (case hb => first | assumption | exact rfl); k_whole); intro h9z' tk9z' F9z' N9z'; (try dsimp only [tkv]))) | ((k_here; k_dflt (refine' peek_c ?hD ?hU ?B ?F ?X ?N ?hr ?hd ?T ?hf ?hke ?tb ?h0 ?h2 ?h1 ?h3 ?ho ?_; (case hD => exact Nat.le_of_ble_eq_true rfl); (case hU => exact Nat.le_of_ble_eq_true rfl); (case B => k_asm); (case F => k_asm); (case X => k_asm); (case N => k_asm); (case hr => k_mem); (case hd => k_mem); (case T => k_asm); (case hf => rfl); (case hke => rfl); (case tb => assumption); (case h0 => omega); (case h2 => omega); (case h1 => omega); (case h3 => omega); (case ho => first | assumption | exact rfl); k_whole); intro h9z' tk9z' F9z' N9z'; (try dsimp only [tkv]))) | ((k_here; (with_reducible show wpAny _ _ (call (Value.builtin "len") [Value.ref _]) _ _ _); (with_unfolding_all refine' len_list ?k1 ?k2 ?_; (case k1 => is_list); (case k2 => first | (simp only [List.size_toArray, List.length_map]; omega) | decide); k_whole); (try simp only [List.size_toArray, List.length_map]))) | ((k_here; (with_reducible show wpAny _ _ (subscriptTail _ _ (Value.ref _) (Value.int _ _)) _ _ _); (with_unfolding_all refine' item_list (x := Value.ref _) ?k1 ?k2 ?k3 ?k4 ?_ ?k6 ?k7; (case k1 => is_list); (case k2 => omega); (case k3 => omega); (case k4 => (simp only [List.getElem?_toArray, List.getElem?_map, *]; rfl)); (case k6 => with_unfolding_all rfl); (case k7 => intro _; with_unfolding_all rfl); k_whole))) | (refine goM ?_; k_dflt walk1) | (k_dflt (dsimp only); refine stp ?_)) | (k_unfold; (first | with_reducible refine (?_ : wpAny _ _ _ _ _ _) | (try dsimp only))) | (k_end; wrow_close) | walk1 | (dsimp only; walk1) | (leave1; walk_say "STEP leave1"; try dsimp only) | fail "no step"))
    all_goals first | exact ret _ _ (by k_asm) (nb0 (by k_asm) (fun _ h => h)) | exact ret _ _ (by k_asm) (nb1 (by k_asm) (fun _ h => h)) | exact ret _ _ (by k_asm) (nb2 (by k_asm) (fun _ h => h)) | exact ret _ _ (by k_asm) (nb3 (by k_asm) (fun _ h => h))
  | some k' =>
    rw [hv] at ret
    dsimp only at ret
    have hm : k' ∈ l := List.mem_of_getElem? hv
    have hz := tb.shortx k' hm
    cases hkd : (k'.kind == Str.ofString "word") with
    | false =>
      rw [hkd] at ret
      have hk : isKind l (q + 0) "word" = false := by unfold isKind; rw [hv]; exact hkd
      refine wpAny_call ?_
      k_dflt k_enter
      (repeat' (first | (with_reducible refine unstp ?_; first | ((k_here; k_dflt (refine' peek0_c ?hD ?hU ?B ?F ?X ?N ?hr ?hd ?T ?hf ?hke ?tb ?h0 ?h2 ?ho ?_; (case hD => exact Nat.le_of_ble_eq_true rfl); (case hU => exact Nat.le_of_ble_eq_true rfl); (case B => k_asm); (case F => k_asm); (case X => k_asm); (case N => k_asm); (case hr => k_mem); (case hd => k_mem); (case T => k_asm); (case hf => rfl); (case hke => rfl); (case tb => assumption); (case h0 => omega); (case h2 => omega); (case ho => first | assumption | exact rfl); k_whole); intro h9z' tk9z' F9z' N9z'; (try dsimp only [tkv]))) | ((k_here; k_dflt (refine' is_reserved_c ?hD ?hU ?B ?F ?X ?N ?T ?hf ?hke ?hz ?hb ?_; (case hD => exact Nat.le_of_ble_eq_true rfl); (case hU => exact Nat.le_of_ble_eq_true rfl); (case B => k_asm); (case F => k_asm); (case X => k_asm); (case N => k_asm); (case T => k_asm); (case hf => rfl); (case hke => rfl); (case hz => first | assumption | decide +kernel); (case hb => first | assumption | exact rfl); k_whole); intro h9z' tk9z' F9z' N9z')) | ((k_here; k_dflt (refine' is_kind_c ?hD ?hU ?B ?F ?X ?N ?hr ?hd ?T ?hf ?hke ?tb ?h0 ?h2 ?h1 ?h3 ?hb ?_; (case hD => exact Nat.le_of_ble_eq_true rfl); (case hU => exact Nat.le_of_ble_eq_true rfl); (case B => k_asm); (case F => k_asm); (case X => k_asm); (case N => k_asm); (case hr => k_mem); (case hd => k_mem); (case T => k_asm); (case hf => rfl); (case hke => rfl); (case tb => assumption); (case h0 => omega); (case h2 => omega); (case h1 => omega); (case h3 => omega); (case hb => first | assumption | exact rfl); k_whole); intro h9z' tk9z' F9z' N9z'; (try dsimp only [tkv]))) | ((k_here; k_dflt (refine' peek_c ?hD ?hU ?B ?F ?X ?N ?hr ?hd ?T ?hf ?hke ?tb ?h0 ?h2 ?h1 ?h3 ?ho ?_; (case hD => exact Nat.le_of_ble_eq_true rfl); (case hU => exact Nat.le_of_ble_eq_true rfl); (case B => k_asm); (case F => k_asm); (case X => k_asm); (case N => k_asm); (case hr => k_mem); (case hd => k_mem); (case T => k_asm); (case hf => rfl); (case hke => rfl); (case tb => assumption); (case h0 => omega); (case h2 => omega); (case h1 => omega); (case h3 => omega); (case ho => first | assumption | exact rfl); k_whole); intro h9z' tk9z' F9z' N9z'; (try dsimp only [tkv]))) | ((k_here; (with_reducible show wpAny _ _ (call (Value.builtin "len") [Value.ref _]) _ _ _); (with_unfolding_all refine' len_list ?k1 ?k2 ?_; (case k1 => is_list); (case k2 => first | (simp only [List.size_toArray, List.length_map]; omega) | decide); k_whole); (try simp only [List.size_toArray, List.length_map]))) | ((k_here; (with_reducible show wpAny _ _ (subscriptTail _ _ (Value.ref _) (Value.int _ _)) _ _ _); (with_unfolding_all refine' item_list (x := Value.ref _) ?k1 ?k2 ?k3 ?k4 ?_ ?k6 ?k7; (case k1 => is_list); (case k2 => omega); (case k3 => omega); (case k4 => (simp only [List.getElem?_toArray, List.getElem?_map, *]; rfl)); (case k6 => with_unfolding_all rfl); (case k7 => intro _; with_unfolding_all rfl); k_whole))) | (refine goM ?_; k_dflt walk1) | (k_dflt (dsimp only); refine stp ?_)) | (k_unfold; (first | with_reducible refine (?_ : wpAny _ _ _ _ _ _) | (try dsimp only))) | (k_end; wrow_close) | walk1 | (dsimp only; walk1) | (leave1; walk_say "STEP leave1"; try dsimp only) | fail "no step"))
      all_goals first | exact ret _ _ (by k_asm) (nb0 (by k_asm) (fun _ h => h)) | exact ret _ _ (by k_asm) (nb1 (by k_asm) (fun _ h => h)) | exact ret _ _ (by k_asm) (nb2 (by k_asm) (fun _ h => h)) | exact ret _ _ (by k_asm) (nb3 (by k_asm) (fun _ h => h))
    | true =>
      rw [hkd] at ret
      have hk : isKind l (q + 0) "word" = true := by unfold isKind; rw [hv]; exact hkd
      cases hx : resv k'.x with
      | false =>
        rw [hx] at ret
        refine wpAny_call ?_
        k_dflt k_enter
        (repeat' (first | (with_reducible refine unstp ?_; first | ((k_here; k_dflt (refine' peek0_c ?hD ?hU ?B ?F ?X ?N ?hr ?hd ?T ?hf ?hke ?tb ?h0 ?h2 ?ho ?_; (case hD => exact Nat.le_of_ble_eq_true rfl); (case hU => exact Nat.le_of_ble_eq_true rfl); (case B => k_asm); (case F => k_asm); (case X => k_asm); (case N => k_asm); (case hr => k_mem); (case hd => k_mem); (case T => k_asm); (case hf => rfl); (case hke => rfl); (case tb => assumption); (case h0 => omega); (case h2 => omega); (case ho => first | assumption | exact rfl); k_whole); intro h9z' tk9z' F9z' N9z'; (try dsimp only [tkv]))) | ((k_here; k_dflt (refine' is_reserved_c ?hD ?hU ?B ?F ?X ?N ?T ?hf ?hke ?hz ?hb ?_; (case hD => exact Nat.le_of_ble_eq_true rfl); (case hU => exact Nat.le_of_ble_eq_true rfl); (case B => k_asm); (case F => k_asm); (case X => k_asm); (case N => k_asm); (case T => k_asm); (case hf => rfl); (case hke => rfl); (case hz => first | assumption | decide +kernel); (case hb => first | assumption | exact rfl); k_whole); intro h9z' tk9z' F9z' N9z')) | ((k_here; k_dflt (refine' is_kind_c ?hD ?hU ?B ?F ?X ?N ?hr ?hd ?T ?hf ?hke ?tb ?h0 ?h2 ?h1 ?h3 ?hb ?_; (case hD => exact Nat.le_of_ble_eq_true rfl); (case hU => exact Nat.le_of_ble_eq_true rfl); (case B => k_asm); (case F => k_asm); (case X => k_asm); (case N => k_asm); (case hr => k_mem); (case hd => k_mem); (case T => k_asm); (case hf => rfl); (case hke => rfl); (case tb => assumption); (case h0 => omega); (case h2 => omega); (case h1 => omega); (case h3 => omega); (case hb => first | assumption | exact rfl); k_whole); intro h9z' tk9z' F9z' N9z'; (try dsimp only [tkv]))) | ((k_here; k_dflt (refine' peek_c ?hD ?hU ?B ?F ?X ?N ?hr ?hd ?T ?hf ?hke ?tb ?h0 ?h2 ?h1 ?h3 ?ho ?_; (case hD => exact Nat.le_of_ble_eq_true rfl); (case hU => exact Nat.le_of_ble_eq_true rfl); (case B => k_asm); (case F => k_asm); (case X => k_asm); (case N => k_asm); (case hr => k_mem); (case hd => k_mem); (case T => k_asm); (case hf => rfl); (case hke => rfl); (case tb => assumption); (case h0 => omega); (case h2 => omega); (case h1 => omega); (case h3 => omega); (case ho => first | assumption | exact rfl); k_whole); intro h9z' tk9z' F9z' N9z'; (try dsimp only [tkv]))) | ((k_here; (with_reducible show wpAny _ _ (call (Value.builtin "len") [Value.ref _]) _ _ _); (with_unfolding_all refine' len_list ?k1 ?k2 ?_; (case k1 => is_list); (case k2 => first | (simp only [List.size_toArray, List.length_map]; omega) | decide); k_whole); (try simp only [List.size_toArray, List.length_map]))) | ((k_here; (with_reducible show wpAny _ _ (subscriptTail _ _ (Value.ref _) (Value.int _ _)) _ _ _); (with_unfolding_all refine' item_list (x := Value.ref _) ?k1 ?k2 ?k3 ?k4 ?_ ?k6 ?k7; (case k1 => is_list); (case k2 => omega); (case k3 => omega); (case k4 => (simp only [List.getElem?_toArray, List.getElem?_map, *]; rfl)); (case k6 => with_unfolding_all rfl); (case k7 => intro _; with_unfolding_all rfl); k_whole))) | (refine goM ?_; k_dflt walk1) | (k_dflt (dsimp only); refine stp ?_)) | (k_unfold; (first | with_reducible refine (?_ : wpAny _ _ _ _ _ _) | (try dsimp only))) | (k_end; wrow_close) | walk1 | (dsimp only; walk1) | (leave1; walk_say "STEP leave1"; try dsimp only) | fail "no step"))
        all_goals first | exact ret _ _ (by k_asm) (nb0 (by k_asm) (fun _ h => h)) | exact ret _ _ (by k_asm) (nb1 (by k_asm) (fun _ h => h)) | exact ret _ _ (by k_asm) (nb2 (by k_asm) (fun _ h => h)) | exact ret _ _ (by k_asm) (nb3 (by k_asm) (fun _ h => h))
      | true =>
        rw [hx] at ret
        refine wpAny_call ?_
        k_dflt k_enter
        (repeat' (first | (with_reducible refine unstp ?_; first | ((k_here; k_dflt (refine' peek0_c ?hD ?hU ?B ?F ?X ?N ?hr ?hd ?T ?hf ?hke ?tb ?h0 ?h2 ?ho ?_; (case hD => exact Nat.le_of_ble_eq_true rfl); (case hU => exact Nat.le_of_ble_eq_true rfl); (case B => k_asm); (case F => k_asm); (case X => k_asm); (case N => k_asm); (case hr => k_mem); (case hd => k_mem); (case T => k_asm); (case hf => rfl); (case hke => rfl); (case tb => assumption); (case h0 => omega); (case h2 => omega); (case ho => first | assumption | exact rfl); k_whole); intro h9z' tk9z' F9z' N9z'; (try dsimp only [tkv]))) | ((k_here; k_dflt (refine' is_reserved_c ?hD ?hU ?B ?F ?X ?N ?T ?hf ?hke ?hz ?hb ?_; (case hD => exact Nat.le_of_ble_eq_true rfl); (case hU => exact Nat.le_of_ble_eq_true rfl); (case B => k_asm); (case F => k_asm); (case X => k_asm); (case N => k_asm); (case T => k_asm); (case hf => rfl); (case hke => rfl); (case hz => first | assumption | decide +kernel); (case hb => first | assumption | exact rfl); k_whole); intro h9z' tk9z' F9z' N9z')) | ((k_here; k_dflt (refine' is_kind_c ?hD ?hU ?B ?F ?X ?N ?hr ?hd ?T ?hf ?hke ?tb ?h0 ?h2 ?h1 ?h3 ?hb ?_; (case hD => exact Nat.le_of_ble_eq_true rfl); (case hU => exact Nat.le_of_ble_eq_true rfl); (case B => k_asm); (case F => k_asm); (case X => k_asm); (case N => k_asm); (case hr => k_mem); (case hd => k_mem); (case T => k_asm); (case hf => rfl); (case hke => rfl); (case tb => assumption); (case h0 => omega); (case h2 => omega); (case h1 => omega); (case h3 => omega); (case hb => first | assumption | exact rfl); k_whole); intro h9z' tk9z' F9z' N9z'; (try dsimp only [tkv]))) | ((k_here; k_dflt (refine' peek_c ?hD ?hU ?B ?F ?X ?N ?hr ?hd ?T ?hf ?hke ?tb ?h0 ?h2 ?h1 ?h3 ?ho ?_; (case hD => exact Nat.le_of_ble_eq_true rfl); (case hU => exact Nat.le_of_ble_eq_true rfl); (case B => k_asm); (case F => k_asm); (case X => k_asm); (case N => k_asm); (case hr => k_mem); (case hd => k_mem); (case T => k_asm); (case hf => rfl); (case hke => rfl); (case tb => assumption); (case h0 => omega); (case h2 => omega); (case h1 => omega); (case h3 => omega); (case ho => first | assumption | exact rfl); k_whole); intro h9z' tk9z' F9z' N9z'; (try dsimp only [tkv]))) | ((k_here; (with_reducible show wpAny _ _ (call (Value.builtin "len") [Value.ref _]) _ _ _); (with_unfolding_all refine' len_list ?k1 ?k2 ?_; (case k1 => is_list); (case k2 => first | (simp only [List.size_toArray, List.length_map]; omega) | decide); k_whole); (try simp only [List.size_toArray, List.length_map]))) | ((k_here; (with_reducible show wpAny _ _ (subscriptTail _ _ (Value.ref _) (Value.int _ _)) _ _ _); (with_unfolding_all refine' item_list (x := Value.ref _) ?k1 ?k2 ?k3 ?k4 ?_ ?k6 ?k7; (case k1 => is_list); (case k2 => omega); (case k3 => omega); (case k4 => (simp only [List.getElem?_toArray, List.getElem?_map, *]; rfl)); (case k6 => with_unfolding_all rfl); (case k7 => intro _; with_unfolding_all rfl); k_whole))) | (refine goM ?_; k_dflt walk1) | (k_dflt (dsimp only); refine stp ?_)) | (k_unfold; (first | with_reducible refine (?_ : wpAny _ _ _ _ _ _) | (try dsimp only))) | (k_end; wrow_close) | walk1 | (dsimp only; walk1) | (leave1; walk_say "STEP leave1"; try dsimp only) | fail "no step"))
        all_goals first | exact ret _ _ (by k_asm) (nb0 (by k_asm) (fun _ h => h)) | exact ret _ _ (by k_asm) (nb1 (by k_asm) (fun _ h => h)) | exact ret _ _ (by k_asm) (nb2 (by k_asm) (fun _ h => h)) | exact ret _ _ (by k_asm) (nb3 (by k_asm) (fun _ h => h))
end

section
variable {w : World} {p : Program} {loose : List Str} {mean : ExcName → Option Value} {mg mb : Str → Option Value}
  {env : Env} {outer : List Env} {gd : Option (List Code)} {A₀ : Around} {base h₀ : Heap} {L : Addr} {m : Str → Option Value} {news : List (Addr × Obj)} {g : Obj → List (Addr × Obj)} {s : Shared} {Q E : Value → Shared → Prop}
  {D U : Nat} {r dr lt nd : Addr} {t1 t2 t3 tk ka : Tok} {q k : Int} {n : Nat} {l : List Tk}
theorem take_c {k' : Tk} (hD : D ≤ 950) (hU : U ≤ 4750) (B : Below A₀ base outer h₀) (F : Fr h₀ L s.heap m) (X : (kdef.heap_1 w.params).In h₀) (N : News h₀ L s.heap news) (hr : (r, instObj 371 dr) ∈ news) (hu : UpdF dr (rdO w.params t1 t2 t3 lt q tk nd) news g) 
  (T : Top p loose mean mg mb h₀) (hf : env.frame = some L) (hke : env.scope.kind = .function) (tb : TB w.params h₀ lt l) (h0 : 0 ≤ q) (h2 : q < 10000)
  (ho : tokAt l (q + 0) = some k')
  (ret : ∀ h' tk' tk2, Fr h₀ L h' m → News h₀ L h' (g (rdO w.params t1 t2 t3 lt (q + 1) tk2 nd)) → Q (.ref k'.t) { s with heap := h', toks := tk' }) :
  wpAny (model PG w) (ctx D U env outer gd) (call (.ref 246) [.ref r]) Q E s := by
  refine ctx_mono hD hU ?_
  obtain ⟨rest, hrest, hd, hne, N1, hback⟩ := canon N hr hu
  clear N hr hu hd
  have hne1 := neN hne
  refine wpAny_call ?_
  k_dflt k_enter
  (repeat' (first | (with_reducible refine unstp ?_; first | ((k_here; k_dflt (refine' is_name_c ?hD ?hU ?B ?F ?X ?N ?hr ?hd ?T ?hf ?hke ?tb ?h0 ?h2 ?hb ?_; (case hD => exact Nat.le_of_ble_eq_true rfl); (case hU => exact Nat.le_of_ble_eq_true rfl); (case B => k_asm); (case F => k_asm); (case X => k_asm); (case N => k_asm); (case hr => k_mem); (case hd => k_mem); (case T => k_asm); (case hf => rfl); (case hke => rfl); (case tb => assumption); (case h0 => omega); (case h2 => omega); (case hb => first | assumption | exact rfl); k_whole); intro h9z' tk9z' F9z' N9z'; (try dsimp only [tkv]))) | ((k_here; k_dflt (refine' peek0_c ?hD ?hU ?B ?F ?X ?N ?hr ?hd ?T ?hf ?hke ?tb ?h0 ?h2 ?ho ?_; (case hD => exact Nat.le_of_ble_eq_true rfl); (case hU => exact Nat.le_of_ble_eq_true rfl); (case B => k_asm); (case F => k_asm); (case X => k_asm); (case N => k_asm); (case hr => k_mem); (case hd => k_mem); (case T => k_asm); (case hf => rfl); (case hke => rfl); (case tb => assumption); (case h0 => omega); (case h2 => omega); (case ho => first | assumption | exact rfl); k_whole); intro h9z' tk9z' F9z' N9z'; (try dsimp only [tkv]))) | ((k_here; k_dflt (refine' is_reserved_c ?hD ?hU ?B ?F ?X ?N ?T ?hf ?hke ?hz ?hb ?_; (case hD => exact Nat.le_of_ble_eq_true rfl); (case hU => exact Nat.le_of_ble_eq_true rfl); (case B => k_asm); (case F => k_asm); (case X => k_asm); (case N => k_asm); (case T => k_asm); (case hf => rfl); (case hke => rfl); (case hz => first | assumption | decide +kernel); (case hb => first | assumption | exact rfl); k_whole); intro h9z' tk9z' F9z' N9z')) | ((k_here; k_dflt (refine' is_kind_c ?hD ?hU ?B ?F ?X ?N ?hr ?hd ?T ?hf ?hke ?tb ?h0 ?h2 ?h1 ?h3 ?hb ?_; (case hD => exact Nat.le_of_ble_eq_true rfl); (case hU => exact Nat.le_of_ble_eq_true rfl); (case B => k_asm); (case F => k_asm); (case X => k_asm); (case N => k_asm); (case hr => k_mem); (case hd => k_mem); (case T => k_asm); (case hf => rfl); (case hke => rfl); (case tb => assumption); (case h0 => omega); (case h2 => omega); (case h1 => omega); (case h3 => omega); (case hb => first | assumption | exact rfl); k_whole); intro h9z' tk9z' F9z' N9z'; (try dsimp only [tkv]))) | ((k_here; k_dflt (refine' peek_c ?hD ?hU ?B ?F ?X ?N ?hr ?hd ?T ?hf ?hke ?tb ?h0 ?h2 ?h1 ?h3 ?ho ?_; (case hD => exact Nat.le_of_ble_eq_true rfl); (case hU => exact Nat.le_of_ble_eq_true rfl); (case B => k_asm); (case F => k_asm); (case X => k_asm); (case N => k_asm); (case hr => k_mem); (case hd => k_mem); (case T => k_asm); (case hf => rfl); (case hke => rfl); (case tb => assumption); (case h0 => omega); (case h2 => omega); (case h1 => omega); (case h3 => omega); (case ho => first | assumption | exact rfl); k_whole); intro h9z' tk9z' F9z' N9z'; (try dsimp only [tkv]))) | ((k_here; (with_reducible show wpAny _ _ (call (Value.builtin "len") [Value.ref _]) _ _ _); (with_unfolding_all refine' len_list ?k1 ?k2 ?_; (case k1 => is_list); (case k2 => first | (simp only [List.size_toArray, List.length_map]; omega) | decide); k_whole); (try simp only [List.size_toArray, List.length_map]))) | ((k_here; (with_reducible show wpAny _ _ (subscriptTail _ _ (Value.ref _) (Value.int _ _)) _ _ _); (with_unfolding_all refine' item_list (x := Value.ref _) ?k1 ?k2 ?k3 ?k4 ?_ ?k6 ?k7; (case k1 => is_list); (case k2 => omega); (case k3 => omega); (case k4 => (simp only [List.getElem?_toArray, List.getElem?_map, *]; rfl)); (case k6 => with_unfolding_all rfl); (case k7 => intro _; with_unfolding_all rfl); k_whole))) | (refine goM ?_; k_dflt walk1) | (k_dflt (dsimp only); refine stp ?_)) | (k_unfold; (first | with_reducible refine (?_ : wpAny _ _ _ _ _ _) | (try dsimp only))) | (k_end; wrow_close) | walk1 | (dsimp only; walk1) | (leave1; walk_say "STEP leave1"; try dsimp only) | fail "no step"))
  all_goals first | exact ret _ _ _ (by k_asm) (nb0 (by k_asm) (hback _)) | exact ret _ _ _ (by k_asm) (nb1 (by k_asm) (hback _)) | exact ret _ _ _ (by k_asm) (nb2 (by k_asm) (hback _)) | exact ret _ _ _ (by k_asm) (nb3 (by k_asm) (hback _))
end

section
variable {w : World} {p : Program} {loose : List Str} {mean : ExcName → Option Value} {mg mb : Str → Option Value}
  {env : Env} {outer : List Env} {gd : Option (List Code)} {A₀ : Around} {base h₀ : Heap} {L : Addr} {m : Str → Option Value} {news : List (Addr × Obj)} {g : Obj → List (Addr × Obj)} {s : Shared} {Q E : Value → Shared → Prop}
  {D U : Nat} {r dr lt nd : Addr} {t1 t2 t3 tk ka : Tok} {q k : Int} {n : Nat} {l : List Tk}
theorem name_c {k' : Tk} (hD : D ≤ 940) (hU : U ≤ 4700) (B : Below A₀ base outer h₀) (F : Fr h₀ L s.heap m) (X : (kdef.heap_1 w.params).In h₀) (N : News h₀ L s.heap news) (hr : (r, instObj 371 dr) ∈ news) (hu : UpdF dr (rdO w.params t1 t2 t3 lt q tk nd) news g) 
  (T : Top p loose mean mg mb h₀) (hf : env.frame = some L) (hke : env.scope.kind = .function) (tb : TB w.params h₀ lt l) (h0 : 0 ≤ q) (h2 : q < 10000)
  (hb : isName l (q + 0) = true) (ho : tokAt l (q + 0) = some k')
  (ret : ∀ h' tk' tk2, Fr h₀ L h' m → News h₀ L h' (g (rdO w.params t1 t2 t3 lt (q + 1) tk2 nd)) → Q (.str k'.x k'.k2) { s with heap := h', toks := tk' }) :
  wpAny (model PG w) (ctx D U env outer gd) (call (.ref 304) [.ref r]) Q E s := by
  refine ctx_mono hD hU ?_
  have hm : k' ∈ l := List.mem_of_getElem? ho
  obtain ⟨rest, hrest, hd, hne, N1, hback⟩ := canon N hr hu
  clear N hr hu hd
  have hne1 := neN hne
  refine wpAny_call ?_
  k_dflt k_enter
  (repeat' (first | (with_reducible refine unstp ?_; first | ((k_here; k_dflt (refine' take_c ?hD ?hU ?B ?F ?X ?N ?hr ?hu ?T ?hf ?hke ?tb ?h0 ?h2 ?ho ?_; (case hD => exact Nat.le_of_ble_eq_true rfl); (case hU => exact Nat.le_of_ble_eq_true rfl); (case B => k_asm); (case F => k_asm); (case X => k_asm); (case N => k_asm); (case hr => k_mem); (case hu => k_updF); (case T => k_asm); (case hf => rfl); (case hke => rfl); (case tb => assumption); (case h0 => omega); (case h2 => omega); (case ho => assumption); k_whole); intro h9z' tk9z' tk29z' F9z' N9z'; (try dsimp only at N9z'))) | ((k_here; k_dflt (refine' is_name_c ?hD ?hU ?B ?F ?X ?N ?hr ?hd ?T ?hf ?hke ?tb ?h0 ?h2 ?hb ?_; (case hD => exact Nat.le_of_ble_eq_true rfl); (case hU => exact Nat.le_of_ble_eq_true rfl); (case B => k_asm); (case F => k_asm); (case X => k_asm); (case N => k_asm); (case hr => k_mem); (case hd => k_mem); (case T => k_asm); (case hf => rfl); (case hke => rfl); (case tb => assumption); (case h0 => omega); (case h2 => omega); (case hb => first | assumption | exact rfl); k_whole); intro h9z' tk9z' F9z' N9z'; (try dsimp only [tkv]))) | ((k_here; k_dflt (refine' peek0_c ?hD ?hU ?B ?F ?X ?N ?hr ?hd ?T ?hf ?hke ?tb ?h0 ?h2 ?ho ?_; (case hD => exact Nat.le_of_ble_eq_true rfl); (case hU => exact Nat.le_of_ble_eq_true rfl); (case B => k_asm); (case F => k_asm); (case X => k_asm); (case N => k_asm); (case hr => k_mem); (case hd => k_mem); (case T => k_asm); (case hf => rfl); (case hke => rfl); (case tb => assumption); (case h0 => omega); (case h2 => omega); (case ho => first | assumption | exact rfl); k_whole); intro h9z' tk9z' F9z' N9z'; (try dsimp only [tkv]))) | ((k_here; k_dflt (refine' is_reserved_c ?hD ?hU ?B ?F ?X ?N ?T ?hf ?hke ?hz ?hb ?_; (case hD => exact Nat.le_of_ble_eq_true rfl); (case hU => exact Nat.le_of_ble_eq_true rfl); (case B => k_asm); (case F => k_asm); (case X => k_asm); (case N => k_asm); (case T => k_asm); (case hf => rfl); (case hke => rfl); (case hz => first | assumption | decide +kernel); (case hb => first | assumption | exact rfl); k_whole); intro h9z' tk9z' F9z' N9z')) | ((k_here; k_dflt (refine' is_kind_c ?hD ?hU ?B ?F ?X ?N ?hr ?hd ?T ?hf ?hke ?tb ?h0 ?h2 ?h1 ?h3 ?hb ?_; (case hD => exact Nat.le_of_ble_eq_true rfl); (case hU => exact Nat.le_of_ble_eq_true rfl); (case B => k_asm); (case F => k_asm); (case X => k_asm); (case N => k_asm); (case hr => k_mem); (case hd => k_mem); (case T => k_asm); (case hf => rfl); (case hke => rfl); (case tb => assumption); (case h0 => omega); (case h2 => omega); (case h1 => omega); (case h3 => omega); (case hb => first | assumption | exact rfl); k_whole); intro h9z' tk9z' F9z' N9z'; (try dsimp only [tkv]))) | ((k_here; k_dflt (refine' peek_c ?hD ?hU ?B ?F ?X ?N ?hr ?hd ?T ?hf ?hke ?tb ?h0 ?h2 ?h1 ?h3 ?ho ?_; (case hD => exact Nat.le_of_ble_eq_true rfl); (case hU => exact Nat.le_of_ble_eq_true rfl); (case B => k_asm); (case F => k_asm); (case X => k_asm); (case N => k_asm); (case hr => k_mem); (case hd => k_mem); (case T => k_asm); (case hf => rfl); (case hke => rfl); (case tb => assumption); (case h0 => omega); (case h2 => omega); (case h1 => omega); (case h3 => omega); (case ho => first | assumption | exact rfl); k_whole); intro h9z' tk9z' F9z' N9z'; (try dsimp only [tkv]))) | ((k_here; (with_reducible show wpAny _ _ (call (Value.builtin "len") [Value.ref _]) _ _ _); (with_unfolding_all refine' len_list ?k1 ?k2 ?_; (case k1 => is_list); (case k2 => first | (simp only [List.size_toArray, List.length_map]; omega) | decide); k_whole); (try simp only [List.size_toArray, List.length_map]))) | ((k_here; (with_reducible show wpAny _ _ (subscriptTail _ _ (Value.ref _) (Value.int _ _)) _ _ _); (with_unfolding_all refine' item_list (x := Value.ref _) ?k1 ?k2 ?k3 ?k4 ?_ ?k6 ?k7; (case k1 => is_list); (case k2 => omega); (case k3 => omega); (case k4 => (simp only [List.getElem?_toArray, List.getElem?_map, *]; rfl)); (case k6 => with_unfolding_all rfl); (case k7 => intro _; with_unfolding_all rfl); k_whole))) | (refine goM ?_; k_dflt walk1) | (k_dflt (dsimp only); refine stp ?_)) | (k_unfold; (first | with_reducible refine (?_ : wpAny _ _ _ _ _ _) | (try dsimp only))) | (k_end; wrow_close) | walk1 | (dsimp only; walk1) | (leave1; walk_say "STEP leave1"; try dsimp only) | fail "no step"))
  all_goals first | exact ret _ _ _ (by k_asm) (nb0 (by k_asm) (hback _)) | exact ret _ _ _ (by k_asm) (nb1 (by k_asm) (hback _)) | exact ret _ _ _ (by k_asm) (nb2 (by k_asm) (hback _)) | exact ret _ _ _ (by k_asm) (nb3 (by k_asm) (hback _))
end

section
variable {w : World} {p : Program} {loose : List Str} {mean : ExcName → Option Value} {mg mb : Str → Option Value}
  {env : Env} {outer : List Env} {gd : Option (List Code)} {A₀ : Around} {base h₀ : Heap} {L : Addr} {m : Str → Option Value} {news : List (Addr × Obj)} {g : Obj → List (Addr × Obj)} {s : Shared} {Q E : Value → Shared → Prop}
  {D U : Nat} {r dr lt nd : Addr} {t1 t2 t3 tk ka : Tok} {q k : Int} {n : Nat} {l : List Tk}
theorem is_sign_c {sg : Str} {st : Tok} {b : Bool} (hD : D ≤ 960) (hU : U ≤ 4800) (B : Below A₀ base outer h₀) (F : Fr h₀ L s.heap m) (X : (kdef.heap_1 w.params).In h₀) (N : News h₀ L s.heap news) (hr : (r, instObj 371 dr) ∈ news) (hd : (dr, rdO w.params t1 t2 t3 lt q tk nd) ∈ news) 
  (T : Top p loose mean mg mb h₀) (hf : env.frame = some L) (hke : env.scope.kind = .function) (tb : TB w.params h₀ lt l) (h0 : 0 ≤ q) (h2 : q < 10000)
  (hb : isSign l (q + 0) sg = b)
  (ret : ∀ h' tk', Fr h₀ L h' m → News h₀ L h' news → Q (.bool b) { s with heap := h', toks := tk' }) :
  wpAny (model PG w) (ctx D U env outer gd) (call (.ref 319) [.ref r, .str sg st]) Q E s := by
  refine ctx_mono hD hU ?_
  subst hb
  unfold isSign at ret
  cases hv : tokAt l (q + 0) with
  | none =>
    rw [hv] at ret
    have hk : isKind l (q + 0) "sign" = false := by unfold isKind; rw [hv]
    refine wpAny_call ?_
    k_dflt k_enter
    (repeat' (first | (with_reducible refine unstp ?_; first | ((k_here; k_dflt (refine' take_c ?hD ?hU ?B ?F ?X ?N ?hr ?hu ?T ?hf ?hke ?tb ?h0 ?h2 ?ho ?_; (case hD => exact Nat.le_of_ble_eq_true rfl); (case hU => exact Nat.le_of_ble_eq_true rfl); (case B => k_asm); (case F => k_asm); (case X => k_asm); (case N => k_asm); (case hr => k_mem); (case hu => k_updF); (case T => k_asm); (case hf => rfl); (case hke => rfl); (case tb => assumption); (case h0 => omega); (case h2 => omega); (case ho => assumption); k_whole); intro h9z' tk9z' tk29z' F9z' N9z'; (try dsimp only at N9z'))) | ((k_here; k_dflt (refine' is_name_c ?hD ?hU ?B ?F ?X ?N ?hr ?hd ?T ?hf ?hke ?tb ?h0 ?h2 ?hb ?_; (case hD => exact Nat.le_of_ble_eq_true rfl); (case hU => exact Nat.le_of_ble_eq_true rfl); (case B => k_asm); (case F => k_asm); (case X => k_asm); (case N => k_asm); (case hr => k_mem); (case hd => k_mem); (case T => k_asm); (case hf => rfl); (case hke => rfl); (case tb => assumption); (case h0 => omega); (case h2 => omega); (case hb => first | assumption | exact rfl); k_whole); intro h9z' tk9z' F9z' N9z'; (try dsimp only [tkv]))) | ((k_here; k_dflt (refine' peek0_c ?hD ?hU ?B ?F ?X ?N ?hr ?hd ?T ?hf ?hke ?tb ?h0 ?h2 ?ho ?_; (case hD => exact Nat.le_of_ble_eq_true rfl); (case hU => exact Nat.le_of_ble_eq_true rfl); (case B => k_asm); (case F => k_asm); (case X => k_asm); (case N => k_asm); (case hr => k_mem); (case hd => k_mem); (case T => k_asm); (case hf => rfl); (case hke => rfl); (case tb => assumption); (case h0 => omega); (case h2 => omega); (case ho => first | assumption | exact rfl); k_whole); intro h9z' tk9z' F9z' N9z'; (try dsimp only [tkv]))) | ((k_here; k_dflt (refine' is_reserved_c ?hD ?hU ?B ?F ?X ?N ?T ?hf ?hke ?hz ?hb ?_; (case hD => exact Nat.le_of_ble_eq_true rfl); (case hU => exact Nat.le_of_ble_eq_true rfl); (case B => k_asm); (case F => k_asm); (case X => k_asm); (case N => k_asm); (case T => k_asm); (case hf => rfl); (case hke => rfl); (case hz => first | assumption | decide +kernel); (case hb => first | assumption | exact rfl); k_whole); intro h9z' tk9z' F9z' N9z')) | ((k_here; k_dflt (refine' is_kind_c ?hD ?hU ?B ?F ?X ?N ?hr ?hd ?T ?hf ?hke ?tb ?h0 ?h2 ?h1 ?h3 ?hb ?_; (case hD => exact Nat.le_of_ble_eq_true rfl); (case hU => exact Nat.le_of_ble_eq_true rfl); (case B => k_asm); (case F => k_asm); (case X => k_asm); (case N => k_asm); (case hr => k_mem); (case hd => k_mem); (case T => k_asm); (case hf => rfl); (case hke => rfl); (case tb => assumption); (case h0 => omega); (case h2 => omega); (case h1 => omega); (case h3 => omega); (case hb => first | assumption | exact rfl); k_whole); intro h9z' tk9z' F9z' N9z'; (try dsimp only [tkv]))) | ((k_here; k_dflt (refine' peek_c ?hD ?hU ?B ?F ?X ?N ?hr ?hd ?T ?hf ?hke ?tb ?h0 ?h2 ?h1 ?h3 ?ho ?_; (case hD => exact Nat.le_of_ble_eq_true rfl); (case hU => exact Nat.le_of_ble_eq_true rfl); (case B => k_asm); (case F => k_asm); (case X => k_asm); (case N => k_asm); (case hr => k_mem); (case hd => k_mem); (case T => k_asm); (case hf => rfl); (case hke => rfl); (case tb => assumption); (case h0 => omega); (case h2 => omega); (case h1 => omega); (case h3 => omega); (case ho => first | assumption | exact rfl); k_whole); intro h9z' tk9z' F9z' N9z'; (try dsimp only [tkv]))) | ((k_here; (with_reducible show wpAny _ _ (call (Value.builtin "len") [Value.ref _]) _ _ _); (with_unfolding_all refine' len_list ?k1 ?k2 ?_; (case k1 => is_list); (case k2 => first | (simp only [List.size_toArray, List.length_map]; omega) | decide); k_whole); (try simp only [List.size_toArray, List.length_map]))) | ((k_here; (with_reducible show wpAny _ _ (subscriptTail _ _ (Value.ref _) (Value.int _ _)) _ _ _); (with_unfolding_all refine' item_list (x := Value.ref _) ?k1 ?k2 ?k3 ?k4 ?_ ?k6 ?k7; (case k1 => is_list); (case k2 => omega); (case k3 => omega); (case k4 => (simp only [List.getElem?_toArray, List.getElem?_map, *]; rfl)); (case k6 => with_unfolding_all rfl); (case k7 => intro _; with_unfolding_all rfl); k_whole))) | (refine goM ?_; k_dflt walk1) | (k_dflt (dsimp only); refine stp ?_)) | (k_unfold; (first | with_reducible refine (?_ : wpAny _ _ _ _ _ _) | (try dsimp only))) | (k_end; wrow_close) | walk1 | (dsimp only; walk1) | (leave1; walk_say "STEP leave1"; try dsimp only) | fail "no step"))
    all_goals first | exact ret _ _ (by k_asm) (nb0 (by k_asm) (fun _ h => h)) | exact ret _ _ (by k_asm) (nb1 (by k_asm) (fun _ h => h)) | exact ret _ _ (by k_asm) (nb2 (by k_asm) (fun _ h => h)) | exact ret _ _ (by k_asm) (nb3 (by k_asm) (fun _ h => h))
  | some k' =>
    rw [hv] at ret
    dsimp only at ret
    have hm : k' ∈ l := List.mem_of_getElem? hv
    cases hkd : (k'.kind == Str.ofString "sign") with
    | false =>
      rw [hkd] at ret
      have hk : isKind l (q + 0) "sign" = false := by unfold isKind; rw [hv]; exact hkd
      refine wpAny_call ?_
      k_dflt k_enter
      (repeat' (first | (with_reducible refine unstp ?_; first | ((k_here; k_dflt (refine' take_c ?hD ?hU ?B ?F ?X ?N ?hr ?hu ?T ?hf ?hke ?tb ?h0 ?h2 ?ho ?_; (case hD => exact Nat.le_of_ble_eq_true rfl); (case hU => exact Nat.le_of_ble_eq_true rfl); (case B => k_asm); (case F => k_asm); (case X => k_asm); (case N => k_asm); (case hr => k_mem); (case hu => k_updF); (case T => k_asm); (case hf => rfl); (case hke => rfl); (case tb => assumption); (case h0 => omega); (case h2 => omega); (case ho => assumption); k_whole); intro h9z' tk9z' tk29z' F9z' N9z'; (try dsimp only at N9z'))) | ((k_here; k_dflt (refine' is_name_c ?hD ?hU ?B ?F ?X ?N ?hr ?hd ?T ?hf ?hke ?tb ?h0 ?h2 ?hb ?_; (case hD => exact Nat.le_of_ble_eq_true rfl); (case hU => exact Nat.le_of_ble_eq_true rfl); (case B => k_asm); (case F => k_asm); (case X => k_asm); (case N => k_asm); (case hr => k_mem); (case hd => k_mem); (case T => k_asm); (case hf => rfl); (case hke => rfl); (case tb => assumption); (case h0 => omega); (case h2 => omega); (case hb => first | assumption | exact rfl); k_whole); intro h9z' tk9z' F9z' N9z'; (try dsimp only [tkv]))) | ((k_here; k_dflt (refine' peek0_c ?hD ?hU ?B ?F ?X ?N ?hr ?hd ?T ?hf ?hke ?tb ?h0 ?h2 ?ho ?_; (case hD => exact Nat.le_of_ble_eq_true rfl); (case hU => exact Nat.le_of_ble_eq_true rfl); (case B => k_asm); (case F => k_asm); (case X => k_asm); (case N => k_asm); (case hr => k_mem); (case hd => k_mem); (case T => k_asm); (case hf => rfl); (case hke => rfl); (case tb => assumption); (case h0 => omega); (case h2 => omega); (case ho => first | assumption | exact rfl); k_whole); intro h9z' tk9z' F9z' N9z'; (try dsimp only [tkv]))) | ((k_here; k_dflt (refine' is_reserved_c ?hD ?hU ?B ?F ?X ?N ?T ?hf ?hke ?hz ?hb ?_; (case hD => exact Nat.le_of_ble_eq_true rfl); (case hU => exact Nat.le_of_ble_eq_true rfl); (case B => k_asm); (case F => k_asm); (case X => k_asm); (case N => k_asm); (case T => k_asm); (case hf => rfl); (case hke => rfl); (case hz => first | assumption | decide +kernel); (case hb => first | assumption | exact rfl); k_whole); intro h9z' tk9z' F9z' N9z')) | ((k_here; k_dflt (refine' is_kind_c ?hD ?hU ?B ?F ?X ?N ?hr ?hd ?T ?hf ?hke ?tb ?h0 ?h2 ?h1 ?h3 ?hb ?_; (case hD => exact Nat.le_of_ble_eq_true rfl); (case hU => exact Nat.le_of_ble_eq_true rfl); (case B => k_asm); (case F => k_asm); (case X => k_asm); (case N => k_asm); (case hr => k_mem); (case hd => k_mem); (case T => k_asm); (case hf => rfl); (case hke => rfl); (case tb => assumption); (case h0 => omega); (case h2 => omega); (case h1 => omega); (case h3 => omega); (case hb => first | assumption | exact rfl); k_whole); intro h9z' tk9z' F9z' N9z'; (try dsimp only [tkv]))) | ((k_here; k_dflt (refine' peek_c ?hD ?hU ?B ?F ?X ?N ?hr ?hd ?T ?hf ?hke ?tb ?h0 ?h2 ?h1 ?h3 ?ho ?_; (case hD => exact Nat.le_of_ble_eq_true rfl); (case hU => exact Nat.le_of_ble_eq_true rfl); (case B => k_asm); (case F => k_asm); (case X => k_asm); (case N => k_asm); (case hr => k_mem); (case hd => k_mem); (case T => k_asm); (case hf => rfl); (case hke => rfl); (case tb => assumption); (case h0 => omega); (case h2 => omega); (case h1 => omega); (case h3 => omega); (case ho => first | assumption | exact rfl); k_whole); intro h9z' tk9z' F9z' N9z'; (try dsimp only [tkv]))) | ((k_here; (with_reducible show wpAny _ _ (call (Value.builtin "len") [Value.ref _]) _ _ _); (with_unfolding_all refine' len_list ?k1 ?k2 ?_; (case k1 => is_list); (case k2 => first | (simp only [List.size_toArray, List.length_map]; omega) | decide); k_whole); (try simp only [List.size_toArray, List.length_map]))) | ((k_here; (with_reducible show wpAny _ _ (subscriptTail _ _ (Value.ref _) (Value.int _ _)) _ _ _); (with_unfolding_all refine' item_list (x := Value.ref _) ?k1 ?k2 ?k3 ?k4 ?_ ?k6 ?k7; (case k1 => is_list); (case k2 => omega); (case k3 => omega); (case k4 => (simp only [List.getElem?_toArray, List.getElem?_map, *]; rfl)); (case k6 => with_unfolding_all rfl); (case k7 => intro _; with_unfolding_all rfl); k_whole))) | (refine goM ?_; k_dflt walk1) | (k_dflt (dsimp only); refine stp ?_)) | (k_unfold; (first | with_reducible refine (?_ : wpAny _ _ _ _ _ _) | (try dsimp only))) | (k_end; wrow_close) | walk1 | (dsimp only; walk1) | (leave1; walk_say "STEP leave1"; try dsimp only) | fail "no step"))
      all_goals first | exact ret _ _ (by k_asm) (nb0 (by k_asm) (fun _ h => h)) | exact ret _ _ (by k_asm) (nb1 (by k_asm) (fun _ h => h)) | exact ret _ _ (by k_asm) (nb2 (by k_asm) (fun _ h => h)) | exact ret _ _ (by k_asm) (nb3 (by k_asm) (fun _ h => h))
    | true =>
      rw [hkd] at ret
      have hk : isKind l (q + 0) "sign" = true := by unfold isKind; rw [hv]; exact hkd
      refine wpAny_call ?_
      k_dflt k_enter
      (repeat' (first | (with_reducible refine unstp ?_; first | ((k_here; k_dflt (refine' take_c ?hD ?hU ?B ?F ?X ?N ?hr ?hu ?T ?hf ?hke ?tb ?h0 ?h2 ?ho ?_; (case hD => exact Nat.le_of_ble_eq_true rfl); (case hU => exact Nat.le_of_ble_eq_true rfl); (case B => k_asm); (case F => k_asm); (case X => k_asm); (case N => k_asm); (case hr => k_mem); (case hu => k_updF); (case T => k_asm); (case hf => rfl); (case hke => rfl); (case tb => assumption); (case h0 => omega); (case h2 => omega); (case ho => assumption); k_whole); intro h9z' tk9z' tk29z' F9z' N9z'; (try dsimp only at N9z'))) | ((k_here; k_dflt (refine' is_name_c ?hD ?hU ?B ?F ?X ?N ?hr ?hd ?T ?hf ?hke ?tb ?h0 ?h2 ?hb ?_; (case hD => exact Nat.le_of_ble_eq_true rfl); (case hU => exact Nat.le_of_ble_eq_true rfl); (case B => k_asm); (case F => k_asm); (case X => k_asm); (case N => k_asm); (case hr => k_mem); (case hd => k_mem); (case T => k_asm); (case hf => rfl); (case hke => rfl); (case tb => assumption); (case h0 => omega); (case h2 => omega); (case hb => first | assumption | exact rfl); k_whole); intro h9z' tk9z' F9z' N9z'; (try dsimp only [tkv]))) | ((k_here; k_dflt (refine' peek0_c ?hD ?hU ?B ?F ?X ?N ?hr ?hd ?T ?hf ?hke ?tb ?h0 ?h2 ?ho ?_; (case hD => exact Nat.le_of_ble_eq_true rfl); (case hU => exact Nat.le_of_ble_eq_true rfl); (case B => k_asm); (case F => k_asm); (case X => k_asm); (case N => k_asm); (case hr => k_mem); (case hd => k_mem); (case T => k_asm); (case hf => rfl); (case hke => rfl); (case tb => assumption); (case h0 => omega); (case h2 => omega); (case ho => first | assumption | exact rfl); k_whole); intro h9z' tk9z' F9z' N9z'; (try dsimp only [tkv]))) | ((k_here; k_dflt (refine' is_reserved_c ?hD ?hU ?B ?F ?X ?N ?T ?hf ?hke ?hz ?hb ?_; (case hD => exact Nat.le_of_ble_eq_true rfl); (case hU => exact Nat.le_of_ble_eq_true rfl); (case B => k_asm); (case F => k_asm); (case X => k_asm); (case N => k_asm); (case T => k_asm); (case hf => rfl); (case hke => rfl); (case hz => first | assumption | decide +kernel); (case hb => first | assumption | exact rfl); k_whole); intro h9z' tk9z' F9z' N9z')) | ((k_here; k_dflt (refine' is_kind_c ?hD ?hU ?B ?F ?X ?N ?hr ?hd ?T ?hf ?hke ?tb ?h0 ?h2 ?h1 ?h3 ?hb ?_; (case hD => exact Nat.le_of_ble_eq_true rfl); (case hU => exact Nat.le_of_ble_eq_true rfl); (case B => k_asm); (case F => k_asm); (case X => k_asm); (case N => k_asm); (case hr => k_mem); (case hd => k_mem); (case T => k_asm); (case hf => rfl); (case hke => rfl); (case tb => assumption); (case h0 => omega); (case h2 => omega); (case h1 => omega); (case h3 => omega); (case hb => first | assumption | exact rfl); k_whole); intro h9z' tk9z' F9z' N9z'; (try dsimp only [tkv]))) | ((k_here; k_dflt (refine' peek_c ?hD ?hU ?B ?F ?X ?N ?hr ?hd ?T ?hf ?hke ?tb ?h0 ?h2 ?h1 ?h3 ?ho ?_; (case hD => exact Nat.le_of_ble_eq_true rfl); (case hU => exact Nat.le_of_ble_eq_true rfl); (case B => k_asm); (case F => k_asm); (case X => k_asm); (case N => k_asm); (case hr => k_mem); (case hd => k_mem); (case T => k_asm); (case hf => rfl); (case hke => rfl); (case tb => assumption); (case h0 => omega); (case h2 => omega); (case h1 => omega); (case h3 => omega); (case ho => first | assumption | exact rfl); k_whole); intro h9z' tk9z' F9z' N9z'; (try dsimp only [tkv]))) | ((k_here; (with_reducible show wpAny _ _ (call (Value.builtin "len") [Value.ref _]) _ _ _); (with_unfolding_all refine' len_list ?k1 ?k2 ?_; (case k1 => is_list); (case k2 => first | (simp only [List.size_toArray, List.length_map]; omega) | decide); k_whole); (try simp only [List.size_toArray, List.length_map]))) | ((k_here; (with_reducible show wpAny _ _ (subscriptTail _ _ (Value.ref _) (Value.int _ _)) _ _ _); (with_unfolding_all refine' item_list (x := Value.ref _) ?k1 ?k2 ?k3 ?k4 ?_ ?k6 ?k7; (case k1 => is_list); (case k2 => omega); (case k3 => omega); (case k4 => (simp only [List.getElem?_toArray, List.getElem?_map, *]; rfl)); (case k6 => with_unfolding_all rfl); (case k7 => intro _; with_unfolding_all rfl); k_whole))) | (refine goM ?_; k_dflt walk1) | (k_dflt (dsimp only); refine stp ?_)) | (k_unfold; (first | with_reducible refine (?_ : wpAny _ _ _ _ _ _) | (try dsimp only))) | (k_end; wrow_close) | walk1 | (dsimp only; walk1) | (leave1; walk_say "STEP leave1"; try dsimp only) | fail "no step"))
      all_goals first | exact ret _ _ (by k_asm) (nb0 (by k_asm) (fun _ h => h)) | exact ret _ _ (by k_asm) (nb1 (by k_asm) (fun _ h => h)) | exact ret _ _ (by k_asm) (nb2 (by k_asm) (fun _ h => h)) | exact ret _ _ (by k_asm) (nb3 (by k_asm) (fun _ h => h))
end
local macro_rules | `(tactic| walk_at "exec While BoolOp cons nil") => `(tactic| (goal_lacks GoM; refine stp ?_))
local macro_rules | `(tactic| walk_at "exec While Compare cons nil") => `(tactic| (goal_lacks GoM; refine stp ?_))
local macro_rules | `(tactic| walk_at "exec While Call cons nil") => `(tactic| (goal_lacks GoM; refine stp ?_))

section
variable {w : World} {p : Program} {loose : List Str} {mean : ExcName → Option Value} {mg mb : Str → Option Value}
  {env : Env} {outer : List Env} {gd : Option (List Code)} {A₀ : Around} {base h₀ : Heap} {L : Addr} {m : Str → Option Value} {news : List (Addr × Obj)} {g : Obj → List (Addr × Obj)} {s : Shared} {Q E : Value → Shared → Prop}
  {D U : Nat} {r dr lt nd : Addr} {t1 t2 t3 tk ka : Tok} {q k : Int} {n : Nat} {l : List Tk}
theorem ipn_c  (hD : D ≤ 950) (hU : U ≤ 4750) (B : Below A₀ base outer h₀) (F : Fr h₀ L s.heap m) (X : (kdef.heap_1 w.params).In h₀) (N : News h₀ L s.heap news) (hr : (r, instObj 371 dr) ∈ news) (hd : (dr, rdO w.params t1 t2 t3 lt q tk nd) ∈ news) 
  (T : Top p loose mean mg mb h₀) (hf : env.frame = some L) (hke : env.scope.kind = .function) (tb : TB w.params h₀ lt l) (h0 : 0 ≤ q) (h2 : q < 10000)
  (hb : isSign l (q + 0) (Str.ofString "(") = false)
  (ret : ∀ h' tk', Fr h₀ L h' m → News h₀ L h' news → Q (.bool false) { s with heap := h', toks := tk' }) :
  wpAny (model PG w) (ctx D U env outer gd) (call (.ref 59) [.ref r]) Q E s := by
  refine ctx_mono hD hU ?_
  refine wpAny_call ?_
  k_dflt k_enter
  (repeat' (first | (with_reducible refine unstp ?_; first | ((k_here; k_dflt (refine whl_start 100 ?_))) | ((k_here; k_dflt (refine' is_sign_c ?hD ?hU ?B ?F ?X ?N ?hr ?hd ?T ?hf ?hke ?tb ?h0 ?h2 ?hb ?_; (case hD => exact Nat.le_of_ble_eq_true rfl); (case hU => exact Nat.le_of_ble_eq_true rfl); (case B => k_asm); (case F => k_asm); (case X => k_asm); (case N => k_asm); (case hr => k_mem); (case hd => k_mem); (case T => k_asm); (case hf => rfl); (case hke => rfl); (case tb => assumption); (case h0 => omega); (case h2 => omega); (case hb => first | assumption | exact rfl); k_whole); intro h9z' tk9z' F9z' N9z'; (try dsimp only [tkv]))) | ((k_here; k_dflt (refine' take_c ?hD ?hU ?B ?F ?X ?N ?hr ?hu ?T ?hf ?hke ?tb ?h0 ?h2 ?ho ?_; (case hD => exact Nat.le_of_ble_eq_true rfl); (case hU => exact Nat.le_of_ble_eq_true rfl); (case B => k_asm); (case F => k_asm); (case X => k_asm); (case N => k_asm); (case hr => k_mem); (case hu => k_updF); (case T => k_asm); (case hf => rfl); (case hke => rfl); (case tb => assumption); (case h0 => omega); (case h2 => omega); (case ho => assumption); k_whole); intro h9z' tk9z' tk29z' F9z' N9z'; (try dsimp only at N9z'))) | ((k_here; k_dflt (refine' is_name_c ?hD ?hU ?B ?F ?X ?N ?hr ?hd ?T ?hf ?hke ?tb ?h0 ?h2 ?hb ?_; (case hD => exact Nat.le_of_ble_eq_true rfl); (case hU => exact Nat.le_of_ble_eq_true rfl); (case B => k_asm); (case F => k_asm); (case X => k_asm); (case N => k_asm); (case hr => k_mem); (case hd => k_mem); (case T => k_asm); (case hf => rfl); (case hke => rfl); (case tb => assumption); (case h0 => omega); (case h2 => omega); (case hb => first | assumption | exact rfl); k_whole); intro h9z' tk9z' F9z' N9z'; (try dsimp only [tkv]))) | ((k_here; k_dflt (refine' peek0_c ?hD ?hU ?B ?F ?X ?N ?hr ?hd ?T ?hf ?hke ?tb ?h0 ?h2 ?ho ?_; (case hD => exact Nat.le_of_ble_eq_true rfl); (case hU => exact Nat.le_of_ble_eq_true rfl); (case B => k_asm); (case F => k_asm); (case X => k_asm); (case N => k_asm); (case hr => k_mem); (case hd => k_mem); (case T => k_asm); (case hf => rfl); (case hke => rfl); (case tb => assumption); (case h0 => omega); (case h2 => omega); (case ho => first | assumption | exact rfl); k_whole); intro h9z' tk9z' F9z' N9z'; (try dsimp only [tkv]))) | ((k_here; k_dflt (refine' is_reserved_c ?hD ?hU ?B ?F ?X ?N ?T ?hf ?hke ?hz ?hb ?_; (case hD => exact Nat.le_of_ble_eq_true rfl); (case hU => exact Nat.le_of_ble_eq_true rfl); (case B => k_asm); (case F => k_asm); (case X => k_asm); (case N => k_asm); (case T => k_asm); (case hf => rfl); (case hke => rfl); (case hz => first | assumption | decide +kernel); (case hb => first | assumption | exact rfl); k_whole); intro h9z' tk9z' F9z' N9z')) | ((k_here; k_dflt (refine' is_kind_c ?hD ?hU ?B ?F ?X ?N ?hr ?hd ?T ?hf ?hke ?tb ?h0 ?h2 ?h1 ?h3 ?hb ?_; (case hD => exact Nat.le_of_ble_eq_true rfl); (case hU => exact Nat.le_of_ble_eq_true rfl); (case B => k_asm); (case F => k_asm); (case X => k_asm); (case N => k_asm); (case hr => k_mem); (case hd => k_mem); (case T => k_asm); (case hf => rfl); (case hke => rfl); (case tb => assumption); (case h0 => omega); (case h2 => omega); (case h1 => omega); (case h3 => omega); (case hb => first | assumption | exact rfl); k_whole); intro h9z' tk9z' F9z' N9z'; (try dsimp only [tkv]))) | ((k_here; k_dflt (refine' peek_c ?hD ?hU ?B ?F ?X ?N ?hr ?hd ?T ?hf ?hke ?tb ?h0 ?h2 ?h1 ?h3 ?ho ?_; (case hD => exact Nat.le_of_ble_eq_true rfl); (case hU => exact Nat.le_of_ble_eq_true rfl); (case B => k_asm); (case F => k_asm); (case X => k_asm); (case N => k_asm); (case hr => k_mem); (case hd => k_mem); (case T => k_asm); (case hf => rfl); (case hke => rfl); (case tb => assumption); (case h0 => omega); (case h2 => omega); (case h1 => omega); (case h3 => omega); (case ho => first | assumption | exact rfl); k_whole); intro h9z' tk9z' F9z' N9z'; (try dsimp only [tkv]))) | ((k_here; (with_reducible show wpAny _ _ (call (Value.builtin "len") [Value.ref _]) _ _ _); (with_unfolding_all refine' len_list ?k1 ?k2 ?_; (case k1 => is_list); (case k2 => first | (simp only [List.size_toArray, List.length_map]; omega) | decide); k_whole); (try simp only [List.size_toArray, List.length_map]))) | ((k_here; (with_reducible show wpAny _ _ (subscriptTail _ _ (Value.ref _) (Value.int _ _)) _ _ _); (with_unfolding_all refine' item_list (x := Value.ref _) ?k1 ?k2 ?k3 ?k4 ?_ ?k6 ?k7; (case k1 => is_list); (case k2 => omega); (case k3 => omega); (case k4 => (simp only [List.getElem?_toArray, List.getElem?_map, *]; rfl)); (case k6 => with_unfolding_all rfl); (case k7 => intro _; with_unfolding_all rfl); k_whole))) | (refine goM ?_; k_dflt walk1) | (k_dflt (dsimp only); refine stp ?_)) | (k_unfold; (first | with_reducible refine (?_ : wpAny _ _ _ _ _ _) | (try dsimp only))) | (k_end; wrow_close) | walk1 | (dsimp only; walk1) | (leave1; walk_say "STEP leave1"; try dsimp only) | fail "no step"))
  all_goals first | exact ret _ _ (by k_asm) (nb0 (by k_asm) (fun _ h => h)) | exact ret _ _ (by k_asm) (nb1 (by k_asm) (fun _ h => h)) | exact ret _ _ (by k_asm) (nb2 (by k_asm) (fun _ h => h)) | exact ret _ _ (by k_asm) (nb3 (by k_asm) (fun _ h => h))
end


theorem nbc {h₀ h : Heap} {L : Addr} {a : Addr × Obj} {c big : List (Addr × Obj)} (N : News h₀ L h (a :: c)) (hb : ∀ x ∈ big, x ∈ c) : News h₀ L h (a :: big) := fun x hx => by
  rcases List.mem_cons.mp hx with e | hx
  · rw [e]; exact N _ (.head _)
  · exact N x (.tail _ (hb x hx))
theorem nbc1 {h₀ h : Heap} {L : Addr} {a b : Addr × Obj} {c big : List (Addr × Obj)} (N : News h₀ L h (a :: b :: c)) (hb : ∀ x ∈ big, x ∈ c) : News h₀ L h (a :: big) := nbc (fun x hx => by
  rcases List.mem_cons.mp hx with e | hx
  · rw [e]; exact N _ (.head _)
  · exact N x (.tail _ (.tail _ hx))) hb
theorem split_two {prog : Program} {w : World} {A : Around} {E : Value → Shared → Prop} {s : Shared} {h₀ : Heap} {L : Addr} {m : PySem.Str → Option Value} {news : List (Addr × Obj)} {x y z1 z2 : PySem.Str} {t u : Tok} {Q : Value → Shared → Prop}
    (hF : Fr h₀ L s.heap m) (hN : News h₀ L s.heap news) (hy : (y.length == 0) = false) (hsp : Txt.split x y = [z1, z2]) (hsz : x.length ≤ 1000)
    (h : ∀ D t1 t2 h' k, Fr h₀ L h' m → News h₀ L h' ((D, listOf #[.str z1 t1, .str z2 t2] 0) :: news) → (∀ p ∈ news, p.1 < D) → Q (.ref D) { s with heap := h', toks := k }) :
    wpAny (model prog w) A (call (.builtin "str.split") [.str x t, .str y u]) Q E s :=
  KSpl.split1 hF hN hy (fun D l h' k e _ F' N' l1 => by
    rw [hsp] at e
    obtain ⟨t1, r, rfl, hr⟩ := KSpl.cons_of e
    obtain ⟨t2, r2, rfl, hr2⟩ := KSpl.cons_of hr
    have := KSpl.nil_of hr2
    subst this
    exact h D t1 t2 h' k F' N' l1) (by rw [PySem.sizeLine_eq]; omega)

section
variable {w : World} {p : Program} {loose : List Str} {mean : ExcName → Option Value} {mg mb : Str → Option Value}
  {env : Env} {outer : List Env} {gd : Option (List Code)} {A₀ : Around} {base h₀ : Heap} {L : Addr} {m : Str → Option Value} {news : List (Addr × Obj)} {g : Obj → List (Addr × Obj)} {s : Shared} {Q E : Value → Shared → Prop}
  {D U : Nat} {r dr lt nd : Addr} {t1 t2 t3 tk ka : Tok} {q k : Int} {n : Nat} {l : List Tk}
theorem names1_c {a : Tk} (hD : D ≤ 930) (hU : U ≤ 4650) (B : Below A₀ base outer h₀) (F : Fr h₀ L s.heap m) (X : (kdef.heap_1 w.params).In h₀) (N : News h₀ L s.heap news) (hr : (r, instObj 371 dr) ∈ news) (hu : UpdF dr (rdO w.params t1 t2 t3 lt q tk nd) news g) 
  (T : Top p loose mean mg mb h₀) (hf : env.frame = some L) (hke : env.scope.kind = .function) (tb : TB w.params h₀ lt l) (h0 : 0 ≤ q) (h2 : q < 9990)
  (hb : isName l (q + 0) = true) (ho : tokAt l (q + 0) = some a) (hb1 : isName l (q + 1 + 0) = false)
  (ret : ∀ Dl h' tk' tk2, Fr h₀ L h' m → News h₀ L h' ((Dl, listOf #[.str a.x a.k2] 0) :: g (rdO w.params t1 t2 t3 lt (q + 1) tk2 nd)) → (∀ p ∈ g (rdO w.params t1 t2 t3 lt (q + 1) tk2 nd), p.1 < Dl) → Q (.ref Dl) { s with heap := h', toks := tk' }) :
  wpAny (model PG w) (ctx D U env outer gd) (call (.ref 311) [.ref r]) Q E s := by
  refine ctx_mono hD hU ?_
  obtain ⟨rest, hrest, hd, hne, N1, hback⟩ := canon N hr hu
  clear N hr hu hd
  have hne1 := neN hne
  refine wpAny_call ?_
  k_dflt k_enter
  (repeat' (first | (with_reducible refine unstp ?_; first | ((k_here; (with_reducible show wpAny _ _ (call (Value.builtin "str.split") [Value.str (Str.ofString "OF IN") _, _]) _ _ _); k_dflt (refine' split_two (z1 := Str.ofString "OF") (z2 := Str.ofString "IN") ?F ?N ?hy ?hsp ?hz ?_; (case F => k_asm); (case N => k_asm); (case hy => decide); (case hsp => decide +kernel); (case hz => decide +kernel); k_whole); intro D9z' tz9z' tz29z' h9z' k9z' F9z' N9z' l19z; (try k_lt l19z))) | ((k_here; k_dflt (refine whl_start 100 ?_))) | ((k_here; k_dflt (refine' name_c ?hD ?hU ?B ?F ?X ?N ?hr ?hu ?T ?hf ?hke ?tb ?h0 ?h2 ?hb ?ho ?_; (case hD => exact Nat.le_of_ble_eq_true rfl); (case hU => exact Nat.le_of_ble_eq_true rfl); (case B => k_asm); (case F => k_asm); (case X => k_asm); (case N => k_asm); (case hr => k_mem); (case hu => k_updF); (case T => k_asm); (case hf => rfl); (case hke => rfl); (case tb => assumption); (case h0 => omega); (case h2 => omega); (case hb => assumption); (case ho => assumption); k_whole); intro h9z' tk9z' tk29z' F9z' N9z'; (try dsimp only at N9z'))) | ((k_here; k_dflt (refine' is_name_c ?hD ?hU ?B ?F ?X ?N ?hr ?hd ?T ?hf ?hke ?tb ?h0 ?h2 ?hb ?_; (case hD => exact Nat.le_of_ble_eq_true rfl); (case hU => exact Nat.le_of_ble_eq_true rfl); (case B => k_asm); (case F => k_asm); (case X => k_asm); (case N => k_asm); (case hr => k_mem); (case hd => k_mem); (case T => k_asm); (case hf => rfl); (case hke => rfl); (case tb => assumption); (case h0 => omega); (case h2 => omega); (case hb => first | assumption | exact rfl); k_whole); intro h9z' tk9z' F9z' N9z'; (try dsimp only [tkv]))) | ((k_here; k_dflt (refine' skip_t ?hD ?hU ?B ?F ?X ?N ?hr ?hu ?T ?hf ?hke ?tb ?h0 ?h2 ?hsp ?hz ?hb ?_; (case hD => exact Nat.le_of_ble_eq_true rfl); (case hU => exact Nat.le_of_ble_eq_true rfl); (case B => k_asm); (case F => k_asm); (case X => k_asm); (case N => k_asm); (case hr => k_mem); (case hu => k_updF); (case T => k_asm); (case hf => rfl); (case hke => rfl); (case tb => assumption); (case h0 => omega); (case h2 => omega); (case hsp => first | assumption | decide +kernel); (case hz => first | assumption | decide +kernel); (case hb => assumption); k_whole); intro h9z' tk9z' tk29z' F9z' N9z'; (try dsimp only at N9z'))) | ((k_here; k_dflt (refine' skip_f ?hD ?hU ?B ?F ?X ?N ?hr ?hd ?T ?hf ?hke ?tb ?h0 ?h2 ?hsp ?hz ?hb ?_; (case hD => exact Nat.le_of_ble_eq_true rfl); (case hU => exact Nat.le_of_ble_eq_true rfl); (case B => k_asm); (case F => k_asm); (case X => k_asm); (case N => k_asm); (case hr => k_mem); (case hd => k_mem); (case T => k_asm); (case hf => rfl); (case hke => rfl); (case tb => assumption); (case h0 => omega); (case h2 => omega); (case hsp => first | assumption | decide +kernel); (case hz => first | assumption | decide +kernel); (case hb => assumption); k_whole); intro h9z' tk9z' F9z' N9z'; (try dsimp only [tkv]))) | (k_dflt ((k_here; refine UnrEnd.intro (by k_asm) (by k_asm) _ (fun _ h => h) (fun p hp => Nat.ne_of_lt ((by assumption : ∀ p ∈ _, p.1 < _) p hp)) ⟨by k_mem, ?_⟩))) | (first | ((k_here; (with_reducible show wpAny _ _ (pyIter (Value.ref _)) (fun it s₂ => LoopAtV _ _ _ _ _ _ _ _ _ it s₂) _ _); (rename Fr _ _ _ _ => lF9z'); (rename News _ _ _ _ => lN9z'); (with_unfolding_all first | refine iter_listUnr (vs := [Value.str _ _]) (by rfl) lF9z' lN9z' (by k_mem) (by rfl) (by rfl) ?_ | refine iter_listUnr (vs := [Value.str _ _, Value.str _ _]) (by rfl) lF9z' lN9z' (by k_mem) (by rfl) (by rfl) ?_); clear lF9z' lN9z'; intro i9z' lI9z'; (have lJ9z' := allLt_of lI9z'); (try simp only [AllLt, and_true] at lJ9z'))) | k_dflt ((k_here; (with_reducible show wpAny _ _ (pyIter (Value.ref _)) (fun it s₂ => LoopAtV _ _ _ _ _ _ _ _ _ it s₂) _ _); (rename Fr _ _ _ _ => lF9z'); (rename News _ _ _ _ => lN9z'); (with_unfolding_all first | refine iter_listUnr (vs := [Value.str _ _]) (by rfl) lF9z' lN9z' (by k_mem) (by rfl) (by rfl) ?_ | refine iter_listUnr (vs := [Value.str _ _, Value.str _ _]) (by rfl) lF9z' lN9z' (by k_mem) (by rfl) (by rfl) ?_); clear lF9z' lN9z'; intro i9z' lI9z'; (have lJ9z' := allLt_of lI9z'); (try simp only [AllLt, and_true] at lJ9z')))) | (refine goM ?_; k_dflt walk1) | (k_dflt (dsimp only); refine stp ?_)) | (k_unfold; (first | with_reducible refine (?_ : wpAny _ _ _ _ _ _) | (try dsimp only))) | (k_end; wrow_close) | walk1 | (dsimp only; walk1) | (leave1; walk_say "STEP leave1"; try dsimp only) | fail "no step"))
  all_goals first | exact ret _ _ _ _ (by k_asm) (nbc (by k_asm) (hback _)) (fun p hp => allLt_all _ (by assumption) p (hback _ p hp)) | exact ret _ _ _ _ (by k_asm) (nbc1 (by k_asm) (hback _)) (fun p hp => allLt_all _ (by assumption) p (hback _ p hp))
theorem names2_c {a b : Tk} (hD : D ≤ 930) (hU : U ≤ 4650) (B : Below A₀ base outer h₀) (F : Fr h₀ L s.heap m) (X : (kdef.heap_1 w.params).In h₀) (N : News h₀ L s.heap news) (hr : (r, instObj 371 dr) ∈ news) (hu : UpdF dr (rdO w.params t1 t2 t3 lt q tk nd) news g) 
  (T : Top p loose mean mg mb h₀) (hf : env.frame = some L) (hke : env.scope.kind = .function) (tb : TB w.params h₀ lt l) (h0 : 0 ≤ q) (h2 : q < 9990)
  (hb : isName l (q + 0) = true) (ho : tokAt l (q + 0) = some a) (hb1 : isName l (q + 1 + 0) = true) (ho1 : tokAt l (q + 1 + 0) = some b) (hb2 : isName l (q + 1 + 1 + 0) = false)
  (ret : ∀ Dl h' tk' tk2, Fr h₀ L h' m → News h₀ L h' ((Dl, listOf (#[.str a.x a.k2].push (.str b.x b.k2)) (0 + 1)) :: g (rdO w.params t1 t2 t3 lt (q + 1 + 1) tk2 nd)) → (∀ p ∈ g (rdO w.params t1 t2 t3 lt (q + 1 + 1) tk2 nd), p.1 < Dl) → Q (.ref Dl) { s with heap := h', toks := tk' }) :
  wpAny (model PG w) (ctx D U env outer gd) (call (.ref 311) [.ref r]) Q E s := by
  refine ctx_mono hD hU ?_
  obtain ⟨rest, hrest, hd, hne, N1, hback⟩ := canon N hr hu
  clear N hr hu hd
  have hne1 := neN hne
  refine wpAny_call ?_
  k_dflt k_enter
  (repeat' (first | (with_reducible refine unstp ?_; first | ((k_here; (with_reducible show wpAny _ _ (call (Value.builtin "str.split") [Value.str (Str.ofString "OF IN") _, _]) _ _ _); k_dflt (refine' split_two (z1 := Str.ofString "OF") (z2 := Str.ofString "IN") ?F ?N ?hy ?hsp ?hz ?_; (case F => k_asm); (case N => k_asm); (case hy => decide); (case hsp => decide +kernel); (case hz => decide +kernel); k_whole); intro D9z' tz9z' tz29z' h9z' k9z' F9z' N9z' l19z; (try k_lt l19z))) | ((k_here; k_dflt (refine whl_start 100 ?_))) | ((k_here; k_dflt (refine' name_c ?hD ?hU ?B ?F ?X ?N ?hr ?hu ?T ?hf ?hke ?tb ?h0 ?h2 ?hb ?ho ?_; (case hD => exact Nat.le_of_ble_eq_true rfl); (case hU => exact Nat.le_of_ble_eq_true rfl); (case B => k_asm); (case F => k_asm); (case X => k_asm); (case N => k_asm); (case hr => k_mem); (case hu => k_updF); (case T => k_asm); (case hf => rfl); (case hke => rfl); (case tb => assumption); (case h0 => omega); (case h2 => omega); (case hb => assumption); (case ho => assumption); k_whole); intro h9z' tk9z' tk29z' F9z' N9z'; (try dsimp only at N9z'))) | ((k_here; k_dflt (refine' is_name_c ?hD ?hU ?B ?F ?X ?N ?hr ?hd ?T ?hf ?hke ?tb ?h0 ?h2 ?hb ?_; (case hD => exact Nat.le_of_ble_eq_true rfl); (case hU => exact Nat.le_of_ble_eq_true rfl); (case B => k_asm); (case F => k_asm); (case X => k_asm); (case N => k_asm); (case hr => k_mem); (case hd => k_mem); (case T => k_asm); (case hf => rfl); (case hke => rfl); (case tb => assumption); (case h0 => omega); (case h2 => omega); (case hb => first | assumption | exact rfl); k_whole); intro h9z' tk9z' F9z' N9z'; (try dsimp only [tkv]))) | ((k_here; k_dflt (refine' skip_t ?hD ?hU ?B ?F ?X ?N ?hr ?hu ?T ?hf ?hke ?tb ?h0 ?h2 ?hsp ?hz ?hb ?_; (case hD => exact Nat.le_of_ble_eq_true rfl); (case hU => exact Nat.le_of_ble_eq_true rfl); (case B => k_asm); (case F => k_asm); (case X => k_asm); (case N => k_asm); (case hr => k_mem); (case hu => k_updF); (case T => k_asm); (case hf => rfl); (case hke => rfl); (case tb => assumption); (case h0 => omega); (case h2 => omega); (case hsp => first | assumption | decide +kernel); (case hz => first | assumption | decide +kernel); (case hb => assumption); k_whole); intro h9z' tk9z' tk29z' F9z' N9z'; (try dsimp only at N9z'))) | ((k_here; k_dflt (refine' skip_f ?hD ?hU ?B ?F ?X ?N ?hr ?hd ?T ?hf ?hke ?tb ?h0 ?h2 ?hsp ?hz ?hb ?_; (case hD => exact Nat.le_of_ble_eq_true rfl); (case hU => exact Nat.le_of_ble_eq_true rfl); (case B => k_asm); (case F => k_asm); (case X => k_asm); (case N => k_asm); (case hr => k_mem); (case hd => k_mem); (case T => k_asm); (case hf => rfl); (case hke => rfl); (case tb => assumption); (case h0 => omega); (case h2 => omega); (case hsp => first | assumption | decide +kernel); (case hz => first | assumption | decide +kernel); (case hb => assumption); k_whole); intro h9z' tk9z' F9z' N9z'; (try dsimp only [tkv]))) | (k_dflt ((k_here; refine UnrEnd.intro (by k_asm) (by k_asm) _ (fun _ h => h) (fun p hp => Nat.ne_of_lt ((by assumption : ∀ p ∈ _, p.1 < _) p hp)) ⟨by k_mem, ?_⟩))) | (first | ((k_here; (with_reducible show wpAny _ _ (pyIter (Value.ref _)) (fun it s₂ => LoopAtV _ _ _ _ _ _ _ _ _ it s₂) _ _); (rename Fr _ _ _ _ => lF9z'); (rename News _ _ _ _ => lN9z'); (with_unfolding_all first | refine iter_listUnr (vs := [Value.str _ _]) (by rfl) lF9z' lN9z' (by k_mem) (by rfl) (by rfl) ?_ | refine iter_listUnr (vs := [Value.str _ _, Value.str _ _]) (by rfl) lF9z' lN9z' (by k_mem) (by rfl) (by rfl) ?_); clear lF9z' lN9z'; intro i9z' lI9z'; (have lJ9z' := allLt_of lI9z'); (try simp only [AllLt, and_true] at lJ9z'))) | k_dflt ((k_here; (with_reducible show wpAny _ _ (pyIter (Value.ref _)) (fun it s₂ => LoopAtV _ _ _ _ _ _ _ _ _ it s₂) _ _); (rename Fr _ _ _ _ => lF9z'); (rename News _ _ _ _ => lN9z'); (with_unfolding_all first | refine iter_listUnr (vs := [Value.str _ _]) (by rfl) lF9z' lN9z' (by k_mem) (by rfl) (by rfl) ?_ | refine iter_listUnr (vs := [Value.str _ _, Value.str _ _]) (by rfl) lF9z' lN9z' (by k_mem) (by rfl) (by rfl) ?_); clear lF9z' lN9z'; intro i9z' lI9z'; (have lJ9z' := allLt_of lI9z'); (try simp only [AllLt, and_true] at lJ9z')))) | (refine goM ?_; k_dflt walk1) | (k_dflt (dsimp only); refine stp ?_)) | (k_unfold; (first | with_reducible refine (?_ : wpAny _ _ _ _ _ _) | (try dsimp only))) | (k_end; wrow_close) | walk1 | (dsimp only; walk1) | (leave1; walk_say "STEP leave1"; try dsimp only) | fail "no step"))
  all_goals first | exact ret _ _ _ _ (by k_asm) (nbc (by k_asm) (hback _)) (fun p hp => allLt_all _ (by assumption) p (hback _ p hp)) | exact ret _ _ _ _ (by k_asm) (nbc1 (by k_asm) (hback _)) (fun p hp => allLt_all _ (by assumption) p (hback _ p hp))
end

section
variable {w : World} {p : Program} {loose : List Str} {mean : ExcName → Option Value} {mg mb : Str → Option Value}
  {env : Env} {outer : List Env} {gd : Option (List Code)} {A₀ : Around} {base h₀ : Heap} {L : Addr} {m : Str → Option Value} {news : List (Addr × Obj)} {g : Obj → List (Addr × Obj)} {s : Shared} {Q E : Value → Shared → Prop}
  {D U : Nat} {r dr lt nd : Addr} {t1 t2 t3 tk ka : Tok} {q k : Int} {n : Nat} {l : List Tk}
theorem one_of_0 {kt : Tok} (hD : D ≤ 940) (hU : U ≤ 4700) (B : Below A₀ base outer h₀) (F : Fr h₀ L s.heap m) (X : (kdef.heap_1 w.params).In h₀) (N : News h₀ L s.heap news) (hr : (r, instObj 371 dr) ∈ news) (hd : (dr, rdO w.params t1 t2 t3 lt q tk nd) ∈ news) 
  (T : Top p loose mean mg mb h₀) (hf : env.frame = some L) (hke : env.scope.kind = .function) (tb : TB w.params h₀ lt l) (h0 : 0 ≤ q) (h2 : q < 10000)
  (hb : isWord l (q + 0) (Str.ofString "OF") = false) (hb2 : isWord l (q + 0) (Str.ofString "IN") = false)
  (ret : ∀ h' tk' (tk2 : Tok) tk3, Fr h₀ L h' m → News h₀ L h' (news) → Q (.str (Str.ofString "") tk3) { s with heap := h', toks := tk' }) :
  wpAny (model PG w) (ctx D U env outer gd) (call (.ref 282) [.ref r, .str (Str.ofString "OF IN") kt]) Q E s := by
  refine ctx_mono hD hU ?_
  refine wpAny_call ?_
  k_dflt k_enter
  (repeat' (first | (with_reducible refine unstp ?_; first | ((k_here; (with_reducible show wpAny _ _ (call (Value.builtin "str.split") [Value.str (Str.ofString "OF IN") _, _]) _ _ _); k_dflt (refine' split_two (z1 := Str.ofString "OF") (z2 := Str.ofString "IN") ?F ?N ?hy ?hsp ?hz ?_; (case F => k_asm); (case N => k_asm); (case hy => decide); (case hsp => decide +kernel); (case hz => decide +kernel); k_whole); intro D9z' tz9z' tz29z' h9z' k9z' F9z' N9z' l19z; (try k_lt l19z))) | ((k_here; k_dflt (refine whl_start 100 ?_))) | ((k_here; k_dflt (refine' name_c ?hD ?hU ?B ?F ?X ?N ?hr ?hu ?T ?hf ?hke ?tb ?h0 ?h2 ?hb ?ho ?_; (case hD => exact Nat.le_of_ble_eq_true rfl); (case hU => exact Nat.le_of_ble_eq_true rfl); (case B => k_asm); (case F => k_asm); (case X => k_asm); (case N => k_asm); (case hr => k_mem); (case hu => k_updF); (case T => k_asm); (case hf => rfl); (case hke => rfl); (case tb => assumption); (case h0 => omega); (case h2 => omega); (case hb => assumption); (case ho => assumption); k_whole); intro h9z' tk9z' tk29z' F9z' N9z'; (try dsimp only at N9z'))) | ((k_here; k_dflt (refine' is_name_c ?hD ?hU ?B ?F ?X ?N ?hr ?hd ?T ?hf ?hke ?tb ?h0 ?h2 ?hb ?_; (case hD => exact Nat.le_of_ble_eq_true rfl); (case hU => exact Nat.le_of_ble_eq_true rfl); (case B => k_asm); (case F => k_asm); (case X => k_asm); (case N => k_asm); (case hr => k_mem); (case hd => k_mem); (case T => k_asm); (case hf => rfl); (case hke => rfl); (case tb => assumption); (case h0 => omega); (case h2 => omega); (case hb => first | assumption | exact rfl); k_whole); intro h9z' tk9z' F9z' N9z'; (try dsimp only [tkv]))) | ((k_here; k_dflt (refine' skip_t ?hD ?hU ?B ?F ?X ?N ?hr ?hu ?T ?hf ?hke ?tb ?h0 ?h2 ?hsp ?hz ?hb ?_; (case hD => exact Nat.le_of_ble_eq_true rfl); (case hU => exact Nat.le_of_ble_eq_true rfl); (case B => k_asm); (case F => k_asm); (case X => k_asm); (case N => k_asm); (case hr => k_mem); (case hu => k_updF); (case T => k_asm); (case hf => rfl); (case hke => rfl); (case tb => assumption); (case h0 => omega); (case h2 => omega); (case hsp => first | assumption | decide +kernel); (case hz => first | assumption | decide +kernel); (case hb => assumption); k_whole); intro h9z' tk9z' tk29z' F9z' N9z'; (try dsimp only at N9z'))) | ((k_here; k_dflt (refine' skip_f ?hD ?hU ?B ?F ?X ?N ?hr ?hd ?T ?hf ?hke ?tb ?h0 ?h2 ?hsp ?hz ?hb ?_; (case hD => exact Nat.le_of_ble_eq_true rfl); (case hU => exact Nat.le_of_ble_eq_true rfl); (case B => k_asm); (case F => k_asm); (case X => k_asm); (case N => k_asm); (case hr => k_mem); (case hd => k_mem); (case T => k_asm); (case hf => rfl); (case hke => rfl); (case tb => assumption); (case h0 => omega); (case h2 => omega); (case hsp => first | assumption | decide +kernel); (case hz => first | assumption | decide +kernel); (case hb => assumption); k_whole); intro h9z' tk9z' F9z' N9z'; (try dsimp only [tkv]))) | (k_dflt ((k_here; refine UnrEnd.intro (by k_asm) (by k_asm) _ (fun _ h => h) (fun p hp => Nat.ne_of_lt ((by assumption : ∀ p ∈ _, p.1 < _) p hp)) ⟨by k_mem, ?_⟩))) | (first | ((k_here; (with_reducible show wpAny _ _ (pyIter (Value.ref _)) (fun it s₂ => LoopAtV _ _ _ _ _ _ _ _ _ it s₂) _ _); (rename Fr _ _ _ _ => lF9z'); (rename News _ _ _ _ => lN9z'); (with_unfolding_all first | refine iter_listUnr (vs := [Value.str _ _]) (by rfl) lF9z' lN9z' (by k_mem) (by rfl) (by rfl) ?_ | refine iter_listUnr (vs := [Value.str _ _, Value.str _ _]) (by rfl) lF9z' lN9z' (by k_mem) (by rfl) (by rfl) ?_); clear lF9z' lN9z'; intro i9z' lI9z'; (have lJ9z' := allLt_of lI9z'); (try simp only [AllLt, and_true] at lJ9z'))) | k_dflt ((k_here; (with_reducible show wpAny _ _ (pyIter (Value.ref _)) (fun it s₂ => LoopAtV _ _ _ _ _ _ _ _ _ it s₂) _ _); (rename Fr _ _ _ _ => lF9z'); (rename News _ _ _ _ => lN9z'); (with_unfolding_all first | refine iter_listUnr (vs := [Value.str _ _]) (by rfl) lF9z' lN9z' (by k_mem) (by rfl) (by rfl) ?_ | refine iter_listUnr (vs := [Value.str _ _, Value.str _ _]) (by rfl) lF9z' lN9z' (by k_mem) (by rfl) (by rfl) ?_); clear lF9z' lN9z'; intro i9z' lI9z'; (have lJ9z' := allLt_of lI9z'); (try simp only [AllLt, and_true] at lJ9z')))) | (refine goM ?_; k_dflt walk1) | (k_dflt (dsimp only); refine stp ?_)) | (k_unfold; (first | with_reducible refine (?_ : wpAny _ _ _ _ _ _) | (try dsimp only))) | (k_end; wrow_close) | walk1 | (dsimp only; walk1) | (leave1; walk_say "STEP leave1"; try dsimp only) | fail "no step"))
  all_goals first | exact ret _ _ 0 _ (by k_asm) (nb0 (by k_asm) (fun _ h => h)) | exact ret _ _ 0 _ (by k_asm) (nb1 (by k_asm) (fun _ h => h)) | exact ret _ _ 0 _ (by k_asm) (nb2 (by k_asm) (fun _ h => h)) | exact ret _ _ 0 _ (by k_asm) (nb3 (by k_asm) (fun _ h => h))
theorem one_of_OF {kt : Tok} (hD : D ≤ 940) (hU : U ≤ 4700) (B : Below A₀ base outer h₀) (F : Fr h₀ L s.heap m) (X : (kdef.heap_1 w.params).In h₀) (N : News h₀ L s.heap news) (hr : (r, instObj 371 dr) ∈ news) (hu : UpdF dr (rdO w.params t1 t2 t3 lt q tk nd) news g) 
  (T : Top p loose mean mg mb h₀) (hf : env.frame = some L) (hke : env.scope.kind = .function) (tb : TB w.params h₀ lt l) (h0 : 0 ≤ q) (h2 : q < 10000)
  (hb : isWord l (q + 0) (Str.ofString "OF") = true)
  (ret : ∀ h' tk' (tk2 : Tok) tk3, Fr h₀ L h' m → News h₀ L h' (g (rdO w.params t1 t2 t3 lt (q + 1) tk2 nd)) → Q (.str (Str.ofString "OF") tk3) { s with heap := h', toks := tk' }) :
  wpAny (model PG w) (ctx D U env outer gd) (call (.ref 282) [.ref r, .str (Str.ofString "OF IN") kt]) Q E s := by
  refine ctx_mono hD hU ?_
  obtain ⟨rest, hrest, hd, hne, N1, hback⟩ := canon N hr hu
  clear N hr hu hd
  have hne1 := neN hne
  refine wpAny_call ?_
  k_dflt k_enter
  (repeat' (first | (with_reducible refine unstp ?_; first | ((k_here; (with_reducible show wpAny _ _ (call (Value.builtin "str.split") [Value.str (Str.ofString "OF IN") _, _]) _ _ _); k_dflt (refine' split_two (z1 := Str.ofString "OF") (z2 := Str.ofString "IN") ?F ?N ?hy ?hsp ?hz ?_; (case F => k_asm); (case N => k_asm); (case hy => decide); (case hsp => decide +kernel); (case hz => decide +kernel); k_whole); intro D9z' tz9z' tz29z' h9z' k9z' F9z' N9z' l19z; (try k_lt l19z))) | ((k_here; k_dflt (refine whl_start 100 ?_))) | ((k_here; k_dflt (refine' name_c ?hD ?hU ?B ?F ?X ?N ?hr ?hu ?T ?hf ?hke ?tb ?h0 ?h2 ?hb ?ho ?_; (case hD => exact Nat.le_of_ble_eq_true rfl); (case hU => exact Nat.le_of_ble_eq_true rfl); (case B => k_asm); (case F => k_asm); (case X => k_asm); (case N => k_asm); (case hr => k_mem); (case hu => k_updF); (case T => k_asm); (case hf => rfl); (case hke => rfl); (case tb => assumption); (case h0 => omega); (case h2 => omega); (case hb => assumption); (case ho => assumption); k_whole); intro h9z' tk9z' tk29z' F9z' N9z'; (try dsimp only at N9z'))) | ((k_here; k_dflt (refine' is_name_c ?hD ?hU ?B ?F ?X ?N ?hr ?hd ?T ?hf ?hke ?tb ?h0 ?h2 ?hb ?_; (case hD => exact Nat.le_of_ble_eq_true rfl); (case hU => exact Nat.le_of_ble_eq_true rfl); (case B => k_asm); (case F => k_asm); (case X => k_asm); (case N => k_asm); (case hr => k_mem); (case hd => k_mem); (case T => k_asm); (case hf => rfl); (case hke => rfl); (case tb => assumption); (case h0 => omega); (case h2 => omega); (case hb => first | assumption | exact rfl); k_whole); intro h9z' tk9z' F9z' N9z'; (try dsimp only [tkv]))) | ((k_here; k_dflt (refine' skip_t ?hD ?hU ?B ?F ?X ?N ?hr ?hu ?T ?hf ?hke ?tb ?h0 ?h2 ?hsp ?hz ?hb ?_; (case hD => exact Nat.le_of_ble_eq_true rfl); (case hU => exact Nat.le_of_ble_eq_true rfl); (case B => k_asm); (case F => k_asm); (case X => k_asm); (case N => k_asm); (case hr => k_mem); (case hu => k_updF); (case T => k_asm); (case hf => rfl); (case hke => rfl); (case tb => assumption); (case h0 => omega); (case h2 => omega); (case hsp => first | assumption | decide +kernel); (case hz => first | assumption | decide +kernel); (case hb => assumption); k_whole); intro h9z' tk9z' tk29z' F9z' N9z'; (try dsimp only at N9z'))) | ((k_here; k_dflt (refine' skip_f ?hD ?hU ?B ?F ?X ?N ?hr ?hd ?T ?hf ?hke ?tb ?h0 ?h2 ?hsp ?hz ?hb ?_; (case hD => exact Nat.le_of_ble_eq_true rfl); (case hU => exact Nat.le_of_ble_eq_true rfl); (case B => k_asm); (case F => k_asm); (case X => k_asm); (case N => k_asm); (case hr => k_mem); (case hd => k_mem); (case T => k_asm); (case hf => rfl); (case hke => rfl); (case tb => assumption); (case h0 => omega); (case h2 => omega); (case hsp => first | assumption | decide +kernel); (case hz => first | assumption | decide +kernel); (case hb => assumption); k_whole); intro h9z' tk9z' F9z' N9z'; (try dsimp only [tkv]))) | (k_dflt ((k_here; refine UnrEnd.intro (by k_asm) (by k_asm) _ (fun _ h => h) (fun p hp => Nat.ne_of_lt ((by assumption : ∀ p ∈ _, p.1 < _) p hp)) ⟨by k_mem, ?_⟩))) | (first | ((k_here; (with_reducible show wpAny _ _ (pyIter (Value.ref _)) (fun it s₂ => LoopAtV _ _ _ _ _ _ _ _ _ it s₂) _ _); (rename Fr _ _ _ _ => lF9z'); (rename News _ _ _ _ => lN9z'); (with_unfolding_all first | refine iter_listUnr (vs := [Value.str _ _]) (by rfl) lF9z' lN9z' (by k_mem) (by rfl) (by rfl) ?_ | refine iter_listUnr (vs := [Value.str _ _, Value.str _ _]) (by rfl) lF9z' lN9z' (by k_mem) (by rfl) (by rfl) ?_); clear lF9z' lN9z'; intro i9z' lI9z'; (have lJ9z' := allLt_of lI9z'); (try simp only [AllLt, and_true] at lJ9z'))) | k_dflt ((k_here; (with_reducible show wpAny _ _ (pyIter (Value.ref _)) (fun it s₂ => LoopAtV _ _ _ _ _ _ _ _ _ it s₂) _ _); (rename Fr _ _ _ _ => lF9z'); (rename News _ _ _ _ => lN9z'); (with_unfolding_all first | refine iter_listUnr (vs := [Value.str _ _]) (by rfl) lF9z' lN9z' (by k_mem) (by rfl) (by rfl) ?_ | refine iter_listUnr (vs := [Value.str _ _, Value.str _ _]) (by rfl) lF9z' lN9z' (by k_mem) (by rfl) (by rfl) ?_); clear lF9z' lN9z'; intro i9z' lI9z'; (have lJ9z' := allLt_of lI9z'); (try simp only [AllLt, and_true] at lJ9z')))) | (refine goM ?_; k_dflt walk1) | (k_dflt (dsimp only); refine stp ?_)) | (k_unfold; (first | with_reducible refine (?_ : wpAny _ _ _ _ _ _) | (try dsimp only))) | (k_end; wrow_close) | walk1 | (dsimp only; walk1) | (leave1; walk_say "STEP leave1"; try dsimp only) | fail "no step"))
  all_goals first | exact ret _ _ _ _ (by k_asm) (nb0 (by k_asm) (hback _)) | exact ret _ _ _ _ (by k_asm) (nb1 (by k_asm) (hback _)) | exact ret _ _ _ _ (by k_asm) (nb2 (by k_asm) (hback _)) | exact ret _ _ _ _ (by k_asm) (nb3 (by k_asm) (hback _))
theorem one_of_IN {kt : Tok} (hD : D ≤ 940) (hU : U ≤ 4700) (B : Below A₀ base outer h₀) (F : Fr h₀ L s.heap m) (X : (kdef.heap_1 w.params).In h₀) (N : News h₀ L s.heap news) (hr : (r, instObj 371 dr) ∈ news) (hu : UpdF dr (rdO w.params t1 t2 t3 lt q tk nd) news g) 
  (T : Top p loose mean mg mb h₀) (hf : env.frame = some L) (hke : env.scope.kind = .function) (tb : TB w.params h₀ lt l) (h0 : 0 ≤ q) (h2 : q < 10000)
  (hb : isWord l (q + 0) (Str.ofString "OF") = false) (hb2 : isWord l (q + 0) (Str.ofString "IN") = true)
  (ret : ∀ h' tk' (tk2 : Tok) tk3, Fr h₀ L h' m → News h₀ L h' (g (rdO w.params t1 t2 t3 lt (q + 1) tk2 nd)) → Q (.str (Str.ofString "IN") tk3) { s with heap := h', toks := tk' }) :
  wpAny (model PG w) (ctx D U env outer gd) (call (.ref 282) [.ref r, .str (Str.ofString "OF IN") kt]) Q E s := by
  refine ctx_mono hD hU ?_
  obtain ⟨rest, hrest, hd, hne, N1, hback⟩ := canon N hr hu
  clear N hr hu hd
  have hne1 := neN hne
  refine wpAny_call ?_
  k_dflt k_enter
  (repeat' (first | (with_reducible refine unstp ?_; first | ((k_here; (with_reducible show wpAny _ _ (call (Value.builtin "str.split") [Value.str (Str.ofString "OF IN") _, _]) _ _ _); k_dflt (refine' split_two (z1 := Str.ofString "OF") (z2 := Str.ofString "IN") ?F ?N ?hy ?hsp ?hz ?_; (case F => k_asm); (case N => k_asm); (case hy => decide); (case hsp => decide +kernel); (case hz => decide +kernel); k_whole); intro D9z' tz9z' tz29z' h9z' k9z' F9z' N9z' l19z; (try k_lt l19z))) | ((k_here; k_dflt (refine whl_start 100 ?_))) | ((k_here; k_dflt (refine' name_c ?hD ?hU ?B ?F ?X ?N ?hr ?hu ?T ?hf ?hke ?tb ?h0 ?h2 ?hb ?ho ?_; (case hD => exact Nat.le_of_ble_eq_true rfl); (case hU => exact Nat.le_of_ble_eq_true rfl); (case B => k_asm); (case F => k_asm); (case X => k_asm); (case N => k_asm); (case hr => k_mem); (case hu => k_updF); (case T => k_asm); (case hf => rfl); (case hke => rfl); (case tb => assumption); (case h0 => omega); (case h2 => omega); (case hb => assumption); (case ho => assumption); k_whole); intro h9z' tk9z' tk29z' F9z' N9z'; (try dsimp only at N9z'))) | ((k_here; k_dflt (refine' is_name_c ?hD ?hU ?B ?F ?X ?N ?hr ?hd ?T ?hf ?hke ?tb ?h0 ?h2 ?hb ?_; (case hD => exact Nat.le_of_ble_eq_true rfl); (case hU => exact Nat.le_of_ble_eq_true rfl); (case B => k_asm); (case F => k_asm); (case X => k_asm); (case N => k_asm); (case hr => k_mem); (case hd => k_mem); (case T => k_asm); (case hf => rfl); (case hke => rfl); (case tb => assumption); (case h0 => omega); (case h2 => omega); (case hb => first | assumption | exact rfl); k_whole); intro h9z' tk9z' F9z' N9z'; (try dsimp only [tkv]))) | ((k_here; k_dflt (refine' skip_t ?hD ?hU ?B ?F ?X ?N ?hr ?hu ?T ?hf ?hke ?tb ?h0 ?h2 ?hsp ?hz ?hb ?_; (case hD => exact Nat.le_of_ble_eq_true rfl); (case hU => exact Nat.le_of_ble_eq_true rfl); (case B => k_asm); (case F => k_asm); (case X => k_asm); (case N => k_asm); (case hr => k_mem); (case hu => k_updF); (case T => k_asm); (case hf => rfl); (case hke => rfl); (case tb => assumption); (case h0 => omega); (case h2 => omega); (case hsp => first | assumption | decide +kernel); (case hz => first | assumption | decide +kernel); (case hb => assumption); k_whole); intro h9z' tk9z' tk29z' F9z' N9z'; (try dsimp only at N9z'))) | ((k_here; k_dflt (refine' skip_f ?hD ?hU ?B ?F ?X ?N ?hr ?hd ?T ?hf ?hke ?tb ?h0 ?h2 ?hsp ?hz ?hb ?_; (case hD => exact Nat.le_of_ble_eq_true rfl); (case hU => exact Nat.le_of_ble_eq_true rfl); (case B => k_asm); (case F => k_asm); (case X => k_asm); (case N => k_asm); (case hr => k_mem); (case hd => k_mem); (case T => k_asm); (case hf => rfl); (case hke => rfl); (case tb => assumption); (case h0 => omega); (case h2 => omega); (case hsp => first | assumption | decide +kernel); (case hz => first | assumption | decide +kernel); (case hb => assumption); k_whole); intro h9z' tk9z' F9z' N9z'; (try dsimp only [tkv]))) | (k_dflt ((k_here; refine UnrEnd.intro (by k_asm) (by k_asm) _ (fun _ h => h) (fun p hp => Nat.ne_of_lt ((by assumption : ∀ p ∈ _, p.1 < _) p hp)) ⟨by k_mem, ?_⟩))) | (first | ((k_here; (with_reducible show wpAny _ _ (pyIter (Value.ref _)) (fun it s₂ => LoopAtV _ _ _ _ _ _ _ _ _ it s₂) _ _); (rename Fr _ _ _ _ => lF9z'); (rename News _ _ _ _ => lN9z'); (with_unfolding_all first | refine iter_listUnr (vs := [Value.str _ _]) (by rfl) lF9z' lN9z' (by k_mem) (by rfl) (by rfl) ?_ | refine iter_listUnr (vs := [Value.str _ _, Value.str _ _]) (by rfl) lF9z' lN9z' (by k_mem) (by rfl) (by rfl) ?_); clear lF9z' lN9z'; intro i9z' lI9z'; (have lJ9z' := allLt_of lI9z'); (try simp only [AllLt, and_true] at lJ9z'))) | k_dflt ((k_here; (with_reducible show wpAny _ _ (pyIter (Value.ref _)) (fun it s₂ => LoopAtV _ _ _ _ _ _ _ _ _ it s₂) _ _); (rename Fr _ _ _ _ => lF9z'); (rename News _ _ _ _ => lN9z'); (with_unfolding_all first | refine iter_listUnr (vs := [Value.str _ _]) (by rfl) lF9z' lN9z' (by k_mem) (by rfl) (by rfl) ?_ | refine iter_listUnr (vs := [Value.str _ _, Value.str _ _]) (by rfl) lF9z' lN9z' (by k_mem) (by rfl) (by rfl) ?_); clear lF9z' lN9z'; intro i9z' lI9z'; (have lJ9z' := allLt_of lI9z'); (try simp only [AllLt, and_true] at lJ9z')))) | (refine goM ?_; k_dflt walk1) | (k_dflt (dsimp only); refine stp ?_)) | (k_unfold; (first | with_reducible refine (?_ : wpAny _ _ _ _ _ _) | (try dsimp only))) | (k_end; wrow_close) | walk1 | (dsimp only; walk1) | (leave1; walk_say "STEP leave1"; try dsimp only) | fail "no step"))
  all_goals first | exact ret _ _ _ _ (by k_asm) (nb0 (by k_asm) (hback _)) | exact ret _ _ _ _ (by k_asm) (nb1 (by k_asm) (hback _)) | exact ret _ _ _ _ (by k_asm) (nb2 (by k_asm) (hback _)) | exact ret _ _ _ _ (by k_asm) (nb3 (by k_asm) (hback _))
end


theorem nbc2 {h₀ h : Heap} {L : Addr} {a b d : Addr × Obj} {c big : List (Addr × Obj)} (N : News h₀ L h (a :: b :: d :: c)) (hb : ∀ x ∈ big, x ∈ c) : News h₀ L h (a :: big) := nbc1 (fun x hx => by
  rcases List.mem_cons.mp hx with e | hx
  · rw [e]; exact N _ (.head _)
  · rcases List.mem_cons.mp hx with e | hx
    · rw [e]; exact N _ (.tail _ (.head _))
    · exact N x (.tail _ (.tail _ (.tail _ hx)))) hb
theorem nbc3 {h₀ h : Heap} {L : Addr} {a b d e : Addr × Obj} {c big : List (Addr × Obj)} (N : News h₀ L h (a :: b :: d :: e :: c)) (hb : ∀ x ∈ big, x ∈ c) : News h₀ L h (a :: big) := nbc2 (fun x hx => by
  rcases List.mem_cons.mp hx with q | hx
  · rw [q]; exact N _ (.head _)
  · rcases List.mem_cons.mp hx with q | hx
    · rw [q]; exact N _ (.tail _ (.head _))
    · rcases List.mem_cons.mp hx with q | hx
      · rw [q]; exact N _ (.tail _ (.tail _ (.head _)))
      · exact N x (.tail _ (.tail _ (.tail _ (.tail _ hx))))) hb
theorem int_end {Q : Value → Shared → Prop} {v u : Int} {t : Tok} {s' : Shared} (h : Q (.int u t) s') (e : v = u) : Q (.int v t) s' := e ▸ h
theorem idx_c {prog : Program} {w : World} {A : Around} {E : Value → Shared → Prop} {s : Shared} {x y : Str} {t u : Tok} {Q : Value → Shared → Prop} (hA : A.handled = none) (hf : (Builtin.Str.occurrences x y 0 x.length 1).isEmpty = false)
    (h : Q (.int (Txt.find x y) s.toks) { s with toks := s.toks + 1 }) : wpAny (model prog w) A (call (.builtin "str.index") [.str x t, .str y u]) Q E s :=
  index_or hA (fun _ e => by rw [hf] at e; cases e) (fun _ _ => h)
local macro_rules | `(tactic| walk_at "call builtin:str.index") => `(tactic| (goal_lacks GoM; refine stp ?_))
local macro_rules | `(tactic| walk_at "ite") => `(tactic| (k_closed; k_dflt (first | refine ite_pos (by decide) ?_ | refine ite_neg (by decide) ?_ | refine ite_pos (by decide +kernel) ?_ | refine ite_neg (by decide +kernel) ?_)))
local macro_rules | `(tactic| walk_at "subscriptTail Name Name str int") => `(tactic| (goal_lacks GoM; refine stp ?_))

section
variable {w : World} {p : Program} {loose : List Str} {mean : ExcName → Option Value} {mg mb : Str → Option Value}
  {env : Env} {outer : List Env} {gd : Option (List Code)} {A₀ : Around} {base h₀ : Heap} {L : Addr} {m : Str → Option Value} {news : List (Addr × Obj)} {g : Obj → List (Addr × Obj)} {s : Shared} {Q E : Value → Shared → Prop}
  {D U : Nat} {r dr lt nd : Addr} {t1 t2 t3 tk ka : Tok} {q k : Int} {n : Nat} {l : List Tk}
local macro_rules | `(tactic| walk_at "exec For Name Name cons nil") => `(tactic| (goal_lacks GoM; refine stp ?_))
local macro_rules | `(tactic| walk_at "pyIter str") => `(tactic| (goal_lacks GoM; refine stp ?_))
theorem wo_3 {x : Str} {kt : Tok} (hD : D ≤ 930) (hU : U ≤ 4650) (B : Below A₀ base outer h₀) (F : Fr h₀ L s.heap m) (X : (kdef.heap_1 w.params).In h₀) (N : News h₀ L s.heap news)
  (T : Top p loose mean mg mb h₀) (hf : env.frame = some L) (hke : env.scope.kind = .function) (hx : x = Str.ofString "3")
  (ret : ∀ h' tk' u1, Fr h₀ L h' m → News h₀ L h' news → Q (.int 3 u1) { s with heap := h', toks := tk' }) :
  wpAny (model PG w) (ctx D U env outer gd) (call (.ref 188) [.str x kt]) Q E s := by
  refine ctx_mono hD hU ?_
  subst hx
  refine wpAny_call ?_
  k_dflt k_enter
  (repeat' (first | (with_reducible refine unstp ?_; first | (((with_reducible show wpAny _ _ (pyIter (Value.str _ _)) (fun it s₂ => LoopAtV _ _ _ _ _ _ _ _ _ it s₂) _ _); k_here; k_strUnr)) | ((k_here; (rename Fr _ _ _ _ => lF9z'); (with_unfolding_all refine' For_invVF lF9z' ?k1 ?k2 ?_; (case k1 => exact rfl); (case k2 => exact rfl); k_whole))) | (k_dflt ((k_here; refine UnrEnd.intro (by k_asm) (by k_asm) _ (fun _ h => h) (fun p hp => Nat.ne_of_lt (by first | exact (by assumption : ∀ p ∈ _, p.1 < _) p hp | exact allLt_all _ (by assumption) p hp)) ?_))) | ((k_here; (with_reducible show wpAny _ _ (subscriptTail (PySem.Expr.Name _ _) _ (Value.str _ _) (Value.int _ _)) _ _ _); k_dflt (refine' item_str ?a ?b ?c ?_ ?d ?e; (case a => decide +kernel); (case b => decide +kernel); (case c => decide +kernel); (case d => with_unfolding_all rfl); (case e => (intro _; with_unfolding_all rfl)); k_whole); intro _)) | ((k_here; k_dflt (refine' idx_c ?hA ?hf ?_; (case hA => rfl); (case hf => decide +kernel); k_whole))) | ((k_here; k_dflt (refine whl_start 100 ?_))) | (refine goM ?_; k_dflt walk1) | (k_dflt (dsimp only); refine stp ?_)) | (k_unfold; (first | with_reducible refine (?_ : wpAny _ _ _ _ _ _) | (try dsimp only))) | (k_end; wrow_close) | walk1 | (dsimp only; walk1) | (leave1; walk_say "STEP leave1"; try dsimp only) | fail "no step"))
  all_goals first | exact int_end (ret _ _ _ (by k_asm) (nb0 (by k_asm) (fun _ h => h))) (by decide +kernel) | exact int_end (ret _ _ _ (by k_asm) (nb1 (by k_asm) (fun _ h => h))) (by decide +kernel)
theorem wo_15 {x : Str} {kt : Tok} (hD : D ≤ 930) (hU : U ≤ 4650) (B : Below A₀ base outer h₀) (F : Fr h₀ L s.heap m) (X : (kdef.heap_1 w.params).In h₀) (N : News h₀ L s.heap news)
  (T : Top p loose mean mg mb h₀) (hf : env.frame = some L) (hke : env.scope.kind = .function) (hx : x = Str.ofString "15")
  (ret : ∀ h' tk' u1, Fr h₀ L h' m → News h₀ L h' news → Q (.int 15 u1) { s with heap := h', toks := tk' }) :
  wpAny (model PG w) (ctx D U env outer gd) (call (.ref 188) [.str x kt]) Q E s := by
  refine ctx_mono hD hU ?_
  subst hx
  refine wpAny_call ?_
  k_dflt k_enter
  (repeat' (first | (with_reducible refine unstp ?_; first | (((with_reducible show wpAny _ _ (pyIter (Value.str _ _)) (fun it s₂ => LoopAtV _ _ _ _ _ _ _ _ _ it s₂) _ _); k_here; k_strUnr)) | ((k_here; (rename Fr _ _ _ _ => lF9z'); (with_unfolding_all refine' For_invVF lF9z' ?k1 ?k2 ?_; (case k1 => exact rfl); (case k2 => exact rfl); k_whole))) | (k_dflt ((k_here; refine UnrEnd.intro (by k_asm) (by k_asm) _ (fun _ h => h) (fun p hp => Nat.ne_of_lt (by first | exact (by assumption : ∀ p ∈ _, p.1 < _) p hp | exact allLt_all _ (by assumption) p hp)) ?_))) | ((k_here; (with_reducible show wpAny _ _ (subscriptTail (PySem.Expr.Name _ _) _ (Value.str _ _) (Value.int _ _)) _ _ _); k_dflt (refine' item_str ?a ?b ?c ?_ ?d ?e; (case a => decide +kernel); (case b => decide +kernel); (case c => decide +kernel); (case d => with_unfolding_all rfl); (case e => (intro _; with_unfolding_all rfl)); k_whole); intro _)) | ((k_here; k_dflt (refine' idx_c ?hA ?hf ?_; (case hA => rfl); (case hf => decide +kernel); k_whole))) | ((k_here; k_dflt (refine whl_start 100 ?_))) | (refine goM ?_; k_dflt walk1) | (k_dflt (dsimp only); refine stp ?_)) | (k_unfold; (first | with_reducible refine (?_ : wpAny _ _ _ _ _ _) | (try dsimp only))) | (k_end; wrow_close) | walk1 | (dsimp only; walk1) | (leave1; walk_say "STEP leave1"; try dsimp only) | fail "no step"))
  all_goals first | exact int_end (ret _ _ _ (by k_asm) (nb0 (by k_asm) (fun _ h => h))) (by decide +kernel) | exact int_end (ret _ _ _ (by k_asm) (nb1 (by k_asm) (fun _ h => h))) (by decide +kernel)
end

section
variable {w : World} {p : Program} {loose : List Str} {mean : ExcName → Option Value} {mg mb : Str → Option Value}
  {env : Env} {outer : List Env} {gd : Option (List Code)} {A₀ : Around} {base h₀ : Heap} {L : Addr} {m : Str → Option Value} {news : List (Addr × Obj)} {g : Obj → List (Addr × Obj)} {s : Shared} {Q E : Value → Shared → Prop}
  {D U : Nat} {r dr lt nd : Addr} {t1 t2 t3 tk ka : Tok} {q k : Int} {n : Nat} {l : List Tk}
local macro_rules | `(tactic| walk_at "exec For Name Name cons nil") => `(tactic| (goal_lacks GoM; refine stp ?_))
local macro_rules | `(tactic| walk_at "pyIter str") => `(tactic| (goal_lacks GoM; refine stp ?_))
theorem wo_0 {x : Str} {kt : Tok} (hD : D ≤ 930) (hU : U ≤ 4650) (B : Below A₀ base outer h₀) (F : Fr h₀ L s.heap m) (X : (kdef.heap_1 w.params).In h₀) (N : News h₀ L s.heap news)
  (T : Top p loose mean mg mb h₀) (hf : env.frame = some L) (hke : env.scope.kind = .function) (hx : x = Str.ofString "0")
  (ret : ∀ h' tk' u1, Fr h₀ L h' m → News h₀ L h' news → Q (.int 0 u1) { s with heap := h', toks := tk' }) :
  wpAny (model PG w) (ctx D U env outer gd) (call (.ref 188) [.str x kt]) Q E s := by
  refine ctx_mono hD hU ?_
  subst hx
  refine wpAny_call ?_
  k_dflt k_enter
  (repeat' (first | (with_reducible refine unstp ?_; first | (((with_reducible show wpAny _ _ (pyIter (Value.str _ _)) (fun it s₂ => LoopAtV _ _ _ _ _ _ _ _ _ it s₂) _ _); k_here; k_strUnr)) | ((k_here; (rename Fr _ _ _ _ => lF9z'); (with_unfolding_all refine' For_invVF lF9z' ?k1 ?k2 ?_; (case k1 => exact rfl); (case k2 => exact rfl); k_whole))) | (k_dflt ((k_here; refine UnrEnd.intro (by k_asm) (by k_asm) _ (fun _ h => h) (fun p hp => Nat.ne_of_lt (by first | exact (by assumption : ∀ p ∈ _, p.1 < _) p hp | exact allLt_all _ (by assumption) p hp)) ?_))) | ((k_here; (with_reducible show wpAny _ _ (subscriptTail (PySem.Expr.Name _ _) _ (Value.str _ _) (Value.int _ _)) _ _ _); k_dflt (refine' item_str ?a ?b ?c ?_ ?d ?e; (case a => decide +kernel); (case b => decide +kernel); (case c => decide +kernel); (case d => with_unfolding_all rfl); (case e => (intro _; with_unfolding_all rfl)); k_whole); intro _)) | ((k_here; k_dflt (refine' idx_c ?hA ?hf ?_; (case hA => rfl); (case hf => decide +kernel); k_whole))) | ((k_here; k_dflt (refine whl_start 100 ?_))) | (refine goM ?_; k_dflt walk1) | (k_dflt (dsimp only); refine stp ?_)) | (k_unfold; (first | with_reducible refine (?_ : wpAny _ _ _ _ _ _) | (try dsimp only))) | (k_end; wrow_close) | walk1 | (dsimp only; walk1) | (leave1; walk_say "STEP leave1"; try dsimp only) | fail "no step"))
  all_goals first | exact int_end (ret _ _ _ (by k_asm) (nb0 (by k_asm) (fun _ h => h))) (by decide +kernel) | exact int_end (ret _ _ _ (by k_asm) (nb1 (by k_asm) (fun _ h => h))) (by decide +kernel)
theorem wo_1 {x : Str} {kt : Tok} (hD : D ≤ 930) (hU : U ≤ 4650) (B : Below A₀ base outer h₀) (F : Fr h₀ L s.heap m) (X : (kdef.heap_1 w.params).In h₀) (N : News h₀ L s.heap news)
  (T : Top p loose mean mg mb h₀) (hf : env.frame = some L) (hke : env.scope.kind = .function) (hx : x = Str.ofString "1")
  (ret : ∀ h' tk' u1, Fr h₀ L h' m → News h₀ L h' news → Q (.int 1 u1) { s with heap := h', toks := tk' }) :
  wpAny (model PG w) (ctx D U env outer gd) (call (.ref 188) [.str x kt]) Q E s := by
  refine ctx_mono hD hU ?_
  subst hx
  refine wpAny_call ?_
  k_dflt k_enter
  (repeat' (first | (with_reducible refine unstp ?_; first | (((with_reducible show wpAny _ _ (pyIter (Value.str _ _)) (fun it s₂ => LoopAtV _ _ _ _ _ _ _ _ _ it s₂) _ _); k_here; k_strUnr)) | ((k_here; (rename Fr _ _ _ _ => lF9z'); (with_unfolding_all refine' For_invVF lF9z' ?k1 ?k2 ?_; (case k1 => exact rfl); (case k2 => exact rfl); k_whole))) | (k_dflt ((k_here; refine UnrEnd.intro (by k_asm) (by k_asm) _ (fun _ h => h) (fun p hp => Nat.ne_of_lt (by first | exact (by assumption : ∀ p ∈ _, p.1 < _) p hp | exact allLt_all _ (by assumption) p hp)) ?_))) | ((k_here; (with_reducible show wpAny _ _ (subscriptTail (PySem.Expr.Name _ _) _ (Value.str _ _) (Value.int _ _)) _ _ _); k_dflt (refine' item_str ?a ?b ?c ?_ ?d ?e; (case a => decide +kernel); (case b => decide +kernel); (case c => decide +kernel); (case d => with_unfolding_all rfl); (case e => (intro _; with_unfolding_all rfl)); k_whole); intro _)) | ((k_here; k_dflt (refine' idx_c ?hA ?hf ?_; (case hA => rfl); (case hf => decide +kernel); k_whole))) | ((k_here; k_dflt (refine whl_start 100 ?_))) | (refine goM ?_; k_dflt walk1) | (k_dflt (dsimp only); refine stp ?_)) | (k_unfold; (first | with_reducible refine (?_ : wpAny _ _ _ _ _ _) | (try dsimp only))) | (k_end; wrow_close) | walk1 | (dsimp only; walk1) | (leave1; walk_say "STEP leave1"; try dsimp only) | fail "no step"))
  all_goals first | exact int_end (ret _ _ _ (by k_asm) (nb0 (by k_asm) (fun _ h => h))) (by decide +kernel) | exact int_end (ret _ _ _ (by k_asm) (nb1 (by k_asm) (fun _ h => h))) (by decide +kernel)
theorem wo_2 {x : Str} {kt : Tok} (hD : D ≤ 930) (hU : U ≤ 4650) (B : Below A₀ base outer h₀) (F : Fr h₀ L s.heap m) (X : (kdef.heap_1 w.params).In h₀) (N : News h₀ L s.heap news)
  (T : Top p loose mean mg mb h₀) (hf : env.frame = some L) (hke : env.scope.kind = .function) (hx : x = Str.ofString "2")
  (ret : ∀ h' tk' u1, Fr h₀ L h' m → News h₀ L h' news → Q (.int 2 u1) { s with heap := h', toks := tk' }) :
  wpAny (model PG w) (ctx D U env outer gd) (call (.ref 188) [.str x kt]) Q E s := by
  refine ctx_mono hD hU ?_
  subst hx
  refine wpAny_call ?_
  k_dflt k_enter
  (repeat' (first | (with_reducible refine unstp ?_; first | (((with_reducible show wpAny _ _ (pyIter (Value.str _ _)) (fun it s₂ => LoopAtV _ _ _ _ _ _ _ _ _ it s₂) _ _); k_here; k_strUnr)) | ((k_here; (rename Fr _ _ _ _ => lF9z'); (with_unfolding_all refine' For_invVF lF9z' ?k1 ?k2 ?_; (case k1 => exact rfl); (case k2 => exact rfl); k_whole))) | (k_dflt ((k_here; refine UnrEnd.intro (by k_asm) (by k_asm) _ (fun _ h => h) (fun p hp => Nat.ne_of_lt (by first | exact (by assumption : ∀ p ∈ _, p.1 < _) p hp | exact allLt_all _ (by assumption) p hp)) ?_))) | ((k_here; (with_reducible show wpAny _ _ (subscriptTail (PySem.Expr.Name _ _) _ (Value.str _ _) (Value.int _ _)) _ _ _); k_dflt (refine' item_str ?a ?b ?c ?_ ?d ?e; (case a => decide +kernel); (case b => decide +kernel); (case c => decide +kernel); (case d => with_unfolding_all rfl); (case e => (intro _; with_unfolding_all rfl)); k_whole); intro _)) | ((k_here; k_dflt (refine' idx_c ?hA ?hf ?_; (case hA => rfl); (case hf => decide +kernel); k_whole))) | ((k_here; k_dflt (refine whl_start 100 ?_))) | (refine goM ?_; k_dflt walk1) | (k_dflt (dsimp only); refine stp ?_)) | (k_unfold; (first | with_reducible refine (?_ : wpAny _ _ _ _ _ _) | (try dsimp only))) | (k_end; wrow_close) | walk1 | (dsimp only; walk1) | (leave1; walk_say "STEP leave1"; try dsimp only) | fail "no step"))
  all_goals first | exact int_end (ret _ _ _ (by k_asm) (nb0 (by k_asm) (fun _ h => h))) (by decide +kernel) | exact int_end (ret _ _ _ (by k_asm) (nb1 (by k_asm) (fun _ h => h))) (by decide +kernel)
theorem wo_4 {x : Str} {kt : Tok} (hD : D ≤ 930) (hU : U ≤ 4650) (B : Below A₀ base outer h₀) (F : Fr h₀ L s.heap m) (X : (kdef.heap_1 w.params).In h₀) (N : News h₀ L s.heap news)
  (T : Top p loose mean mg mb h₀) (hf : env.frame = some L) (hke : env.scope.kind = .function) (hx : x = Str.ofString "4")
  (ret : ∀ h' tk' u1, Fr h₀ L h' m → News h₀ L h' news → Q (.int 4 u1) { s with heap := h', toks := tk' }) :
  wpAny (model PG w) (ctx D U env outer gd) (call (.ref 188) [.str x kt]) Q E s := by
  refine ctx_mono hD hU ?_
  subst hx
  refine wpAny_call ?_
  k_dflt k_enter
  (repeat' (first | (with_reducible refine unstp ?_; first | (((with_reducible show wpAny _ _ (pyIter (Value.str _ _)) (fun it s₂ => LoopAtV _ _ _ _ _ _ _ _ _ it s₂) _ _); k_here; k_strUnr)) | ((k_here; (rename Fr _ _ _ _ => lF9z'); (with_unfolding_all refine' For_invVF lF9z' ?k1 ?k2 ?_; (case k1 => exact rfl); (case k2 => exact rfl); k_whole))) | (k_dflt ((k_here; refine UnrEnd.intro (by k_asm) (by k_asm) _ (fun _ h => h) (fun p hp => Nat.ne_of_lt (by first | exact (by assumption : ∀ p ∈ _, p.1 < _) p hp | exact allLt_all _ (by assumption) p hp)) ?_))) | ((k_here; (with_reducible show wpAny _ _ (subscriptTail (PySem.Expr.Name _ _) _ (Value.str _ _) (Value.int _ _)) _ _ _); k_dflt (refine' item_str ?a ?b ?c ?_ ?d ?e; (case a => decide +kernel); (case b => decide +kernel); (case c => decide +kernel); (case d => with_unfolding_all rfl); (case e => (intro _; with_unfolding_all rfl)); k_whole); intro _)) | ((k_here; k_dflt (refine' idx_c ?hA ?hf ?_; (case hA => rfl); (case hf => decide +kernel); k_whole))) | ((k_here; k_dflt (refine whl_start 100 ?_))) | (refine goM ?_; k_dflt walk1) | (k_dflt (dsimp only); refine stp ?_)) | (k_unfold; (first | with_reducible refine (?_ : wpAny _ _ _ _ _ _) | (try dsimp only))) | (k_end; wrow_close) | walk1 | (dsimp only; walk1) | (leave1; walk_say "STEP leave1"; try dsimp only) | fail "no step"))
  all_goals first | exact int_end (ret _ _ _ (by k_asm) (nb0 (by k_asm) (fun _ h => h))) (by decide +kernel) | exact int_end (ret _ _ _ (by k_asm) (nb1 (by k_asm) (fun _ h => h))) (by decide +kernel)
theorem wo_5 {x : Str} {kt : Tok} (hD : D ≤ 930) (hU : U ≤ 4650) (B : Below A₀ base outer h₀) (F : Fr h₀ L s.heap m) (X : (kdef.heap_1 w.params).In h₀) (N : News h₀ L s.heap news)
  (T : Top p loose mean mg mb h₀) (hf : env.frame = some L) (hke : env.scope.kind = .function) (hx : x = Str.ofString "5")
  (ret : ∀ h' tk' u1, Fr h₀ L h' m → News h₀ L h' news → Q (.int 5 u1) { s with heap := h', toks := tk' }) :
  wpAny (model PG w) (ctx D U env outer gd) (call (.ref 188) [.str x kt]) Q E s := by
  refine ctx_mono hD hU ?_
  subst hx
  refine wpAny_call ?_
  k_dflt k_enter
  (repeat' (first | (with_reducible refine unstp ?_; first | (((with_reducible show wpAny _ _ (pyIter (Value.str _ _)) (fun it s₂ => LoopAtV _ _ _ _ _ _ _ _ _ it s₂) _ _); k_here; k_strUnr)) | ((k_here; (rename Fr _ _ _ _ => lF9z'); (with_unfolding_all refine' For_invVF lF9z' ?k1 ?k2 ?_; (case k1 => exact rfl); (case k2 => exact rfl); k_whole))) | (k_dflt ((k_here; refine UnrEnd.intro (by k_asm) (by k_asm) _ (fun _ h => h) (fun p hp => Nat.ne_of_lt (by first | exact (by assumption : ∀ p ∈ _, p.1 < _) p hp | exact allLt_all _ (by assumption) p hp)) ?_))) | ((k_here; (with_reducible show wpAny _ _ (subscriptTail (PySem.Expr.Name _ _) _ (Value.str _ _) (Value.int _ _)) _ _ _); k_dflt (refine' item_str ?a ?b ?c ?_ ?d ?e; (case a => decide +kernel); (case b => decide +kernel); (case c => decide +kernel); (case d => with_unfolding_all rfl); (case e => (intro _; with_unfolding_all rfl)); k_whole); intro _)) | ((k_here; k_dflt (refine' idx_c ?hA ?hf ?_; (case hA => rfl); (case hf => decide +kernel); k_whole))) | ((k_here; k_dflt (refine whl_start 100 ?_))) | (refine goM ?_; k_dflt walk1) | (k_dflt (dsimp only); refine stp ?_)) | (k_unfold; (first | with_reducible refine (?_ : wpAny _ _ _ _ _ _) | (try dsimp only))) | (k_end; wrow_close) | walk1 | (dsimp only; walk1) | (leave1; walk_say "STEP leave1"; try dsimp only) | fail "no step"))
  all_goals first | exact int_end (ret _ _ _ (by k_asm) (nb0 (by k_asm) (fun _ h => h))) (by decide +kernel) | exact int_end (ret _ _ _ (by k_asm) (nb1 (by k_asm) (fun _ h => h))) (by decide +kernel)
end

section
variable {w : World} {p : Program} {loose : List Str} {mean : ExcName → Option Value} {mg mb : Str → Option Value}
  {env : Env} {outer : List Env} {gd : Option (List Code)} {A₀ : Around} {base h₀ : Heap} {L : Addr} {m : Str → Option Value} {news : List (Addr × Obj)} {g : Obj → List (Addr × Obj)} {s : Shared} {Q E : Value → Shared → Prop}
  {D U : Nat} {r dr lt nd : Addr} {t1 t2 t3 tk ka : Tok} {q k : Int} {n : Nat} {l : List Tk}
theorem dec_0 {u sc : Int} {t1 t2 : Tok} (hD : D ≤ 930) (hU : U ≤ 4650) (B : Below A₀ base outer h₀) (F : Fr h₀ L s.heap m) (X : (kdef.heap_1 w.params).In h₀) (N : News h₀ L s.heap news)
  (T : Top p loose mean mg mb h₀) (hf : env.frame = some L) (hke : env.scope.kind = .function) (hs : sc = 0)
  (ret : ∀ Dl u1 u2 h' tk', Fr h₀ L h' m → News h₀ L h' ((Dl, ({ cls := .type "tuple", data := .seq #[.int u u1, .int 0 u2] } : Obj)) :: news) → (∀ p ∈ news, p.1 < Dl) → Q (.ref Dl) { s with heap := h', toks := tk' }) :
  wpAny (model PG w) (ctx D U env outer gd) (call (.ref 160) [.int u t1, .int sc t2]) Q E s := by
  refine ctx_mono hD hU ?_
  subst hs
  refine wpAny_call ?_
  k_dflt k_enter
  (repeat' (first | (with_reducible refine unstp ?_; first | ((k_here; k_dflt (refine' wo_3 ?hD ?hU ?B ?F ?X ?N ?T ?hf ?hke ?hx ?_; (case hD => exact Nat.le_of_ble_eq_true rfl); (case hU => exact Nat.le_of_ble_eq_true rfl); (case B => k_asm); (case F => k_asm); (case X => k_asm); (case N => k_asm); (case T => k_asm); (case hf => rfl); (case hke => rfl); (case hx => decide +kernel); k_whole); intro h9z' tk9z' u19z' F9z' N9z')) | ((k_here; (with_reducible show wpAny _ _ (subscriptTail (PySem.Expr.Name _ _) _ (Value.str _ _) (Value.int _ _)) _ _ _); k_dflt (refine' item_str ?a ?b ?c ?_ ?d ?e; (case a => decide +kernel); (case b => decide +kernel); (case c => decide +kernel); (case d => with_unfolding_all rfl); (case e => (intro _; with_unfolding_all rfl)); k_whole); intro _)) | ((k_here; k_dflt (refine' idx_c ?hA ?hf ?_; (case hA => rfl); (case hf => decide +kernel); k_whole))) | ((k_here; k_dflt (refine whl_start 100 ?_))) | (refine goM ?_; k_dflt walk1) | (k_dflt (dsimp only); refine stp ?_)) | (k_unfold; (first | with_reducible refine (?_ : wpAny _ _ _ _ _ _) | (try dsimp only))) | (k_end; wrow_close) | walk1 | (dsimp only; walk1) | (leave1; walk_say "STEP leave1"; try dsimp only) | fail "no step"))
  all_goals first | exact ret _ _ _ _ _ (by k_asm) (by k_asm) (by assumption)
theorem dec_15 {u sc : Int} {t1 t2 : Tok} (hD : D ≤ 930) (hU : U ≤ 4650) (B : Below A₀ base outer h₀) (F : Fr h₀ L s.heap m) (X : (kdef.heap_1 w.params).In h₀) (N : News h₀ L s.heap news)
  (T : Top p loose mean mg mb h₀) (hf : env.frame = some L) (hke : env.scope.kind = .function) (hu : u = 15) (hs : sc = 1)
  (ret : ∀ Dl u1 u2 h' tk', Fr h₀ L h' m → News h₀ L h' ((Dl, ({ cls := .type "tuple", data := .seq #[.int 15 u1, .int 1 u2] } : Obj)) :: news) → (∀ p ∈ news, p.1 < Dl) → Q (.ref Dl) { s with heap := h', toks := tk' }) :
  wpAny (model PG w) (ctx D U env outer gd) (call (.ref 160) [.int u t1, .int sc t2]) Q E s := by
  refine ctx_mono hD hU ?_
  subst hs hu
  refine wpAny_call ?_
  k_dflt k_enter
  (repeat' (first | (with_reducible refine unstp ?_; first | ((k_here; k_dflt (refine' wo_3 ?hD ?hU ?B ?F ?X ?N ?T ?hf ?hke ?hx ?_; (case hD => exact Nat.le_of_ble_eq_true rfl); (case hU => exact Nat.le_of_ble_eq_true rfl); (case B => k_asm); (case F => k_asm); (case X => k_asm); (case N => k_asm); (case T => k_asm); (case hf => rfl); (case hke => rfl); (case hx => decide +kernel); k_whole); intro h9z' tk9z' u19z' F9z' N9z')) | ((k_here; (with_reducible show wpAny _ _ (subscriptTail (PySem.Expr.Name _ _) _ (Value.str _ _) (Value.int _ _)) _ _ _); k_dflt (refine' item_str ?a ?b ?c ?_ ?d ?e; (case a => decide +kernel); (case b => decide +kernel); (case c => decide +kernel); (case d => with_unfolding_all rfl); (case e => (intro _; with_unfolding_all rfl)); k_whole); intro _)) | ((k_here; k_dflt (refine' idx_c ?hA ?hf ?_; (case hA => rfl); (case hf => decide +kernel); k_whole))) | ((k_here; k_dflt (refine whl_start 100 ?_))) | (refine goM ?_; k_dflt walk1) | (k_dflt (dsimp only); refine stp ?_)) | (k_unfold; (first | with_reducible refine (?_ : wpAny _ _ _ _ _ _) | (try dsimp only))) | (k_end; wrow_close) | walk1 | (dsimp only; walk1) | (leave1; walk_say "STEP leave1"; try dsimp only) | fail "no step"))
  all_goals first | exact ret _ _ _ _ _ (by k_asm) (by k_asm) (by assumption)
end

section
variable {w : World} {p : Program} {loose : List Str} {mean : ExcName → Option Value} {mg mb : Str → Option Value}
  {env : Env} {outer : List Env} {gd : Option (List Code)} {A₀ : Around} {base h₀ : Heap} {L : Addr} {m : Str → Option Value} {news : List (Addr × Obj)} {g : Obj → List (Addr × Obj)} {s : Shared} {Q E : Value → Shared → Prop}
  {D U : Nat} {r dr lt nd : Addr} {t1 t2 t3 tk ka : Tok} {q k : Int} {n : Nat} {l : List Tk}
local macro_rules | `(tactic| walk_at "exec For Name Name cons nil") => `(tactic| (goal_lacks GoM; refine stp ?_))
local macro_rules | `(tactic| walk_at "pyIter str") => `(tactic| (goal_lacks GoM; refine stp ?_))
theorem rd_3 {x : Str} {kt : Tok} (hD : D ≤ 900) (hU : U ≤ 4500) (B : Below A₀ base outer h₀) (F : Fr h₀ L s.heap m) (X : (kdef.heap_1 w.params).In h₀) (N : News h₀ L s.heap news)
  (T : Top p loose mean mg mb h₀) (hf : env.frame = some L) (hke : env.scope.kind = .function) (hx : x = Str.ofString "3")
  (ret : ∀ Dl u1 u2 h' tk', Fr h₀ L h' m → News h₀ L h' ((Dl, ({ cls := .type "tuple", data := .seq #[.int 3 u1, .int 0 u2] } : Obj)) :: news) → (∀ p ∈ news, p.1 < Dl) → Q (.ref Dl) { s with heap := h', toks := tk' }) :
  wpAny (model PG w) (ctx D U env outer gd) (call (.ref 195) [.str x kt]) Q E s := by
  refine ctx_mono hD hU ?_
  subst hx
  refine wpAny_call ?_
  k_dflt k_enter
  (repeat' (first | (with_reducible refine unstp ?_; first | (((with_reducible show wpAny _ _ (pyIter (Value.str _ _)) (fun it s₂ => LoopAtV _ _ _ _ _ _ _ _ _ it s₂) _ _); k_here; k_strUnr)) | ((k_here; (rename Fr _ _ _ _ => lF9z'); (with_unfolding_all refine' For_invVF lF9z' ?k1 ?k2 ?_; (case k1 => exact rfl); (case k2 => exact rfl); k_whole))) | (k_dflt ((k_here; refine UnrEnd.intro (by k_asm) (by k_asm) _ (fun _ h => h) (fun p hp => Nat.ne_of_lt (by first | exact (by assumption : ∀ p ∈ _, p.1 < _) p hp | exact allLt_all _ (by assumption) p hp)) ?_))) | ((k_here; k_dflt (refine' dec_0 ?hD ?hU ?B ?F ?X ?N ?T ?hf ?hke ?hs ?_; (case hD => exact Nat.le_of_ble_eq_true rfl); (case hU => exact Nat.le_of_ble_eq_true rfl); (case B => k_asm); (case F => k_asm); (case X => k_asm); (case N => k_asm); (case T => k_asm); (case hf => rfl); (case hke => rfl); (case hs => decide +kernel); k_whole); intro D9z' u19z' u29z' h9z' tk9z' F9z' N9z' l19z; (try k_lt l19z))) | ((k_here; k_dflt (refine' wo_3 ?hD ?hU ?B ?F ?X ?N ?T ?hf ?hke ?hx ?_; (case hD => exact Nat.le_of_ble_eq_true rfl); (case hU => exact Nat.le_of_ble_eq_true rfl); (case B => k_asm); (case F => k_asm); (case X => k_asm); (case N => k_asm); (case T => k_asm); (case hf => rfl); (case hke => rfl); (case hx => decide +kernel); k_whole); intro h9z' tk9z' u19z' F9z' N9z')) | ((k_here; (with_reducible show wpAny _ _ (subscriptTail (PySem.Expr.Name _ _) _ (Value.str _ _) (Value.int _ _)) _ _ _); k_dflt (refine' item_str ?a ?b ?c ?_ ?d ?e; (case a => decide +kernel); (case b => decide +kernel); (case c => decide +kernel); (case d => with_unfolding_all rfl); (case e => (intro _; with_unfolding_all rfl)); k_whole); intro _)) | ((k_here; k_dflt (refine' idx_c ?hA ?hf ?_; (case hA => rfl); (case hf => decide +kernel); k_whole))) | ((k_here; k_dflt (refine whl_start 100 ?_))) | (refine goM ?_; k_dflt walk1) | (k_dflt (dsimp only); refine stp ?_)) | (k_unfold; (first | with_reducible refine (?_ : wpAny _ _ _ _ _ _) | (try dsimp only))) | (k_end; wrow_close) | walk1 | (dsimp only; walk1) | (leave1; walk_say "STEP leave1"; try dsimp only) | fail "no step"))
  all_goals first | exact ret _ _ _ _ _ (by k_asm) (nbc (by k_asm) (fun _ h => h)) (allLt_all _ (by assumption : AllLt _ _)) | exact ret _ _ _ _ _ (by k_asm) (nbc1 (by k_asm) (fun _ h => h)) (allLt_all _ (by assumption : _ ∧ AllLt _ _).2) | exact ret _ _ _ _ _ (by k_asm) (nbc2 (by k_asm) (fun _ h => h)) (allLt_all _ (by assumption : _ ∧ _ ∧ AllLt _ _).2.2) | exact ret _ _ _ _ _ (by k_asm) (nbc3 (by k_asm) (fun _ h => h)) (allLt_all _ (by assumption : _ ∧ _ ∧ _ ∧ AllLt _ _).2.2.2) | exact absurd (by assumption : _ ∨ _) (by decide +kernel)
end


section
variable {w : World} {p : Program} {loose : List Str} {mean : ExcName → Option Value} {mg mb : Str → Option Value}
  {env : Env} {outer : List Env} {gd : Option (List Code)} {A₀ : Around} {base h₀ : Heap} {L : Addr} {m : Str → Option Value} {news : List (Addr × Obj)} {g : Obj → List (Addr × Obj)} {s : Shared} {Q E : Value → Shared → Prop}
  {D U : Nat} {r dr lt nd : Addr} {t1 t2 t3 tk ka : Tok} {q k : Int} {n : Nat} {l : List Tk}
local macro_rules | `(tactic| walk_at "exec For Name Name cons nil") => `(tactic| (goal_lacks GoM; refine stp ?_))
local macro_rules | `(tactic| walk_at "pyIter str") => `(tactic| (goal_lacks GoM; refine stp ?_))
theorem rd_0 {x : Str} {kt : Tok} (hD : D ≤ 900) (hU : U ≤ 4500) (B : Below A₀ base outer h₀) (F : Fr h₀ L s.heap m) (X : (kdef.heap_1 w.params).In h₀) (N : News h₀ L s.heap news)
  (T : Top p loose mean mg mb h₀) (hf : env.frame = some L) (hke : env.scope.kind = .function) (hx : x = Str.ofString "0")
  (ret : ∀ Dl u1 u2 h' tk', Fr h₀ L h' m → News h₀ L h' ((Dl, ({ cls := .type "tuple", data := .seq #[.int 0 u1, .int 0 u2] } : Obj)) :: news) → (∀ p ∈ news, p.1 < Dl) → Q (.ref Dl) { s with heap := h', toks := tk' }) :
  wpAny (model PG w) (ctx D U env outer gd) (call (.ref 195) [.str x kt]) Q E s := by
  refine ctx_mono hD hU ?_
  subst hx
  refine wpAny_call ?_
  k_dflt k_enter
  (repeat' (first | (with_reducible refine unstp ?_; first | (k_dflt ((k_here; refine UnrEnd.intro (by k_asm) (by k_asm) _ (fun _ h => h) (fun p hp => Nat.ne_of_lt (by first | exact (by assumption : ∀ p ∈ _, p.1 < _) p hp | exact allLt_all _ (by assumption) p hp)) ?_))) | ((k_here; k_dflt (refine' dec_15 ?hD ?hU ?B ?F ?X ?N ?T ?hf ?hke ?hu ?hs ?_; (case hD => exact Nat.le_of_ble_eq_true rfl); (case hU => exact Nat.le_of_ble_eq_true rfl); (case B => k_asm); (case F => k_asm); (case X => k_asm); (case N => k_asm); (case T => k_asm); (case hf => rfl); (case hke => rfl); (case hu => decide +kernel); (case hs => decide +kernel); k_whole); intro D9z' u19z' u29z' h9z' tk9z' F9z' N9z' l19z; (try k_lt l19z))) | ((k_here; k_dflt (refine' dec_0 ?hD ?hU ?B ?F ?X ?N ?T ?hf ?hke ?hs ?_; (case hD => exact Nat.le_of_ble_eq_true rfl); (case hU => exact Nat.le_of_ble_eq_true rfl); (case B => k_asm); (case F => k_asm); (case X => k_asm); (case N => k_asm); (case T => k_asm); (case hf => rfl); (case hke => rfl); (case hs => decide +kernel); k_whole); intro D9z' u19z' u29z' h9z' tk9z' F9z' N9z' l19z; (try k_lt l19z))) | ((k_here; k_dflt (refine' wo_15 ?hD ?hU ?B ?F ?X ?N ?T ?hf ?hke ?hx ?_; (case hD => exact Nat.le_of_ble_eq_true rfl); (case hU => exact Nat.le_of_ble_eq_true rfl); (case B => k_asm); (case F => k_asm); (case X => k_asm); (case N => k_asm); (case T => k_asm); (case hf => rfl); (case hke => rfl); (case hx => decide +kernel); k_whole); intro h9z' tk9z' u19z' F9z' N9z')) | ((k_here; k_dflt (refine' wo_5 ?hD ?hU ?B ?F ?X ?N ?T ?hf ?hke ?hx ?_; (case hD => exact Nat.le_of_ble_eq_true rfl); (case hU => exact Nat.le_of_ble_eq_true rfl); (case B => k_asm); (case F => k_asm); (case X => k_asm); (case N => k_asm); (case T => k_asm); (case hf => rfl); (case hke => rfl); (case hx => decide +kernel); k_whole); intro h9z' tk9z' u19z' F9z' N9z')) | ((k_here; k_dflt (refine' wo_4 ?hD ?hU ?B ?F ?X ?N ?T ?hf ?hke ?hx ?_; (case hD => exact Nat.le_of_ble_eq_true rfl); (case hU => exact Nat.le_of_ble_eq_true rfl); (case B => k_asm); (case F => k_asm); (case X => k_asm); (case N => k_asm); (case T => k_asm); (case hf => rfl); (case hke => rfl); (case hx => decide +kernel); k_whole); intro h9z' tk9z' u19z' F9z' N9z')) | ((k_here; k_dflt (refine' wo_2 ?hD ?hU ?B ?F ?X ?N ?T ?hf ?hke ?hx ?_; (case hD => exact Nat.le_of_ble_eq_true rfl); (case hU => exact Nat.le_of_ble_eq_true rfl); (case B => k_asm); (case F => k_asm); (case X => k_asm); (case N => k_asm); (case T => k_asm); (case hf => rfl); (case hke => rfl); (case hx => decide +kernel); k_whole); intro h9z' tk9z' u19z' F9z' N9z')) | ((k_here; k_dflt (refine' wo_1 ?hD ?hU ?B ?F ?X ?N ?T ?hf ?hke ?hx ?_; (case hD => exact Nat.le_of_ble_eq_true rfl); (case hU => exact Nat.le_of_ble_eq_true rfl); (case B => k_asm); (case F => k_asm); (case X => k_asm); (case N => k_asm); (case T => k_asm); (case hf => rfl); (case hke => rfl); (case hx => decide +kernel); k_whole); intro h9z' tk9z' u19z' F9z' N9z')) | ((k_here; k_dflt (refine' wo_0 ?hD ?hU ?B ?F ?X ?N ?T ?hf ?hke ?hx ?_; (case hD => exact Nat.le_of_ble_eq_true rfl); (case hU => exact Nat.le_of_ble_eq_true rfl); (case B => k_asm); (case F => k_asm); (case X => k_asm); (case N => k_asm); (case T => k_asm); (case hf => rfl); (case hke => rfl); (case hx => decide +kernel); k_whole); intro h9z' tk9z' u19z' F9z' N9z')) | ((k_here; (with_reducible show wpAny _ _ (subscriptTail (PySem.Expr.Name _ _) _ (Value.str _ _) (Value.int _ _)) _ _ _); k_dflt (refine' item_str ?a ?b ?c ?_ ?d ?e; (case a => decide +kernel); (case b => decide +kernel); (case c => decide +kernel); (case d => with_unfolding_all rfl); (case e => (intro _; with_unfolding_all rfl)); k_whole); intro _)) | ((k_here; k_dflt (refine' idx_c ?hA ?hf ?_; (case hA => rfl); (case hf => decide +kernel); k_whole))) | (refine goM ?_; k_dflt walk1) | (k_dflt (dsimp only); refine stp ?_)) | (k_unfold; (first | with_reducible refine (?_ : wpAny _ _ _ _ _ _) | (try dsimp only))) | (k_end; wrow_close) | walk1 | (dsimp only; walk1) | (leave1; walk_say "STEP leave1"; try dsimp only) | fail "no step"))
  all_goals first | exact ret _ _ _ _ _ (by k_asm) (nbc (by k_asm) (fun _ h => h)) (allLt_all _ (by assumption : AllLt _ _)) | exact ret _ _ _ _ _ (by k_asm) (nbc1 (by k_asm) (fun _ h => h)) (allLt_all _ (by assumption : _ ∧ AllLt _ _).2) | exact ret _ _ _ _ _ (by k_asm) (nbc2 (by k_asm) (fun _ h => h)) (allLt_all _ (by assumption : _ ∧ _ ∧ AllLt _ _).2.2) | exact ret _ _ _ _ _ (by k_asm) (nbc3 (by k_asm) (fun _ h => h)) (allLt_all _ (by assumption : _ ∧ _ ∧ _ ∧ AllLt _ _).2.2.2) | exact absurd (by assumption : _ ∨ _) (by decide +kernel)
theorem rd_1 {x : Str} {kt : Tok} (hD : D ≤ 900) (hU : U ≤ 4500) (B : Below A₀ base outer h₀) (F : Fr h₀ L s.heap m) (X : (kdef.heap_1 w.params).In h₀) (N : News h₀ L s.heap news)
  (T : Top p loose mean mg mb h₀) (hf : env.frame = some L) (hke : env.scope.kind = .function) (hx : x = Str.ofString "1")
  (ret : ∀ Dl u1 u2 h' tk', Fr h₀ L h' m → News h₀ L h' ((Dl, ({ cls := .type "tuple", data := .seq #[.int 1 u1, .int 0 u2] } : Obj)) :: news) → (∀ p ∈ news, p.1 < Dl) → Q (.ref Dl) { s with heap := h', toks := tk' }) :
  wpAny (model PG w) (ctx D U env outer gd) (call (.ref 195) [.str x kt]) Q E s := by
  refine ctx_mono hD hU ?_
  subst hx
  refine wpAny_call ?_
  k_dflt k_enter
  (repeat' (first | (with_reducible refine unstp ?_; first | (k_dflt ((k_here; refine UnrEnd.intro (by k_asm) (by k_asm) _ (fun _ h => h) (fun p hp => Nat.ne_of_lt (by first | exact (by assumption : ∀ p ∈ _, p.1 < _) p hp | exact allLt_all _ (by assumption) p hp)) ?_))) | ((k_here; k_dflt (refine' dec_15 ?hD ?hU ?B ?F ?X ?N ?T ?hf ?hke ?hu ?hs ?_; (case hD => exact Nat.le_of_ble_eq_true rfl); (case hU => exact Nat.le_of_ble_eq_true rfl); (case B => k_asm); (case F => k_asm); (case X => k_asm); (case N => k_asm); (case T => k_asm); (case hf => rfl); (case hke => rfl); (case hu => decide +kernel); (case hs => decide +kernel); k_whole); intro D9z' u19z' u29z' h9z' tk9z' F9z' N9z' l19z; (try k_lt l19z))) | ((k_here; k_dflt (refine' dec_0 ?hD ?hU ?B ?F ?X ?N ?T ?hf ?hke ?hs ?_; (case hD => exact Nat.le_of_ble_eq_true rfl); (case hU => exact Nat.le_of_ble_eq_true rfl); (case B => k_asm); (case F => k_asm); (case X => k_asm); (case N => k_asm); (case T => k_asm); (case hf => rfl); (case hke => rfl); (case hs => decide +kernel); k_whole); intro D9z' u19z' u29z' h9z' tk9z' F9z' N9z' l19z; (try k_lt l19z))) | ((k_here; k_dflt (refine' wo_15 ?hD ?hU ?B ?F ?X ?N ?T ?hf ?hke ?hx ?_; (case hD => exact Nat.le_of_ble_eq_true rfl); (case hU => exact Nat.le_of_ble_eq_true rfl); (case B => k_asm); (case F => k_asm); (case X => k_asm); (case N => k_asm); (case T => k_asm); (case hf => rfl); (case hke => rfl); (case hx => decide +kernel); k_whole); intro h9z' tk9z' u19z' F9z' N9z')) | ((k_here; k_dflt (refine' wo_5 ?hD ?hU ?B ?F ?X ?N ?T ?hf ?hke ?hx ?_; (case hD => exact Nat.le_of_ble_eq_true rfl); (case hU => exact Nat.le_of_ble_eq_true rfl); (case B => k_asm); (case F => k_asm); (case X => k_asm); (case N => k_asm); (case T => k_asm); (case hf => rfl); (case hke => rfl); (case hx => decide +kernel); k_whole); intro h9z' tk9z' u19z' F9z' N9z')) | ((k_here; k_dflt (refine' wo_4 ?hD ?hU ?B ?F ?X ?N ?T ?hf ?hke ?hx ?_; (case hD => exact Nat.le_of_ble_eq_true rfl); (case hU => exact Nat.le_of_ble_eq_true rfl); (case B => k_asm); (case F => k_asm); (case X => k_asm); (case N => k_asm); (case T => k_asm); (case hf => rfl); (case hke => rfl); (case hx => decide +kernel); k_whole); intro h9z' tk9z' u19z' F9z' N9z')) | ((k_here; k_dflt (refine' wo_2 ?hD ?hU ?B ?F ?X ?N ?T ?hf ?hke ?hx ?_; (case hD => exact Nat.le_of_ble_eq_true rfl); (case hU => exact Nat.le_of_ble_eq_true rfl); (case B => k_asm); (case F => k_asm); (case X => k_asm); (case N => k_asm); (case T => k_asm); (case hf => rfl); (case hke => rfl); (case hx => decide +kernel); k_whole); intro h9z' tk9z' u19z' F9z' N9z')) | ((k_here; k_dflt (refine' wo_1 ?hD ?hU ?B ?F ?X ?N ?T ?hf ?hke ?hx ?_; (case hD => exact Nat.le_of_ble_eq_true rfl); (case hU => exact Nat.le_of_ble_eq_true rfl); (case B => k_asm); (case F => k_asm); (case X => k_asm); (case N => k_asm); (case T => k_asm); (case hf => rfl); (case hke => rfl); (case hx => decide +kernel); k_whole); intro h9z' tk9z' u19z' F9z' N9z')) | ((k_here; k_dflt (refine' wo_0 ?hD ?hU ?B ?F ?X ?N ?T ?hf ?hke ?hx ?_; (case hD => exact Nat.le_of_ble_eq_true rfl); (case hU => exact Nat.le_of_ble_eq_true rfl); (case B => k_asm); (case F => k_asm); (case X => k_asm); (case N => k_asm); (case T => k_asm); (case hf => rfl); (case hke => rfl); (case hx => decide +kernel); k_whole); intro h9z' tk9z' u19z' F9z' N9z')) | ((k_here; (with_reducible show wpAny _ _ (subscriptTail (PySem.Expr.Name _ _) _ (Value.str _ _) (Value.int _ _)) _ _ _); k_dflt (refine' item_str ?a ?b ?c ?_ ?d ?e; (case a => decide +kernel); (case b => decide +kernel); (case c => decide +kernel); (case d => with_unfolding_all rfl); (case e => (intro _; with_unfolding_all rfl)); k_whole); intro _)) | ((k_here; k_dflt (refine' idx_c ?hA ?hf ?_; (case hA => rfl); (case hf => decide +kernel); k_whole))) | (refine goM ?_; k_dflt walk1) | (k_dflt (dsimp only); refine stp ?_)) | (k_unfold; (first | with_reducible refine (?_ : wpAny _ _ _ _ _ _) | (try dsimp only))) | (k_end; wrow_close) | walk1 | (dsimp only; walk1) | (leave1; walk_say "STEP leave1"; try dsimp only) | fail "no step"))
  all_goals first | exact ret _ _ _ _ _ (by k_asm) (nbc (by k_asm) (fun _ h => h)) (allLt_all _ (by assumption : AllLt _ _)) | exact ret _ _ _ _ _ (by k_asm) (nbc1 (by k_asm) (fun _ h => h)) (allLt_all _ (by assumption : _ ∧ AllLt _ _).2) | exact ret _ _ _ _ _ (by k_asm) (nbc2 (by k_asm) (fun _ h => h)) (allLt_all _ (by assumption : _ ∧ _ ∧ AllLt _ _).2.2) | exact ret _ _ _ _ _ (by k_asm) (nbc3 (by k_asm) (fun _ h => h)) (allLt_all _ (by assumption : _ ∧ _ ∧ _ ∧ AllLt _ _).2.2.2) | exact absurd (by assumption : _ ∨ _) (by decide +kernel)
theorem rd_2 {x : Str} {kt : Tok} (hD : D ≤ 900) (hU : U ≤ 4500) (B : Below A₀ base outer h₀) (F : Fr h₀ L s.heap m) (X : (kdef.heap_1 w.params).In h₀) (N : News h₀ L s.heap news)
  (T : Top p loose mean mg mb h₀) (hf : env.frame = some L) (hke : env.scope.kind = .function) (hx : x = Str.ofString "2")
  (ret : ∀ Dl u1 u2 h' tk', Fr h₀ L h' m → News h₀ L h' ((Dl, ({ cls := .type "tuple", data := .seq #[.int 2 u1, .int 0 u2] } : Obj)) :: news) → (∀ p ∈ news, p.1 < Dl) → Q (.ref Dl) { s with heap := h', toks := tk' }) :
  wpAny (model PG w) (ctx D U env outer gd) (call (.ref 195) [.str x kt]) Q E s := by
  refine ctx_mono hD hU ?_
  subst hx
  refine wpAny_call ?_
  k_dflt k_enter
  (repeat' (first | (with_reducible refine unstp ?_; first | (k_dflt ((k_here; refine UnrEnd.intro (by k_asm) (by k_asm) _ (fun _ h => h) (fun p hp => Nat.ne_of_lt (by first | exact (by assumption : ∀ p ∈ _, p.1 < _) p hp | exact allLt_all _ (by assumption) p hp)) ?_))) | ((k_here; k_dflt (refine' dec_15 ?hD ?hU ?B ?F ?X ?N ?T ?hf ?hke ?hu ?hs ?_; (case hD => exact Nat.le_of_ble_eq_true rfl); (case hU => exact Nat.le_of_ble_eq_true rfl); (case B => k_asm); (case F => k_asm); (case X => k_asm); (case N => k_asm); (case T => k_asm); (case hf => rfl); (case hke => rfl); (case hu => decide +kernel); (case hs => decide +kernel); k_whole); intro D9z' u19z' u29z' h9z' tk9z' F9z' N9z' l19z; (try k_lt l19z))) | ((k_here; k_dflt (refine' dec_0 ?hD ?hU ?B ?F ?X ?N ?T ?hf ?hke ?hs ?_; (case hD => exact Nat.le_of_ble_eq_true rfl); (case hU => exact Nat.le_of_ble_eq_true rfl); (case B => k_asm); (case F => k_asm); (case X => k_asm); (case N => k_asm); (case T => k_asm); (case hf => rfl); (case hke => rfl); (case hs => decide +kernel); k_whole); intro D9z' u19z' u29z' h9z' tk9z' F9z' N9z' l19z; (try k_lt l19z))) | ((k_here; k_dflt (refine' wo_15 ?hD ?hU ?B ?F ?X ?N ?T ?hf ?hke ?hx ?_; (case hD => exact Nat.le_of_ble_eq_true rfl); (case hU => exact Nat.le_of_ble_eq_true rfl); (case B => k_asm); (case F => k_asm); (case X => k_asm); (case N => k_asm); (case T => k_asm); (case hf => rfl); (case hke => rfl); (case hx => decide +kernel); k_whole); intro h9z' tk9z' u19z' F9z' N9z')) | ((k_here; k_dflt (refine' wo_5 ?hD ?hU ?B ?F ?X ?N ?T ?hf ?hke ?hx ?_; (case hD => exact Nat.le_of_ble_eq_true rfl); (case hU => exact Nat.le_of_ble_eq_true rfl); (case B => k_asm); (case F => k_asm); (case X => k_asm); (case N => k_asm); (case T => k_asm); (case hf => rfl); (case hke => rfl); (case hx => decide +kernel); k_whole); intro h9z' tk9z' u19z' F9z' N9z')) | ((k_here; k_dflt (refine' wo_4 ?hD ?hU ?B ?F ?X ?N ?T ?hf ?hke ?hx ?_; (case hD => exact Nat.le_of_ble_eq_true rfl); (case hU => exact Nat.le_of_ble_eq_true rfl); (case B => k_asm); (case F => k_asm); (case X => k_asm); (case N => k_asm); (case T => k_asm); (case hf => rfl); (case hke => rfl); (case hx => decide +kernel); k_whole); intro h9z' tk9z' u19z' F9z' N9z')) | ((k_here; k_dflt (refine' wo_2 ?hD ?hU ?B ?F ?X ?N ?T ?hf ?hke ?hx ?_; (case hD => exact Nat.le_of_ble_eq_true rfl); (case hU => exact Nat.le_of_ble_eq_true rfl); (case B => k_asm); (case F => k_asm); (case X => k_asm); (case N => k_asm); (case T => k_asm); (case hf => rfl); (case hke => rfl); (case hx => decide +kernel); k_whole); intro h9z' tk9z' u19z' F9z' N9z')) | ((k_here; k_dflt (refine' wo_1 ?hD ?hU ?B ?F ?X ?N ?T ?hf ?hke ?hx ?_; (case hD => exact Nat.le_of_ble_eq_true rfl); (case hU => exact Nat.le_of_ble_eq_true rfl); (case B => k_asm); (case F => k_asm); (case X => k_asm); (case N => k_asm); (case T => k_asm); (case hf => rfl); (case hke => rfl); (case hx => decide +kernel); k_whole); intro h9z' tk9z' u19z' F9z' N9z')) | ((k_here; k_dflt (refine' wo_0 ?hD ?hU ?B ?F ?X ?N ?T ?hf ?hke ?hx ?_; (case hD => exact Nat.le_of_ble_eq_true rfl); (case hU => exact Nat.le_of_ble_eq_true rfl); (case B => k_asm); (case F => k_asm); (case X => k_asm); (case N => k_asm); (case T => k_asm); (case hf => rfl); (case hke => rfl); (case hx => decide +kernel); k_whole); intro h9z' tk9z' u19z' F9z' N9z')) | ((k_here; (with_reducible show wpAny _ _ (subscriptTail (PySem.Expr.Name _ _) _ (Value.str _ _) (Value.int _ _)) _ _ _); k_dflt (refine' item_str ?a ?b ?c ?_ ?d ?e; (case a => decide +kernel); (case b => decide +kernel); (case c => decide +kernel); (case d => with_unfolding_all rfl); (case e => (intro _; with_unfolding_all rfl)); k_whole); intro _)) | ((k_here; k_dflt (refine' idx_c ?hA ?hf ?_; (case hA => rfl); (case hf => decide +kernel); k_whole))) | (refine goM ?_; k_dflt walk1) | (k_dflt (dsimp only); refine stp ?_)) | (k_unfold; (first | with_reducible refine (?_ : wpAny _ _ _ _ _ _) | (try dsimp only))) | (k_end; wrow_close) | walk1 | (dsimp only; walk1) | (leave1; walk_say "STEP leave1"; try dsimp only) | fail "no step"))
  all_goals first | exact ret _ _ _ _ _ (by k_asm) (nbc (by k_asm) (fun _ h => h)) (allLt_all _ (by assumption : AllLt _ _)) | exact ret _ _ _ _ _ (by k_asm) (nbc1 (by k_asm) (fun _ h => h)) (allLt_all _ (by assumption : _ ∧ AllLt _ _).2) | exact ret _ _ _ _ _ (by k_asm) (nbc2 (by k_asm) (fun _ h => h)) (allLt_all _ (by assumption : _ ∧ _ ∧ AllLt _ _).2.2) | exact ret _ _ _ _ _ (by k_asm) (nbc3 (by k_asm) (fun _ h => h)) (allLt_all _ (by assumption : _ ∧ _ ∧ _ ∧ AllLt _ _).2.2.2) | exact absurd (by assumption : _ ∨ _) (by decide +kernel)
theorem rd_4 {x : Str} {kt : Tok} (hD : D ≤ 900) (hU : U ≤ 4500) (B : Below A₀ base outer h₀) (F : Fr h₀ L s.heap m) (X : (kdef.heap_1 w.params).In h₀) (N : News h₀ L s.heap news)
  (T : Top p loose mean mg mb h₀) (hf : env.frame = some L) (hke : env.scope.kind = .function) (hx : x = Str.ofString "4")
  (ret : ∀ Dl u1 u2 h' tk', Fr h₀ L h' m → News h₀ L h' ((Dl, ({ cls := .type "tuple", data := .seq #[.int 4 u1, .int 0 u2] } : Obj)) :: news) → (∀ p ∈ news, p.1 < Dl) → Q (.ref Dl) { s with heap := h', toks := tk' }) :
  wpAny (model PG w) (ctx D U env outer gd) (call (.ref 195) [.str x kt]) Q E s := by
  refine ctx_mono hD hU ?_
  subst hx
  refine wpAny_call ?_
  k_dflt k_enter
  (repeat' (first | (with_reducible refine unstp ?_; first | (k_dflt ((k_here; refine UnrEnd.intro (by k_asm) (by k_asm) _ (fun _ h => h) (fun p hp => Nat.ne_of_lt (by first | exact (by assumption : ∀ p ∈ _, p.1 < _) p hp | exact allLt_all _ (by assumption) p hp)) ?_))) | ((k_here; k_dflt (refine' dec_15 ?hD ?hU ?B ?F ?X ?N ?T ?hf ?hke ?hu ?hs ?_; (case hD => exact Nat.le_of_ble_eq_true rfl); (case hU => exact Nat.le_of_ble_eq_true rfl); (case B => k_asm); (case F => k_asm); (case X => k_asm); (case N => k_asm); (case T => k_asm); (case hf => rfl); (case hke => rfl); (case hu => decide +kernel); (case hs => decide +kernel); k_whole); intro D9z' u19z' u29z' h9z' tk9z' F9z' N9z' l19z; (try k_lt l19z))) | ((k_here; k_dflt (refine' dec_0 ?hD ?hU ?B ?F ?X ?N ?T ?hf ?hke ?hs ?_; (case hD => exact Nat.le_of_ble_eq_true rfl); (case hU => exact Nat.le_of_ble_eq_true rfl); (case B => k_asm); (case F => k_asm); (case X => k_asm); (case N => k_asm); (case T => k_asm); (case hf => rfl); (case hke => rfl); (case hs => decide +kernel); k_whole); intro D9z' u19z' u29z' h9z' tk9z' F9z' N9z' l19z; (try k_lt l19z))) | ((k_here; k_dflt (refine' wo_15 ?hD ?hU ?B ?F ?X ?N ?T ?hf ?hke ?hx ?_; (case hD => exact Nat.le_of_ble_eq_true rfl); (case hU => exact Nat.le_of_ble_eq_true rfl); (case B => k_asm); (case F => k_asm); (case X => k_asm); (case N => k_asm); (case T => k_asm); (case hf => rfl); (case hke => rfl); (case hx => decide +kernel); k_whole); intro h9z' tk9z' u19z' F9z' N9z')) | ((k_here; k_dflt (refine' wo_5 ?hD ?hU ?B ?F ?X ?N ?T ?hf ?hke ?hx ?_; (case hD => exact Nat.le_of_ble_eq_true rfl); (case hU => exact Nat.le_of_ble_eq_true rfl); (case B => k_asm); (case F => k_asm); (case X => k_asm); (case N => k_asm); (case T => k_asm); (case hf => rfl); (case hke => rfl); (case hx => decide +kernel); k_whole); intro h9z' tk9z' u19z' F9z' N9z')) | ((k_here; k_dflt (refine' wo_4 ?hD ?hU ?B ?F ?X ?N ?T ?hf ?hke ?hx ?_; (case hD => exact Nat.le_of_ble_eq_true rfl); (case hU => exact Nat.le_of_ble_eq_true rfl); (case B => k_asm); (case F => k_asm); (case X => k_asm); (case N => k_asm); (case T => k_asm); (case hf => rfl); (case hke => rfl); (case hx => decide +kernel); k_whole); intro h9z' tk9z' u19z' F9z' N9z')) | ((k_here; k_dflt (refine' wo_2 ?hD ?hU ?B ?F ?X ?N ?T ?hf ?hke ?hx ?_; (case hD => exact Nat.le_of_ble_eq_true rfl); (case hU => exact Nat.le_of_ble_eq_true rfl); (case B => k_asm); (case F => k_asm); (case X => k_asm); (case N => k_asm); (case T => k_asm); (case hf => rfl); (case hke => rfl); (case hx => decide +kernel); k_whole); intro h9z' tk9z' u19z' F9z' N9z')) | ((k_here; k_dflt (refine' wo_1 ?hD ?hU ?B ?F ?X ?N ?T ?hf ?hke ?hx ?_; (case hD => exact Nat.le_of_ble_eq_true rfl); (case hU => exact Nat.le_of_ble_eq_true rfl); (case B => k_asm); (case F => k_asm); (case X => k_asm); (case N => k_asm); (case T => k_asm); (case hf => rfl); (case hke => rfl); (case hx => decide +kernel); k_whole); intro h9z' tk9z' u19z' F9z' N9z')) | ((k_here; k_dflt (refine' wo_0 ?hD ?hU ?B ?F ?X ?N ?T ?hf ?hke ?hx ?_; (case hD => exact Nat.le_of_ble_eq_true rfl); (case hU => exact Nat.le_of_ble_eq_true rfl); (case B => k_asm); (case F => k_asm); (case X => k_asm); (case N => k_asm); (case T => k_asm); (case hf => rfl); (case hke => rfl); (case hx => decide +kernel); k_whole); intro h9z' tk9z' u19z' F9z' N9z')) | ((k_here; (with_reducible show wpAny _ _ (subscriptTail (PySem.Expr.Name _ _) _ (Value.str _ _) (Value.int _ _)) _ _ _); k_dflt (refine' item_str ?a ?b ?c ?_ ?d ?e; (case a => decide +kernel); (case b => decide +kernel); (case c => decide +kernel); (case d => with_unfolding_all rfl); (case e => (intro _; with_unfolding_all rfl)); k_whole); intro _)) | ((k_here; k_dflt (refine' idx_c ?hA ?hf ?_; (case hA => rfl); (case hf => decide +kernel); k_whole))) | (refine goM ?_; k_dflt walk1) | (k_dflt (dsimp only); refine stp ?_)) | (k_unfold; (first | with_reducible refine (?_ : wpAny _ _ _ _ _ _) | (try dsimp only))) | (k_end; wrow_close) | walk1 | (dsimp only; walk1) | (leave1; walk_say "STEP leave1"; try dsimp only) | fail "no step"))
  all_goals first | exact ret _ _ _ _ _ (by k_asm) (nbc (by k_asm) (fun _ h => h)) (allLt_all _ (by assumption : AllLt _ _)) | exact ret _ _ _ _ _ (by k_asm) (nbc1 (by k_asm) (fun _ h => h)) (allLt_all _ (by assumption : _ ∧ AllLt _ _).2) | exact ret _ _ _ _ _ (by k_asm) (nbc2 (by k_asm) (fun _ h => h)) (allLt_all _ (by assumption : _ ∧ _ ∧ AllLt _ _).2.2) | exact ret _ _ _ _ _ (by k_asm) (nbc3 (by k_asm) (fun _ h => h)) (allLt_all _ (by assumption : _ ∧ _ ∧ _ ∧ AllLt _ _).2.2.2) | exact absurd (by assumption : _ ∨ _) (by decide +kernel)
theorem rd_5 {x : Str} {kt : Tok} (hD : D ≤ 900) (hU : U ≤ 4500) (B : Below A₀ base outer h₀) (F : Fr h₀ L s.heap m) (X : (kdef.heap_1 w.params).In h₀) (N : News h₀ L s.heap news)
  (T : Top p loose mean mg mb h₀) (hf : env.frame = some L) (hke : env.scope.kind = .function) (hx : x = Str.ofString "5")
  (ret : ∀ Dl u1 u2 h' tk', Fr h₀ L h' m → News h₀ L h' ((Dl, ({ cls := .type "tuple", data := .seq #[.int 5 u1, .int 0 u2] } : Obj)) :: news) → (∀ p ∈ news, p.1 < Dl) → Q (.ref Dl) { s with heap := h', toks := tk' }) :
  wpAny (model PG w) (ctx D U env outer gd) (call (.ref 195) [.str x kt]) Q E s := by
  refine ctx_mono hD hU ?_
  subst hx
  refine wpAny_call ?_
  k_dflt k_enter
  (repeat' (first | (with_reducible refine unstp ?_; first | (k_dflt ((k_here; refine UnrEnd.intro (by k_asm) (by k_asm) _ (fun _ h => h) (fun p hp => Nat.ne_of_lt (by first | exact (by assumption : ∀ p ∈ _, p.1 < _) p hp | exact allLt_all _ (by assumption) p hp)) ?_))) | ((k_here; k_dflt (refine' dec_15 ?hD ?hU ?B ?F ?X ?N ?T ?hf ?hke ?hu ?hs ?_; (case hD => exact Nat.le_of_ble_eq_true rfl); (case hU => exact Nat.le_of_ble_eq_true rfl); (case B => k_asm); (case F => k_asm); (case X => k_asm); (case N => k_asm); (case T => k_asm); (case hf => rfl); (case hke => rfl); (case hu => decide +kernel); (case hs => decide +kernel); k_whole); intro D9z' u19z' u29z' h9z' tk9z' F9z' N9z' l19z; (try k_lt l19z))) | ((k_here; k_dflt (refine' dec_0 ?hD ?hU ?B ?F ?X ?N ?T ?hf ?hke ?hs ?_; (case hD => exact Nat.le_of_ble_eq_true rfl); (case hU => exact Nat.le_of_ble_eq_true rfl); (case B => k_asm); (case F => k_asm); (case X => k_asm); (case N => k_asm); (case T => k_asm); (case hf => rfl); (case hke => rfl); (case hs => decide +kernel); k_whole); intro D9z' u19z' u29z' h9z' tk9z' F9z' N9z' l19z; (try k_lt l19z))) | ((k_here; k_dflt (refine' wo_15 ?hD ?hU ?B ?F ?X ?N ?T ?hf ?hke ?hx ?_; (case hD => exact Nat.le_of_ble_eq_true rfl); (case hU => exact Nat.le_of_ble_eq_true rfl); (case B => k_asm); (case F => k_asm); (case X => k_asm); (case N => k_asm); (case T => k_asm); (case hf => rfl); (case hke => rfl); (case hx => decide +kernel); k_whole); intro h9z' tk9z' u19z' F9z' N9z')) | ((k_here; k_dflt (refine' wo_5 ?hD ?hU ?B ?F ?X ?N ?T ?hf ?hke ?hx ?_; (case hD => exact Nat.le_of_ble_eq_true rfl); (case hU => exact Nat.le_of_ble_eq_true rfl); (case B => k_asm); (case F => k_asm); (case X => k_asm); (case N => k_asm); (case T => k_asm); (case hf => rfl); (case hke => rfl); (case hx => decide +kernel); k_whole); intro h9z' tk9z' u19z' F9z' N9z')) | ((k_here; k_dflt (refine' wo_4 ?hD ?hU ?B ?F ?X ?N ?T ?hf ?hke ?hx ?_; (case hD => exact Nat.le_of_ble_eq_true rfl); (case hU => exact Nat.le_of_ble_eq_true rfl); (case B => k_asm); (case F => k_asm); (case X => k_asm); (case N => k_asm); (case T => k_asm); (case hf => rfl); (case hke => rfl); (case hx => decide +kernel); k_whole); intro h9z' tk9z' u19z' F9z' N9z')) | ((k_here; k_dflt (refine' wo_2 ?hD ?hU ?B ?F ?X ?N ?T ?hf ?hke ?hx ?_; (case hD => exact Nat.le_of_ble_eq_true rfl); (case hU => exact Nat.le_of_ble_eq_true rfl); (case B => k_asm); (case F => k_asm); (case X => k_asm); (case N => k_asm); (case T => k_asm); (case hf => rfl); (case hke => rfl); (case hx => decide +kernel); k_whole); intro h9z' tk9z' u19z' F9z' N9z')) | ((k_here; k_dflt (refine' wo_1 ?hD ?hU ?B ?F ?X ?N ?T ?hf ?hke ?hx ?_; (case hD => exact Nat.le_of_ble_eq_true rfl); (case hU => exact Nat.le_of_ble_eq_true rfl); (case B => k_asm); (case F => k_asm); (case X => k_asm); (case N => k_asm); (case T => k_asm); (case hf => rfl); (case hke => rfl); (case hx => decide +kernel); k_whole); intro h9z' tk9z' u19z' F9z' N9z')) | ((k_here; k_dflt (refine' wo_0 ?hD ?hU ?B ?F ?X ?N ?T ?hf ?hke ?hx ?_; (case hD => exact Nat.le_of_ble_eq_true rfl); (case hU => exact Nat.le_of_ble_eq_true rfl); (case B => k_asm); (case F => k_asm); (case X => k_asm); (case N => k_asm); (case T => k_asm); (case hf => rfl); (case hke => rfl); (case hx => decide +kernel); k_whole); intro h9z' tk9z' u19z' F9z' N9z')) | ((k_here; (with_reducible show wpAny _ _ (subscriptTail (PySem.Expr.Name _ _) _ (Value.str _ _) (Value.int _ _)) _ _ _); k_dflt (refine' item_str ?a ?b ?c ?_ ?d ?e; (case a => decide +kernel); (case b => decide +kernel); (case c => decide +kernel); (case d => with_unfolding_all rfl); (case e => (intro _; with_unfolding_all rfl)); k_whole); intro _)) | ((k_here; k_dflt (refine' idx_c ?hA ?hf ?_; (case hA => rfl); (case hf => decide +kernel); k_whole))) | (refine goM ?_; k_dflt walk1) | (k_dflt (dsimp only); refine stp ?_)) | (k_unfold; (first | with_reducible refine (?_ : wpAny _ _ _ _ _ _) | (try dsimp only))) | (k_end; wrow_close) | walk1 | (dsimp only; walk1) | (leave1; walk_say "STEP leave1"; try dsimp only) | fail "no step"))
  all_goals first | exact ret _ _ _ _ _ (by k_asm) (nbc (by k_asm) (fun _ h => h)) (allLt_all _ (by assumption : AllLt _ _)) | exact ret _ _ _ _ _ (by k_asm) (nbc1 (by k_asm) (fun _ h => h)) (allLt_all _ (by assumption : _ ∧ AllLt _ _).2) | exact ret _ _ _ _ _ (by k_asm) (nbc2 (by k_asm) (fun _ h => h)) (allLt_all _ (by assumption : _ ∧ _ ∧ AllLt _ _).2.2) | exact ret _ _ _ _ _ (by k_asm) (nbc3 (by k_asm) (fun _ h => h)) (allLt_all _ (by assumption : _ ∧ _ ∧ _ ∧ AllLt _ _).2.2.2) | exact absurd (by assumption : _ ∨ _) (by decide +kernel)
theorem rd_15 {x : Str} {kt : Tok} (hD : D ≤ 900) (hU : U ≤ 4500) (B : Below A₀ base outer h₀) (F : Fr h₀ L s.heap m) (X : (kdef.heap_1 w.params).In h₀) (N : News h₀ L s.heap news)
  (T : Top p loose mean mg mb h₀) (hf : env.frame = some L) (hke : env.scope.kind = .function) (hx : x = Str.ofString "1.5")
  (ret : ∀ Dl u1 u2 h' tk', Fr h₀ L h' m → News h₀ L h' ((Dl, ({ cls := .type "tuple", data := .seq #[.int 15 u1, .int 1 u2] } : Obj)) :: news) → (∀ p ∈ news, p.1 < Dl) → Q (.ref Dl) { s with heap := h', toks := tk' }) :
  wpAny (model PG w) (ctx D U env outer gd) (call (.ref 195) [.str x kt]) Q E s := by
  refine ctx_mono hD hU ?_
  subst hx
  refine wpAny_call ?_
  k_dflt k_enter
  (repeat' (first | (with_reducible refine unstp ?_; first | (k_dflt ((k_here; refine UnrEnd.intro (by k_asm) (by k_asm) _ (fun _ h => h) (fun p hp => Nat.ne_of_lt (by first | exact (by assumption : ∀ p ∈ _, p.1 < _) p hp | exact allLt_all _ (by assumption) p hp)) ?_))) | ((k_here; k_dflt (refine' dec_15 ?hD ?hU ?B ?F ?X ?N ?T ?hf ?hke ?hu ?hs ?_; (case hD => exact Nat.le_of_ble_eq_true rfl); (case hU => exact Nat.le_of_ble_eq_true rfl); (case B => k_asm); (case F => k_asm); (case X => k_asm); (case N => k_asm); (case T => k_asm); (case hf => rfl); (case hke => rfl); (case hu => decide +kernel); (case hs => decide +kernel); k_whole); intro D9z' u19z' u29z' h9z' tk9z' F9z' N9z' l19z; (try k_lt l19z))) | ((k_here; k_dflt (refine' dec_0 ?hD ?hU ?B ?F ?X ?N ?T ?hf ?hke ?hs ?_; (case hD => exact Nat.le_of_ble_eq_true rfl); (case hU => exact Nat.le_of_ble_eq_true rfl); (case B => k_asm); (case F => k_asm); (case X => k_asm); (case N => k_asm); (case T => k_asm); (case hf => rfl); (case hke => rfl); (case hs => decide +kernel); k_whole); intro D9z' u19z' u29z' h9z' tk9z' F9z' N9z' l19z; (try k_lt l19z))) | ((k_here; k_dflt (refine' wo_15 ?hD ?hU ?B ?F ?X ?N ?T ?hf ?hke ?hx ?_; (case hD => exact Nat.le_of_ble_eq_true rfl); (case hU => exact Nat.le_of_ble_eq_true rfl); (case B => k_asm); (case F => k_asm); (case X => k_asm); (case N => k_asm); (case T => k_asm); (case hf => rfl); (case hke => rfl); (case hx => decide +kernel); k_whole); intro h9z' tk9z' u19z' F9z' N9z')) | ((k_here; k_dflt (refine' wo_5 ?hD ?hU ?B ?F ?X ?N ?T ?hf ?hke ?hx ?_; (case hD => exact Nat.le_of_ble_eq_true rfl); (case hU => exact Nat.le_of_ble_eq_true rfl); (case B => k_asm); (case F => k_asm); (case X => k_asm); (case N => k_asm); (case T => k_asm); (case hf => rfl); (case hke => rfl); (case hx => decide +kernel); k_whole); intro h9z' tk9z' u19z' F9z' N9z')) | ((k_here; k_dflt (refine' wo_4 ?hD ?hU ?B ?F ?X ?N ?T ?hf ?hke ?hx ?_; (case hD => exact Nat.le_of_ble_eq_true rfl); (case hU => exact Nat.le_of_ble_eq_true rfl); (case B => k_asm); (case F => k_asm); (case X => k_asm); (case N => k_asm); (case T => k_asm); (case hf => rfl); (case hke => rfl); (case hx => decide +kernel); k_whole); intro h9z' tk9z' u19z' F9z' N9z')) | ((k_here; k_dflt (refine' wo_2 ?hD ?hU ?B ?F ?X ?N ?T ?hf ?hke ?hx ?_; (case hD => exact Nat.le_of_ble_eq_true rfl); (case hU => exact Nat.le_of_ble_eq_true rfl); (case B => k_asm); (case F => k_asm); (case X => k_asm); (case N => k_asm); (case T => k_asm); (case hf => rfl); (case hke => rfl); (case hx => decide +kernel); k_whole); intro h9z' tk9z' u19z' F9z' N9z')) | ((k_here; k_dflt (refine' wo_1 ?hD ?hU ?B ?F ?X ?N ?T ?hf ?hke ?hx ?_; (case hD => exact Nat.le_of_ble_eq_true rfl); (case hU => exact Nat.le_of_ble_eq_true rfl); (case B => k_asm); (case F => k_asm); (case X => k_asm); (case N => k_asm); (case T => k_asm); (case hf => rfl); (case hke => rfl); (case hx => decide +kernel); k_whole); intro h9z' tk9z' u19z' F9z' N9z')) | ((k_here; k_dflt (refine' wo_0 ?hD ?hU ?B ?F ?X ?N ?T ?hf ?hke ?hx ?_; (case hD => exact Nat.le_of_ble_eq_true rfl); (case hU => exact Nat.le_of_ble_eq_true rfl); (case B => k_asm); (case F => k_asm); (case X => k_asm); (case N => k_asm); (case T => k_asm); (case hf => rfl); (case hke => rfl); (case hx => decide +kernel); k_whole); intro h9z' tk9z' u19z' F9z' N9z')) | ((k_here; (with_reducible show wpAny _ _ (subscriptTail (PySem.Expr.Name _ _) _ (Value.str _ _) (Value.int _ _)) _ _ _); k_dflt (refine' item_str ?a ?b ?c ?_ ?d ?e; (case a => decide +kernel); (case b => decide +kernel); (case c => decide +kernel); (case d => with_unfolding_all rfl); (case e => (intro _; with_unfolding_all rfl)); k_whole); intro _)) | ((k_here; k_dflt (refine' idx_c ?hA ?hf ?_; (case hA => rfl); (case hf => decide +kernel); k_whole))) | (refine goM ?_; k_dflt walk1) | (k_dflt (dsimp only); refine stp ?_)) | (k_unfold; (first | with_reducible refine (?_ : wpAny _ _ _ _ _ _) | (try dsimp only))) | (k_end; wrow_close) | walk1 | (dsimp only; walk1) | (leave1; walk_say "STEP leave1"; try dsimp only) | fail "no step"))
  all_goals first | exact ret _ _ _ _ _ (by k_asm) (nbc (by k_asm) (fun _ h => h)) (allLt_all _ (by assumption : AllLt _ _)) | exact ret _ _ _ _ _ (by k_asm) (nbc1 (by k_asm) (fun _ h => h)) (allLt_all _ (by assumption : _ ∧ AllLt _ _).2) | exact ret _ _ _ _ _ (by k_asm) (nbc2 (by k_asm) (fun _ h => h)) (allLt_all _ (by assumption : _ ∧ _ ∧ AllLt _ _).2.2) | exact ret _ _ _ _ _ (by k_asm) (nbc3 (by k_asm) (fun _ h => h)) (allLt_all _ (by assumption : _ ∧ _ ∧ _ ∧ AllLt _ _).2.2.2) | exact absurd (by assumption : _ ∨ _) (by decide +kernel)
end

noncomputable def digits : List (Str × Int) := [(Str.ofString "0", 0), (Str.ofString "1", 1), (Str.ofString "2", 2), (Str.ofString "3", 3), (Str.ofString "4", 4), (Str.ofString "5", 5)]

section
variable {w : World} {p : Program} {loose : List Str} {mean : ExcName → Option Value} {mg mb : Str → Option Value}
  {env : Env} {outer : List Env} {gd : Option (List Code)} {A₀ : Around} {base h₀ : Heap} {L : Addr} {m : Str → Option Value} {news : List (Addr × Obj)} {g : Obj → List (Addr × Obj)} {s : Shared} {Q E : Value → Shared → Prop}
  {D U : Nat} {r dr lt nd : Addr} {t1 t2 t3 tk ka : Tok} {q k : Int} {n : Nat} {l : List Tk}
theorem rd_dig {x : Str} {u : Int} {kt : Tok} (hD : D ≤ 900) (hU : U ≤ 4500) (B : Below A₀ base outer h₀) (F : Fr h₀ L s.heap m) (X : (kdef.heap_1 w.params).In h₀) (N : News h₀ L s.heap news)
  (T : Top p loose mean mg mb h₀) (hf : env.frame = some L) (hke : env.scope.kind = .function) (hx : (x, u) ∈ digits)
  (ret : ∀ Dl u1 u2 h' tk', Fr h₀ L h' m → News h₀ L h' ((Dl, ({ cls := .type "tuple", data := .seq #[.int u u1, .int 0 u2] } : Obj)) :: news) → (∀ p ∈ news, p.1 < Dl) → Q (.ref Dl) { s with heap := h', toks := tk' }) :
  wpAny (model PG w) (ctx D U env outer gd) (call (.ref 195) [.str x kt]) Q E s := by
  simp only [digits, List.mem_cons, Prod.mk.injEq, List.not_mem_nil, or_false] at hx
  rcases hx with ⟨hx, rfl⟩ | ⟨hx, rfl⟩ | ⟨hx, rfl⟩ | ⟨hx, rfl⟩ | ⟨hx, rfl⟩ | ⟨hx, rfl⟩
  · exact rd_0 hD hU B F X N T hf hke hx ret
  · exact rd_1 hD hU B F X N T hf hke hx ret
  · exact rd_2 hD hU B F X N T hf hke hx ret
  · exact rd_3 hD hU B F X N T hf hke hx ret
  · exact rd_4 hD hU B F X N T hf hke hx ret
  · exact rd_5 hD hU B F X N T hf hke hx ret
end


section
variable {w : World} {p : Program} {loose : List Str} {mean : ExcName → Option Value} {mg mb : Str → Option Value}
  {env : Env} {outer : List Env} {gd : Option (List Code)} {A₀ : Around} {base h₀ : Heap} {L : Addr} {m : Str → Option Value} {news : List (Addr × Obj)} {g : Obj → List (Addr × Obj)} {s : Shared} {Q E : Value → Shared → Prop}
  {D U : Nat} {r dr lt nd : Addr} {t1 t2 t3 tk ka : Tok} {q k : Int} {n : Nat} {l : List Tk}
theorem whole_c {k' : Tk} {u : Int} (hD : D ≤ 880) (hU : U ≤ 4400) (B : Below A₀ base outer h₀) (F : Fr h₀ L s.heap m) (X : (kdef.heap_1 w.params).In h₀) (N : News h₀ L s.heap news) (hr : (r, instObj 371 dr) ∈ news) (hu : UpdF dr (rdO w.params t1 t2 t3 lt q tk nd) news g) 
  (T : Top p loose mean mg mb h₀) (hf : env.frame = some L) (hke : env.scope.kind = .function) (tb : TB w.params h₀ lt l) (h0 : 0 ≤ q) (h2 : q < 10000)
  (hk : isKind l (q + 0) "number" = true) (ho : tokAt l (q + 0) = some k') (hx : (k'.x, u) ∈ digits)
  (ret : ∀ h' tk' tk2 tk3, Fr h₀ L h' m → News h₀ L h' (g (rdO w.params t1 t2 t3 lt (q + 1) tk2 nd)) → Q (.int u tk3) { s with heap := h', toks := tk' }) :
  wpAny (model PG w) (ctx D U env outer gd) (call (.ref 354) [.ref r]) Q E s := by
  refine ctx_mono hD hU ?_
  have hm : k' ∈ l := List.mem_of_getElem? ho
  obtain ⟨rest, hrest, hd, hne, N1, hback⟩ := canon N hr hu
  clear N hr hu hd
  have hne1 := neN hne
  refine wpAny_call ?_
  k_dflt k_enter
  (repeat' (first | (with_reducible refine unstp ?_; first | ((k_here; k_dflt (refine' rd_dig ?hD ?hU ?B ?F ?X ?N ?T ?hf ?hke ?hx ?_; (case hD => exact Nat.le_of_ble_eq_true rfl); (case hU => exact Nat.le_of_ble_eq_true rfl); (case B => k_asm); (case F => k_asm); (case X => k_asm); (case N => k_asm); (case T => k_asm); (case hf => rfl); (case hke => rfl); (case hx => assumption); k_whole); intro D9z' u19z' u29z' h9z' tk9z' F9z' N9z' l19z; (try k_lt l19z))) | ((k_here; k_dflt (refine' is_kind0_c ?hD ?hU ?B ?F ?X ?N ?hr ?hd ?T ?hf ?hke ?tb ?h0 ?h2 ?hb ?_; (case hD => exact Nat.le_of_ble_eq_true rfl); (case hU => exact Nat.le_of_ble_eq_true rfl); (case B => k_asm); (case F => k_asm); (case X => k_asm); (case N => k_asm); (case hr => k_mem); (case hd => k_mem); (case T => k_asm); (case hf => rfl); (case hke => rfl); (case tb => assumption); (case h0 => omega); (case h2 => omega); (case hb => first | assumption | exact rfl); k_whole); intro h9z' tk9z' F9z' N9z'; (try dsimp only [tkv]))) | ((k_here; k_dflt (refine' peek0_c ?hD ?hU ?B ?F ?X ?N ?hr ?hd ?T ?hf ?hke ?tb ?h0 ?h2 ?ho ?_; (case hD => exact Nat.le_of_ble_eq_true rfl); (case hU => exact Nat.le_of_ble_eq_true rfl); (case B => k_asm); (case F => k_asm); (case X => k_asm); (case N => k_asm); (case hr => k_mem); (case hd => k_mem); (case T => k_asm); (case hf => rfl); (case hke => rfl); (case tb => assumption); (case h0 => omega); (case h2 => omega); (case ho => first | assumption | exact rfl); k_whole); intro h9z' tk9z' F9z' N9z'; (try dsimp only [tkv]))) | (refine goM ?_; k_dflt walk1) | (k_dflt (dsimp only); refine stp ?_)) | (k_unfold; (first | with_reducible refine (?_ : wpAny _ _ _ _ _ _) | (try dsimp only))) | (k_end; wrow_close) | walk1 | (dsimp only; walk1) | (leave1; walk_say "STEP leave1"; try dsimp only) | fail "no step"))
  all_goals first | exact int_end (ret _ _ _ _ (by k_asm) (nb0 (by k_asm) (hback _))) (by simp) | exact int_end (ret _ _ _ _ (by k_asm) (nb1 (by k_asm) (hback _))) (by simp) | exact int_end (ret _ _ _ _ (by k_asm) (nb2 (by k_asm) (hback _))) (by simp) | exact int_end (ret _ _ _ _ (by k_asm) (nb3 (by k_asm) (hback _))) (by simp)
end


noncomputable abbrev tupO (vs : Array Value) : Obj := { cls := .type "tuple", data := .seq vs }
/-- what read_ref hands back stands on the ledger -/
inductive DepIn (news : List (Addr × Obj)) (v : Value) (x : Str) (qs : List Str) : Prop
  | mk (D1 : _) (D2 : _) (D3 : _) (u1 : _) (u2 : _) (us : List Tok) (f1 : us.length = qs.length) (f2 : v = .ref D1) (f3 : (D1, tupO #[.str (Str.ofString "ref") u1, .str x u2, .ref D2, .ref D3, .none]) ∈ news) (f4 : (D2, tupO ((qs.zip us).map fun p => Value.str p.1 p.2).toArray) ∈ news) (f5 : (D3, tupO #[]) ∈ news) : DepIn news v x qs

theorem rref_end {h₀ h : Heap} {L r dr D1 D2 D3 D4 : Addr} {u1 : Tok} {x : Str} {u2 : Tok} {qs : List Str} {us : List Tok} {lo : Obj} {m : Str → Option Value} {rest : List (Addr × Obj)} {P : Params} {t1 t2 t3 tk2 : Tok} {lt nd : Addr} {q' : Int} {s : Shared} {tk' : Tok} {Q : Value → Shared → Prop}
    (N : News h₀ L h ((D1, tupO #[.str (Str.ofString "ref") u1, .str x u2, .ref D2, .ref D3, .none]) :: (D2, tupO ((qs.zip us).map fun p => Value.str p.1 p.2).toArray) :: (D3, tupO #[]) :: (D4, lo) :: (r, instObj 371 dr) :: (dr, rdO P t1 t2 t3 lt q' tk2 nd) :: rest))
    (l1 : D2 < D1 ∧ D3 < D1 ∧ D4 < D1 ∧ r < D1 ∧ dr < D1 ∧ AllLt D1 rest) (F : Fr h₀ L h m) (hrest : ∀ q ∈ rest, q.1 ≠ dr) (hu : us.length = qs.length)
    (ret : ∀ v rest' h' tk' tk2, (∀ x ∈ rest, x ∈ rest') → (∀ q ∈ rest', q.1 ≠ dr) → DepIn rest' v x qs → Fr h₀ L h' m → News h₀ L h' ((r, instObj 371 dr) :: (dr, rdO P t1 t2 t3 lt q' tk2 nd) :: rest') → Q v { s with heap := h', toks := tk' }) :
    Q (.ref D1) { s with heap := h, toks := tk' } := by
  have hdr := (N (dr, rdO P t1 t2 t3 lt q' tk2 nd) (by simp)).1
  have off : ∀ a o, h.get? a = some o → o.cls ≠ .type "dict" → a ≠ dr := by
    intro a o e c q
    rw [q, hdr] at e
    exact c (by rw [← Option.some.inj e])
  refine ret (.ref D1) ((D1, tupO #[.str (Str.ofString "ref") u1, .str x u2, .ref D2, .ref D3, .none]) :: (D2, tupO ((qs.zip us).map fun p => Value.str p.1 p.2).toArray) :: (D3, tupO #[]) :: rest) h tk' tk2 (fun y hy => .tail _ (.tail _ (.tail _ hy))) ?_ ⟨D1, D2, D3, u1, u2, us, hu, rfl, .head _, .tail _ (.head _), .tail _ (.tail _ (.head _))⟩ F ?_
  · intro y hy
    rcases List.mem_cons.mp hy with e | hy
    · rw [e]; exact off _ _ (N _ (.head _)).1 (show Value.type "tuple" ≠ Value.type "dict" from by decide)
    · rcases List.mem_cons.mp hy with e | hy
      · rw [e]; exact off _ _ (N _ (.tail _ (.head _))).1 (show Value.type "tuple" ≠ Value.type "dict" from by decide)
      · rcases List.mem_cons.mp hy with e | hy
        · rw [e]; exact off _ _ (N _ (.tail _ (.tail _ (.head _)))).1 (show Value.type "tuple" ≠ Value.type "dict" from by decide)
        · exact hrest y hy
  · intro y hy
    refine N y ?_
    simp only [List.mem_cons] at hy ⊢
    rcases hy with e | e | e | e | e | e <;> simp [e]

section
variable {w : World} {p : Program} {loose : List Str} {mean : ExcName → Option Value} {mg mb : Str → Option Value}
  {env : Env} {outer : List Env} {gd : Option (List Code)} {A₀ : Around} {base h₀ : Heap} {L : Addr} {m : Str → Option Value} {news : List (Addr × Obj)} {g : Obj → List (Addr × Obj)} {s : Shared} {Q E : Value → Shared → Prop}
  {D U : Nat} {r dr lt nd : Addr} {t1 t2 t3 tk ka : Tok} {q k : Int} {n : Nat} {l : List Tk}
theorem read_ref0 {rest : List (Addr × Obj)} {a  : Tk} (hD : D ≤ 920) (hU : U ≤ 4600) (B : Below A₀ base outer h₀) (F : Fr h₀ L s.heap m) (X : (kdef.heap_1 w.params).In h₀) (N : News h₀ L s.heap ((r, instObj 371 dr) :: (dr, rdO w.params t1 t2 t3 lt q tk nd) :: rest)) (hrest : ∀ q ∈ rest, q.1 ≠ dr) (hne : r ≠ dr) 
  (T : Top p loose mean mg mb h₀) (hf : env.frame = some L) (hke : env.scope.kind = .function) (tb : TB w.params h₀ lt l) (h0 : 0 ≤ q) (h2 : q < 9900)
  (hb : isName l (q + 0) = true) (ho : tokAt l (q + 0) = some a) (hw1 : isWord l (q + 1 + 0) (Str.ofString "OF") = false) (hw2 : isWord l (q + 1 + 0) (Str.ofString "IN") = false) (hs : isSign l (q + 1 + 0) (Str.ofString "(") = false)
  (ret : ∀ v rest' h' tk' tk2, (∀ x ∈ rest, x ∈ rest') → (∀ q ∈ rest', q.1 ≠ dr) → DepIn rest' v a.x [] → Fr h₀ L h' m → News h₀ L h' ((r, instObj 371 dr) :: (dr, rdO w.params t1 t2 t3 lt (q + 1) tk2 nd) :: rest') → Q v { s with heap := h', toks := tk' }) :
  wpAny (model PG w) (ctx D U env outer gd) (call (.ref 80) [.ref r, .ref 87]) Q E s := by
  refine ctx_mono hD hU ?_
  have hne1 := neN hne
  refine wpAny_call ?_
  k_dflt k_enter
  (repeat' (first | (with_reducible refine unstp ?_; first | ((k_here; k_dflt (refine' one_of_IN ?hD ?hU ?B ?F ?X ?N ?hr ?hu ?T ?hf ?hke ?tb ?h0 ?h2 ?hb ?hb2 ?_; (case hD => exact Nat.le_of_ble_eq_true rfl); (case hU => exact Nat.le_of_ble_eq_true rfl); (case B => k_asm); (case F => k_asm); (case X => k_asm); (case N => k_asm); (case hr => k_mem); (case hu => k_updF); (case T => k_asm); (case hf => rfl); (case hke => rfl); (case tb => assumption); (case h0 => omega); (case h2 => omega); (case hb => assumption); (case hb2 => assumption); k_whole); intro h9z' tk9z' tk29z' tk39z' F9z' N9z'; (try dsimp only at N9z'))) | ((k_here; k_dflt (refine' one_of_OF ?hD ?hU ?B ?F ?X ?N ?hr ?hu ?T ?hf ?hke ?tb ?h0 ?h2 ?hb ?_; (case hD => exact Nat.le_of_ble_eq_true rfl); (case hU => exact Nat.le_of_ble_eq_true rfl); (case B => k_asm); (case F => k_asm); (case X => k_asm); (case N => k_asm); (case hr => k_mem); (case hu => k_updF); (case T => k_asm); (case hf => rfl); (case hke => rfl); (case tb => assumption); (case h0 => omega); (case h2 => omega); (case hb => assumption); k_whole); intro h9z' tk9z' tk29z' tk39z' F9z' N9z'; (try dsimp only at N9z'))) | ((k_here; k_dflt (refine' one_of_0 ?hD ?hU ?B ?F ?X ?N ?hr ?hd ?T ?hf ?hke ?tb ?h0 ?h2 ?hb ?hb2 ?_; (case hD => exact Nat.le_of_ble_eq_true rfl); (case hU => exact Nat.le_of_ble_eq_true rfl); (case B => k_asm); (case F => k_asm); (case X => k_asm); (case N => k_asm); (case hr => k_mem); (case hd => k_mem); (case T => k_asm); (case hf => rfl); (case hke => rfl); (case tb => assumption); (case h0 => omega); (case h2 => omega); (case hb => assumption); (case hb2 => assumption); k_whole); intro h9z' tk9z' tk29z' tk39z' F9z' N9z'; (try dsimp only at N9z'))) | ((k_here; k_dflt (refine' ipn_c ?hD ?hU ?B ?F ?X ?N ?hr ?hd ?T ?hf ?hke ?tb ?h0 ?h2 ?hb ?_; (case hD => exact Nat.le_of_ble_eq_true rfl); (case hU => exact Nat.le_of_ble_eq_true rfl); (case B => k_asm); (case F => k_asm); (case X => k_asm); (case N => k_asm); (case hr => k_mem); (case hd => k_mem); (case T => k_asm); (case hf => rfl); (case hke => rfl); (case tb => assumption); (case h0 => omega); (case h2 => omega); (case hb => assumption); k_whole); intro h9z' tk9z' F9z' N9z'; (try dsimp only [tkv]))) | ((k_here; k_dflt (refine whl_start 100 ?_))) | ((k_here; k_dflt (refine' is_sign_c ?hD ?hU ?B ?F ?X ?N ?hr ?hd ?T ?hf ?hke ?tb ?h0 ?h2 ?hb ?_; (case hD => exact Nat.le_of_ble_eq_true rfl); (case hU => exact Nat.le_of_ble_eq_true rfl); (case B => k_asm); (case F => k_asm); (case X => k_asm); (case N => k_asm); (case hr => k_mem); (case hd => k_mem); (case T => k_asm); (case hf => rfl); (case hke => rfl); (case tb => assumption); (case h0 => omega); (case h2 => omega); (case hb => first | assumption | exact rfl); k_whole); intro h9z' tk9z' F9z' N9z'; (try dsimp only [tkv]))) | ((k_here; k_dflt (refine' name_c ?hD ?hU ?B ?F ?X ?N ?hr ?hu ?T ?hf ?hke ?tb ?h0 ?h2 ?hb ?ho ?_; (case hD => exact Nat.le_of_ble_eq_true rfl); (case hU => exact Nat.le_of_ble_eq_true rfl); (case B => k_asm); (case F => k_asm); (case X => k_asm); (case N => k_asm); (case hr => k_mem); (case hu => k_updF); (case T => k_asm); (case hf => rfl); (case hke => rfl); (case tb => assumption); (case h0 => omega); (case h2 => omega); (case hb => assumption); (case ho => assumption); k_whole); intro h9z' tk9z' tk29z' F9z' N9z'; (try dsimp only at N9z'))) | (refine goM ?_; k_dflt walk1) | (k_dflt (dsimp only); refine stp ?_)) | (k_unfold; (first | with_reducible refine (?_ : wpAny _ _ _ _ _ _) | (try dsimp only))) | (k_end; wrow_close) | walk1 | (dsimp only; walk1) | (leave1; walk_say "STEP leave1"; try dsimp only) | fail "no step"))
  all_goals exact rref_end (by k_asm) (by assumption) (by k_asm) hrest (us := []) rfl ret
theorem read_ref1 {rest : List (Addr × Obj)} {a b : Tk} (hD : D ≤ 920) (hU : U ≤ 4600) (B : Below A₀ base outer h₀) (F : Fr h₀ L s.heap m) (X : (kdef.heap_1 w.params).In h₀) (N : News h₀ L s.heap ((r, instObj 371 dr) :: (dr, rdO w.params t1 t2 t3 lt q tk nd) :: rest)) (hrest : ∀ q ∈ rest, q.1 ≠ dr) (hne : r ≠ dr) 
  (T : Top p loose mean mg mb h₀) (hf : env.frame = some L) (hke : env.scope.kind = .function) (tb : TB w.params h₀ lt l) (h0 : 0 ≤ q) (h2 : q < 9900)
  (hb : isName l (q + 0) = true) (ho : tokAt l (q + 0) = some a) (ha1 : isWord l (q + 1 + 0) (Str.ofString "OF") = true) (ha2 : isName l (q + 1 + 1 + 0) = true) (ha3 : tokAt l (q + 1 + 1 + 0) = some b) (hw1 : isWord l (q + 1 + 1 + 1 + 0) (Str.ofString "OF") = false) (hw2 : isWord l (q + 1 + 1 + 1 + 0) (Str.ofString "IN") = false) (hs : isSign l (q + 1 + 1 + 1 + 0) (Str.ofString "(") = false)
  (ret : ∀ v rest' h' tk' tk2, (∀ x ∈ rest, x ∈ rest') → (∀ q ∈ rest', q.1 ≠ dr) → DepIn rest' v a.x [b.x] → Fr h₀ L h' m → News h₀ L h' ((r, instObj 371 dr) :: (dr, rdO w.params t1 t2 t3 lt (q + 1 + 1 + 1) tk2 nd) :: rest') → Q v { s with heap := h', toks := tk' }) :
  wpAny (model PG w) (ctx D U env outer gd) (call (.ref 80) [.ref r, .ref 87]) Q E s := by
  refine ctx_mono hD hU ?_
  have hne1 := neN hne
  refine wpAny_call ?_
  k_dflt k_enter
  (repeat' (first | (with_reducible refine unstp ?_; first | ((k_here; k_dflt (refine' one_of_IN ?hD ?hU ?B ?F ?X ?N ?hr ?hu ?T ?hf ?hke ?tb ?h0 ?h2 ?hb ?hb2 ?_; (case hD => exact Nat.le_of_ble_eq_true rfl); (case hU => exact Nat.le_of_ble_eq_true rfl); (case B => k_asm); (case F => k_asm); (case X => k_asm); (case N => k_asm); (case hr => k_mem); (case hu => k_updF); (case T => k_asm); (case hf => rfl); (case hke => rfl); (case tb => assumption); (case h0 => omega); (case h2 => omega); (case hb => assumption); (case hb2 => assumption); k_whole); intro h9z' tk9z' tk29z' tk39z' F9z' N9z'; (try dsimp only at N9z'))) | ((k_here; k_dflt (refine' one_of_OF ?hD ?hU ?B ?F ?X ?N ?hr ?hu ?T ?hf ?hke ?tb ?h0 ?h2 ?hb ?_; (case hD => exact Nat.le_of_ble_eq_true rfl); (case hU => exact Nat.le_of_ble_eq_true rfl); (case B => k_asm); (case F => k_asm); (case X => k_asm); (case N => k_asm); (case hr => k_mem); (case hu => k_updF); (case T => k_asm); (case hf => rfl); (case hke => rfl); (case tb => assumption); (case h0 => omega); (case h2 => omega); (case hb => assumption); k_whole); intro h9z' tk9z' tk29z' tk39z' F9z' N9z'; (try dsimp only at N9z'))) | ((k_here; k_dflt (refine' one_of_0 ?hD ?hU ?B ?F ?X ?N ?hr ?hd ?T ?hf ?hke ?tb ?h0 ?h2 ?hb ?hb2 ?_; (case hD => exact Nat.le_of_ble_eq_true rfl); (case hU => exact Nat.le_of_ble_eq_true rfl); (case B => k_asm); (case F => k_asm); (case X => k_asm); (case N => k_asm); (case hr => k_mem); (case hd => k_mem); (case T => k_asm); (case hf => rfl); (case hke => rfl); (case tb => assumption); (case h0 => omega); (case h2 => omega); (case hb => assumption); (case hb2 => assumption); k_whole); intro h9z' tk9z' tk29z' tk39z' F9z' N9z'; (try dsimp only at N9z'))) | ((k_here; k_dflt (refine' ipn_c ?hD ?hU ?B ?F ?X ?N ?hr ?hd ?T ?hf ?hke ?tb ?h0 ?h2 ?hb ?_; (case hD => exact Nat.le_of_ble_eq_true rfl); (case hU => exact Nat.le_of_ble_eq_true rfl); (case B => k_asm); (case F => k_asm); (case X => k_asm); (case N => k_asm); (case hr => k_mem); (case hd => k_mem); (case T => k_asm); (case hf => rfl); (case hke => rfl); (case tb => assumption); (case h0 => omega); (case h2 => omega); (case hb => assumption); k_whole); intro h9z' tk9z' F9z' N9z'; (try dsimp only [tkv]))) | ((k_here; k_dflt (refine whl_start 100 ?_))) | ((k_here; k_dflt (refine' is_sign_c ?hD ?hU ?B ?F ?X ?N ?hr ?hd ?T ?hf ?hke ?tb ?h0 ?h2 ?hb ?_; (case hD => exact Nat.le_of_ble_eq_true rfl); (case hU => exact Nat.le_of_ble_eq_true rfl); (case B => k_asm); (case F => k_asm); (case X => k_asm); (case N => k_asm); (case hr => k_mem); (case hd => k_mem); (case T => k_asm); (case hf => rfl); (case hke => rfl); (case tb => assumption); (case h0 => omega); (case h2 => omega); (case hb => first | assumption | exact rfl); k_whole); intro h9z' tk9z' F9z' N9z'; (try dsimp only [tkv]))) | ((k_here; k_dflt (refine' name_c ?hD ?hU ?B ?F ?X ?N ?hr ?hu ?T ?hf ?hke ?tb ?h0 ?h2 ?hb ?ho ?_; (case hD => exact Nat.le_of_ble_eq_true rfl); (case hU => exact Nat.le_of_ble_eq_true rfl); (case B => k_asm); (case F => k_asm); (case X => k_asm); (case N => k_asm); (case hr => k_mem); (case hu => k_updF); (case T => k_asm); (case hf => rfl); (case hke => rfl); (case tb => assumption); (case h0 => omega); (case h2 => omega); (case hb => assumption); (case ho => assumption); k_whole); intro h9z' tk9z' tk29z' F9z' N9z'; (try dsimp only at N9z'))) | (refine goM ?_; k_dflt walk1) | (k_dflt (dsimp only); refine stp ?_)) | (k_unfold; (first | with_reducible refine (?_ : wpAny _ _ _ _ _ _) | (try dsimp only))) | (k_end; wrow_close) | walk1 | (dsimp only; walk1) | (leave1; walk_say "STEP leave1"; try dsimp only) | fail "no step"))
  all_goals exact rref_end (by k_asm) (by assumption) (by k_asm) hrest (us := [b.k2]) rfl ret
theorem read_ref2 {rest : List (Addr × Obj)} {a b c : Tk} (hD : D ≤ 920) (hU : U ≤ 4600) (B : Below A₀ base outer h₀) (F : Fr h₀ L s.heap m) (X : (kdef.heap_1 w.params).In h₀) (N : News h₀ L s.heap ((r, instObj 371 dr) :: (dr, rdO w.params t1 t2 t3 lt q tk nd) :: rest)) (hrest : ∀ q ∈ rest, q.1 ≠ dr) (hne : r ≠ dr) 
  (T : Top p loose mean mg mb h₀) (hf : env.frame = some L) (hke : env.scope.kind = .function) (tb : TB w.params h₀ lt l) (h0 : 0 ≤ q) (h2 : q < 9900)
  (hb : isName l (q + 0) = true) (ho : tokAt l (q + 0) = some a) (ha1 : isWord l (q + 1 + 0) (Str.ofString "OF") = true) (ha2 : isName l (q + 1 + 1 + 0) = true) (ha3 : tokAt l (q + 1 + 1 + 0) = some b) (hc0 : isWord l (q + 1 + 1 + 1 + 0) (Str.ofString "OF") = false) (hc1 : isWord l (q + 1 + 1 + 1 + 0) (Str.ofString "IN") = true) (hc2 : isName l (q + 1 + 1 + 1 + 1 + 0) = true) (hc3 : tokAt l (q + 1 + 1 + 1 + 1 + 0) = some c) (hw1 : isWord l (q + 1 + 1 + 1 + 1 + 1 + 0) (Str.ofString "OF") = false) (hw2 : isWord l (q + 1 + 1 + 1 + 1 + 1 + 0) (Str.ofString "IN") = false) (hs : isSign l (q + 1 + 1 + 1 + 1 + 1 + 0) (Str.ofString "(") = false)
  (ret : ∀ v rest' h' tk' tk2, (∀ x ∈ rest, x ∈ rest') → (∀ q ∈ rest', q.1 ≠ dr) → DepIn rest' v a.x [b.x, c.x] → Fr h₀ L h' m → News h₀ L h' ((r, instObj 371 dr) :: (dr, rdO w.params t1 t2 t3 lt (q + 1 + 1 + 1 + 1 + 1) tk2 nd) :: rest') → Q v { s with heap := h', toks := tk' }) :
  wpAny (model PG w) (ctx D U env outer gd) (call (.ref 80) [.ref r, .ref 87]) Q E s := by
  refine ctx_mono hD hU ?_
  have hne1 := neN hne
  refine wpAny_call ?_
  k_dflt k_enter
  (repeat' (first | (with_reducible refine unstp ?_; first | ((k_here; k_dflt (refine' one_of_IN ?hD ?hU ?B ?F ?X ?N ?hr ?hu ?T ?hf ?hke ?tb ?h0 ?h2 ?hb ?hb2 ?_; (case hD => exact Nat.le_of_ble_eq_true rfl); (case hU => exact Nat.le_of_ble_eq_true rfl); (case B => k_asm); (case F => k_asm); (case X => k_asm); (case N => k_asm); (case hr => k_mem); (case hu => k_updF); (case T => k_asm); (case hf => rfl); (case hke => rfl); (case tb => assumption); (case h0 => omega); (case h2 => omega); (case hb => assumption); (case hb2 => assumption); k_whole); intro h9z' tk9z' tk29z' tk39z' F9z' N9z'; (try dsimp only at N9z'))) | ((k_here; k_dflt (refine' one_of_OF ?hD ?hU ?B ?F ?X ?N ?hr ?hu ?T ?hf ?hke ?tb ?h0 ?h2 ?hb ?_; (case hD => exact Nat.le_of_ble_eq_true rfl); (case hU => exact Nat.le_of_ble_eq_true rfl); (case B => k_asm); (case F => k_asm); (case X => k_asm); (case N => k_asm); (case hr => k_mem); (case hu => k_updF); (case T => k_asm); (case hf => rfl); (case hke => rfl); (case tb => assumption); (case h0 => omega); (case h2 => omega); (case hb => assumption); k_whole); intro h9z' tk9z' tk29z' tk39z' F9z' N9z'; (try dsimp only at N9z'))) | ((k_here; k_dflt (refine' one_of_0 ?hD ?hU ?B ?F ?X ?N ?hr ?hd ?T ?hf ?hke ?tb ?h0 ?h2 ?hb ?hb2 ?_; (case hD => exact Nat.le_of_ble_eq_true rfl); (case hU => exact Nat.le_of_ble_eq_true rfl); (case B => k_asm); (case F => k_asm); (case X => k_asm); (case N => k_asm); (case hr => k_mem); (case hd => k_mem); (case T => k_asm); (case hf => rfl); (case hke => rfl); (case tb => assumption); (case h0 => omega); (case h2 => omega); (case hb => assumption); (case hb2 => assumption); k_whole); intro h9z' tk9z' tk29z' tk39z' F9z' N9z'; (try dsimp only at N9z'))) | ((k_here; k_dflt (refine' ipn_c ?hD ?hU ?B ?F ?X ?N ?hr ?hd ?T ?hf ?hke ?tb ?h0 ?h2 ?hb ?_; (case hD => exact Nat.le_of_ble_eq_true rfl); (case hU => exact Nat.le_of_ble_eq_true rfl); (case B => k_asm); (case F => k_asm); (case X => k_asm); (case N => k_asm); (case hr => k_mem); (case hd => k_mem); (case T => k_asm); (case hf => rfl); (case hke => rfl); (case tb => assumption); (case h0 => omega); (case h2 => omega); (case hb => assumption); k_whole); intro h9z' tk9z' F9z' N9z'; (try dsimp only [tkv]))) | ((k_here; k_dflt (refine whl_start 100 ?_))) | ((k_here; k_dflt (refine' is_sign_c ?hD ?hU ?B ?F ?X ?N ?hr ?hd ?T ?hf ?hke ?tb ?h0 ?h2 ?hb ?_; (case hD => exact Nat.le_of_ble_eq_true rfl); (case hU => exact Nat.le_of_ble_eq_true rfl); (case B => k_asm); (case F => k_asm); (case X => k_asm); (case N => k_asm); (case hr => k_mem); (case hd => k_mem); (case T => k_asm); (case hf => rfl); (case hke => rfl); (case tb => assumption); (case h0 => omega); (case h2 => omega); (case hb => first | assumption | exact rfl); k_whole); intro h9z' tk9z' F9z' N9z'; (try dsimp only [tkv]))) | ((k_here; k_dflt (refine' name_c ?hD ?hU ?B ?F ?X ?N ?hr ?hu ?T ?hf ?hke ?tb ?h0 ?h2 ?hb ?ho ?_; (case hD => exact Nat.le_of_ble_eq_true rfl); (case hU => exact Nat.le_of_ble_eq_true rfl); (case B => k_asm); (case F => k_asm); (case X => k_asm); (case N => k_asm); (case hr => k_mem); (case hu => k_updF); (case T => k_asm); (case hf => rfl); (case hke => rfl); (case tb => assumption); (case h0 => omega); (case h2 => omega); (case hb => assumption); (case ho => assumption); k_whole); intro h9z' tk9z' tk29z' F9z' N9z'; (try dsimp only at N9z'))) | (refine goM ?_; k_dflt walk1) | (k_dflt (dsimp only); refine stp ?_)) | (k_unfold; (first | with_reducible refine (?_ : wpAny _ _ _ _ _ _) | (try dsimp only))) | (k_end; wrow_close) | walk1 | (dsimp only; walk1) | (leave1; walk_say "STEP leave1"; try dsimp only) | fail "no step"))
  all_goals exact rref_end (by k_asm) (by assumption) (by k_asm) hrest (us := [b.k2, c.k2]) rfl ret
end


theorem execs_wp {M : Model} {Γ : Ctx} {env : Env} {Q : Flow → Pos → Shared → Prop} {E : Value → Pos → Shared → Prop} {b : List Stmt} : ∀ (a : List Stmt) (p : Pos) (s : Shared),
    Sem.wp M Γ (execs (a ++ b) env) Q E p s = Sem.wp M Γ (execs a env) (fun f p' s' => match f with | .next => Sem.wp M Γ (execs b env) Q E p' s' | f => Q f p' s') E p s
  | [], p, s => by
    rw [List.nil_append]
    show _ = Sem.wp M Γ (pure Flow.next) _ E p s
    rw [Sem.wp_pure']
  | x :: xs, p, s => by
    rw [List.cons_append, execs_cons, execs_cons, Sem.wp_bind', Sem.wp_bind']
    congr 1
    funext f p' s'
    cases f with
    | next => exact execs_wp xs p' s'
    | brk => simp only [Sem.wp_pure']
    | cont => simp only [Sem.wp_pure']
    | ret v => simp only [Sem.wp_pure']
theorem execs_cut {M : Model} {A : Around} {E : Value → Shared → Prop} {env : Env} {Q : Flow → Shared → Prop} {I : Shared → Prop} {a b : List Stmt} {s : Shared}
    (h1 : wpAny M A (execs a env) (fun f s' => f = .next ∧ I s') E s) (h2 : ∀ s', I s' → wpAny M A (execs b env) Q E s') : wpAny M A (execs (a ++ b) env) Q E s := by
  intro Γ p hΓ
  rw [execs_wp]
  refine Sem.wp_mono M Γ _ (fun f p' s' h => ?_) (fun _ _ _ q => q) _ _ (h1 Γ p hΓ)
  obtain ⟨rfl, h⟩ := h
  exact h2 s' h Γ p' hΓ
noncomputable def roPack : PSigma fun x : List Stmt × Scope => ∃ n a d r t ts bd ps, (PG.main.body[11]? : Option Stmt) = some (Stmt.FunctionDef n a x.1 d r t x.2 ts bd ps) := ⟨(_, _), _, _, _, _, _, _, _, _, rfl⟩
noncomputable abbrev roEnv (L : Addr) : Env := envOfC (Str.ofString "read_occurs") roPack.1.2 L 92 (.ref 91)
noncomputable def NumAt (l : List Tk) (q : Int) (u : Int) : Prop := isKind l (q + 0) "number" = true ∧ ∃ t, tokAt l (q + 0) = some t ∧ (t.x, u) ∈ digits
noncomputable def TailT (l : List Tk) (q q' : Int) (wd : Str) : Prop := (isWord l (q + 0) wd = false ∧ q' = q) ∨ (isWord l (q + 0) wd = true ∧ q' = q + 1)
noncomputable def SegA (l : List Tk) (q low high qA : Int) : Prop := NumAt l q low ∧ ((isWord l (q + 1 + 0) "TO" = false ∧ high = low ∧ TailT l (q + 1) qA "TIMES") ∨ (isWord l (q + 1 + 0) "TO" = true ∧ NumAt l (q + 1 + 1) high ∧ TailT l (q + 1 + 1 + 1) qA "TIMES"))
inductive StA (P : Params) (h₀ : Heap) (L r dr lt nd : Addr) (t1 t2 t3 : Tok) (co : Obj) (rest : List (Addr × Obj)) (low high qA : Int) (s s' : Shared) : Prop
  | mk (m' : _) (h' : _) (tk' : _) (tk2 : _) (u1 : _) (u2 : _) (f1 : s' = { s with heap := h', toks := tk' }) (f2 : Fr h₀ L h' m') (f3 : News h₀ L h' ((L + 1, co) :: (r, instObj 371 dr) :: (dr, rdO P t1 t2 t3 lt qA tk2 nd) :: rest)) (f4 : m' (Str.ofString "reader") = some (.ref r)) (f5 : m' (Str.ofString "low") = some (.int low u1)) (f6 : m' (Str.ofString "high") = some (.int high u2)) (f7 : m' (Str.ofString "depending") = some .none) : StA P h₀ L r dr lt nd t1 t2 t3 co rest low high qA s s'

section
variable {w : World} {p : Program} {loose : List Str} {mean : ExcName → Option Value} {mg mb : Str → Option Value}
  {env : Env} {outer : List Env} {gd : Option (List Code)} {A₀ : Around} {base h₀ : Heap} {L : Addr} {m : Str → Option Value} {news : List (Addr × Obj)} {g : Obj → List (Addr × Obj)} {s : Shared} {Q E : Value → Shared → Prop}
  {D U : Nat} {r dr lt nd : Addr} {t1 t2 t3 tk ka : Tok} {q k : Int} {n : Nat} {l : List Tk}

theorem roA {co : Obj} {rest : List (Addr × Obj)} {low high qA : Int} (B : Below A₀ base outer h₀) (F : Fr h₀ L s.heap m) (X : (kdef.heap_1 w.params).In h₀) (N : News h₀ L s.heap ((L + 1, co) :: (r, instObj 371 dr) :: (dr, rdO w.params t1 t2 t3 lt q tk nd) :: rest)) (hrest : ∀ q ∈ rest, q.1 ≠ dr) (hne : r ≠ dr) (hL : dr < L)
  (T : Top p loose mean mg mb h₀) (tb : TB w.params h₀ lt l) (h0 : 0 ≤ q) (h2 : q < 9000) (hm : m (Str.ofString "reader") = some (.ref r)) (hA : SegA l q low high qA) :
  wpAny (model PG w) (ctx 861 4303 (roEnv L) outer gd) (execs (roPack.1.1.take 4) (roEnv L)) (fun f s' => f = .next ∧ StA w.params h₀ L r dr lt nd t1 t2 t3 co rest low high qA s s') E s := by
  have hne1 := neN hne
  have hL1 := ltN hL
  simp only [roPack, List.take_succ_cons, List.take_zero, List.drop_succ_cons, List.drop_zero, roEnv]
  obtain ⟨⟨hk, t, ho, hx⟩, hA⟩ := hA
  rcases hA with ⟨hto, rfl, hT⟩ | ⟨hto, ⟨hk2, t', ho2, hx2⟩, hT⟩
  · rcases hT with ⟨hti, rfl⟩ | ⟨hti, rfl⟩
    · (repeat' (first | (with_reducible refine unstp ?_; first | ((k_here; k_dflt (refine' whole_c ?hD ?hU ?B ?F ?X ?N ?hr ?hu ?T ?hf ?hke ?tb ?h0 ?h2 ?hk ?ho ?hx ?_; (case hD => exact Nat.le_of_ble_eq_true rfl); (case hU => exact Nat.le_of_ble_eq_true rfl); (case B => k_asm); (case F => k_asm); (case X => k_asm); (case N => k_asm); (case hr => k_mem); (case hu => k_updF); (case T => k_asm); (case hf => rfl); (case hke => rfl); (case tb => assumption); (case h0 => omega); (case h2 => omega); (case hk => assumption); (case ho => assumption); (case hx => assumption); k_whole); intro h9z' tk9z' tk29z' tk39z' F9z' N9z'; (try dsimp only at N9z'))) | ((k_here; k_dflt (refine' skip_t ?hD ?hU ?B ?F ?X ?N ?hr ?hu ?T ?hf ?hke ?tb ?h0 ?h2 ?hsp ?hz ?hb ?_; (case hD => exact Nat.le_of_ble_eq_true rfl); (case hU => exact Nat.le_of_ble_eq_true rfl); (case B => k_asm); (case F => k_asm); (case X => k_asm); (case N => k_asm); (case hr => k_mem); (case hu => k_updF); (case T => k_asm); (case hf => rfl); (case hke => rfl); (case tb => assumption); (case h0 => omega); (case h2 => omega); (case hsp => first | assumption | decide +kernel); (case hz => first | assumption | decide +kernel); (case hb => assumption); k_whole); intro h9z' tk9z' tk29z' F9z' N9z'; (try dsimp only at N9z'))) | ((k_here; k_dflt (refine' skip_f ?hD ?hU ?B ?F ?X ?N ?hr ?hd ?T ?hf ?hke ?tb ?h0 ?h2 ?hsp ?hz ?hb ?_; (case hD => exact Nat.le_of_ble_eq_true rfl); (case hU => exact Nat.le_of_ble_eq_true rfl); (case B => k_asm); (case F => k_asm); (case X => k_asm); (case N => k_asm); (case hr => k_mem); (case hd => k_mem); (case T => k_asm); (case hf => rfl); (case hke => rfl); (case tb => assumption); (case h0 => omega); (case h2 => omega); (case hsp => first | assumption | decide +kernel); (case hz => first | assumption | decide +kernel); (case hb => assumption); k_whole); intro h9z' tk9z' F9z' N9z'; (try dsimp only [tkv]))) | (refine goM ?_; k_dflt walk1) | (k_dflt (dsimp only); refine stp ?_)) | (k_unfold; (first | with_reducible refine (?_ : wpAny _ _ _ _ _ _) | (try dsimp only))) | (k_end; wrow_close) | walk1 | (dsimp only; walk1) | (leave1; walk_say "STEP leave1"; try dsimp only) | fail "no step"))
      all_goals exact ⟨_, _, _, _, _, _, rfl, by k_asm, by first | exact nb1 (by k_asm) (fun _ h => h) | k_asm, (by (try dsimp only); first | assumption | rfl | (simp (decide := true) only [reduceIte]; done) | (simp (decide := true) only [reduceIte]; assumption)), (by (try dsimp only); first | assumption | rfl | (simp (decide := true) only [reduceIte]; done) | (simp (decide := true) only [reduceIte]; assumption)), (by (try dsimp only); first | assumption | rfl | (simp (decide := true) only [reduceIte]; done) | (simp (decide := true) only [reduceIte]; assumption)), (by (try dsimp only); first | assumption | rfl | (simp (decide := true) only [reduceIte]; done) | (simp (decide := true) only [reduceIte]; assumption))⟩
    · (repeat' (first | (with_reducible refine unstp ?_; first | ((k_here; k_dflt (refine' whole_c ?hD ?hU ?B ?F ?X ?N ?hr ?hu ?T ?hf ?hke ?tb ?h0 ?h2 ?hk ?ho ?hx ?_; (case hD => exact Nat.le_of_ble_eq_true rfl); (case hU => exact Nat.le_of_ble_eq_true rfl); (case B => k_asm); (case F => k_asm); (case X => k_asm); (case N => k_asm); (case hr => k_mem); (case hu => k_updF); (case T => k_asm); (case hf => rfl); (case hke => rfl); (case tb => assumption); (case h0 => omega); (case h2 => omega); (case hk => assumption); (case ho => assumption); (case hx => assumption); k_whole); intro h9z' tk9z' tk29z' tk39z' F9z' N9z'; (try dsimp only at N9z'))) | ((k_here; k_dflt (refine' skip_t ?hD ?hU ?B ?F ?X ?N ?hr ?hu ?T ?hf ?hke ?tb ?h0 ?h2 ?hsp ?hz ?hb ?_; (case hD => exact Nat.le_of_ble_eq_true rfl); (case hU => exact Nat.le_of_ble_eq_true rfl); (case B => k_asm); (case F => k_asm); (case X => k_asm); (case N => k_asm); (case hr => k_mem); (case hu => k_updF); (case T => k_asm); (case hf => rfl); (case hke => rfl); (case tb => assumption); (case h0 => omega); (case h2 => omega); (case hsp => first | assumption | decide +kernel); (case hz => first | assumption | decide +kernel); (case hb => assumption); k_whole); intro h9z' tk9z' tk29z' F9z' N9z'; (try dsimp only at N9z'))) | ((k_here; k_dflt (refine' skip_f ?hD ?hU ?B ?F ?X ?N ?hr ?hd ?T ?hf ?hke ?tb ?h0 ?h2 ?hsp ?hz ?hb ?_; (case hD => exact Nat.le_of_ble_eq_true rfl); (case hU => exact Nat.le_of_ble_eq_true rfl); (case B => k_asm); (case F => k_asm); (case X => k_asm); (case N => k_asm); (case hr => k_mem); (case hd => k_mem); (case T => k_asm); (case hf => rfl); (case hke => rfl); (case tb => assumption); (case h0 => omega); (case h2 => omega); (case hsp => first | assumption | decide +kernel); (case hz => first | assumption | decide +kernel); (case hb => assumption); k_whole); intro h9z' tk9z' F9z' N9z'; (try dsimp only [tkv]))) | (refine goM ?_; k_dflt walk1) | (k_dflt (dsimp only); refine stp ?_)) | (k_unfold; (first | with_reducible refine (?_ : wpAny _ _ _ _ _ _) | (try dsimp only))) | (k_end; wrow_close) | walk1 | (dsimp only; walk1) | (leave1; walk_say "STEP leave1"; try dsimp only) | fail "no step"))
      all_goals exact ⟨_, _, _, _, _, _, rfl, by k_asm, by first | exact nb1 (by k_asm) (fun _ h => h) | k_asm, (by (try dsimp only); first | assumption | rfl | (simp (decide := true) only [reduceIte]; done) | (simp (decide := true) only [reduceIte]; assumption)), (by (try dsimp only); first | assumption | rfl | (simp (decide := true) only [reduceIte]; done) | (simp (decide := true) only [reduceIte]; assumption)), (by (try dsimp only); first | assumption | rfl | (simp (decide := true) only [reduceIte]; done) | (simp (decide := true) only [reduceIte]; assumption)), (by (try dsimp only); first | assumption | rfl | (simp (decide := true) only [reduceIte]; done) | (simp (decide := true) only [reduceIte]; assumption))⟩
  · rcases hT with ⟨hti, rfl⟩ | ⟨hti, rfl⟩
    · (repeat' (first | (with_reducible refine unstp ?_; first | ((k_here; k_dflt (refine' whole_c ?hD ?hU ?B ?F ?X ?N ?hr ?hu ?T ?hf ?hke ?tb ?h0 ?h2 ?hk ?ho ?hx ?_; (case hD => exact Nat.le_of_ble_eq_true rfl); (case hU => exact Nat.le_of_ble_eq_true rfl); (case B => k_asm); (case F => k_asm); (case X => k_asm); (case N => k_asm); (case hr => k_mem); (case hu => k_updF); (case T => k_asm); (case hf => rfl); (case hke => rfl); (case tb => assumption); (case h0 => omega); (case h2 => omega); (case hk => assumption); (case ho => assumption); (case hx => assumption); k_whole); intro h9z' tk9z' tk29z' tk39z' F9z' N9z'; (try dsimp only at N9z'))) | ((k_here; k_dflt (refine' skip_t ?hD ?hU ?B ?F ?X ?N ?hr ?hu ?T ?hf ?hke ?tb ?h0 ?h2 ?hsp ?hz ?hb ?_; (case hD => exact Nat.le_of_ble_eq_true rfl); (case hU => exact Nat.le_of_ble_eq_true rfl); (case B => k_asm); (case F => k_asm); (case X => k_asm); (case N => k_asm); (case hr => k_mem); (case hu => k_updF); (case T => k_asm); (case hf => rfl); (case hke => rfl); (case tb => assumption); (case h0 => omega); (case h2 => omega); (case hsp => first | assumption | decide +kernel); (case hz => first | assumption | decide +kernel); (case hb => assumption); k_whole); intro h9z' tk9z' tk29z' F9z' N9z'; (try dsimp only at N9z'))) | ((k_here; k_dflt (refine' skip_f ?hD ?hU ?B ?F ?X ?N ?hr ?hd ?T ?hf ?hke ?tb ?h0 ?h2 ?hsp ?hz ?hb ?_; (case hD => exact Nat.le_of_ble_eq_true rfl); (case hU => exact Nat.le_of_ble_eq_true rfl); (case B => k_asm); (case F => k_asm); (case X => k_asm); (case N => k_asm); (case hr => k_mem); (case hd => k_mem); (case T => k_asm); (case hf => rfl); (case hke => rfl); (case tb => assumption); (case h0 => omega); (case h2 => omega); (case hsp => first | assumption | decide +kernel); (case hz => first | assumption | decide +kernel); (case hb => assumption); k_whole); intro h9z' tk9z' F9z' N9z'; (try dsimp only [tkv]))) | (refine goM ?_; k_dflt walk1) | (k_dflt (dsimp only); refine stp ?_)) | (k_unfold; (first | with_reducible refine (?_ : wpAny _ _ _ _ _ _) | (try dsimp only))) | (k_end; wrow_close) | walk1 | (dsimp only; walk1) | (leave1; walk_say "STEP leave1"; try dsimp only) | fail "no step"))
      all_goals exact ⟨_, _, _, _, _, _, rfl, by k_asm, by first | exact nb1 (by k_asm) (fun _ h => h) | k_asm, (by (try dsimp only); first | assumption | rfl | (simp (decide := true) only [reduceIte]; done) | (simp (decide := true) only [reduceIte]; assumption)), (by (try dsimp only); first | assumption | rfl | (simp (decide := true) only [reduceIte]; done) | (simp (decide := true) only [reduceIte]; assumption)), (by (try dsimp only); first | assumption | rfl | (simp (decide := true) only [reduceIte]; done) | (simp (decide := true) only [reduceIte]; assumption)), (by (try dsimp only); first | assumption | rfl | (simp (decide := true) only [reduceIte]; done) | (simp (decide := true) only [reduceIte]; assumption))⟩
    · (repeat' (first | (with_reducible refine unstp ?_; first | ((k_here; k_dflt (refine' whole_c ?hD ?hU ?B ?F ?X ?N ?hr ?hu ?T ?hf ?hke ?tb ?h0 ?h2 ?hk ?ho ?hx ?_; (case hD => exact Nat.le_of_ble_eq_true rfl); (case hU => exact Nat.le_of_ble_eq_true rfl); (case B => k_asm); (case F => k_asm); (case X => k_asm); (case N => k_asm); (case hr => k_mem); (case hu => k_updF); (case T => k_asm); (case hf => rfl); (case hke => rfl); (case tb => assumption); (case h0 => omega); (case h2 => omega); (case hk => assumption); (case ho => assumption); (case hx => assumption); k_whole); intro h9z' tk9z' tk29z' tk39z' F9z' N9z'; (try dsimp only at N9z'))) | ((k_here; k_dflt (refine' skip_t ?hD ?hU ?B ?F ?X ?N ?hr ?hu ?T ?hf ?hke ?tb ?h0 ?h2 ?hsp ?hz ?hb ?_; (case hD => exact Nat.le_of_ble_eq_true rfl); (case hU => exact Nat.le_of_ble_eq_true rfl); (case B => k_asm); (case F => k_asm); (case X => k_asm); (case N => k_asm); (case hr => k_mem); (case hu => k_updF); (case T => k_asm); (case hf => rfl); (case hke => rfl); (case tb => assumption); (case h0 => omega); (case h2 => omega); (case hsp => first | assumption | decide +kernel); (case hz => first | assumption | decide +kernel); (case hb => assumption); k_whole); intro h9z' tk9z' tk29z' F9z' N9z'; (try dsimp only at N9z'))) | ((k_here; k_dflt (refine' skip_f ?hD ?hU ?B ?F ?X ?N ?hr ?hd ?T ?hf ?hke ?tb ?h0 ?h2 ?hsp ?hz ?hb ?_; (case hD => exact Nat.le_of_ble_eq_true rfl); (case hU => exact Nat.le_of_ble_eq_true rfl); (case B => k_asm); (case F => k_asm); (case X => k_asm); (case N => k_asm); (case hr => k_mem); (case hd => k_mem); (case T => k_asm); (case hf => rfl); (case hke => rfl); (case tb => assumption); (case h0 => omega); (case h2 => omega); (case hsp => first | assumption | decide +kernel); (case hz => first | assumption | decide +kernel); (case hb => assumption); k_whole); intro h9z' tk9z' F9z' N9z'; (try dsimp only [tkv]))) | (refine goM ?_; k_dflt walk1) | (k_dflt (dsimp only); refine stp ?_)) | (k_unfold; (first | with_reducible refine (?_ : wpAny _ _ _ _ _ _) | (try dsimp only))) | (k_end; wrow_close) | walk1 | (dsimp only; walk1) | (leave1; walk_say "STEP leave1"; try dsimp only) | fail "no step"))
      all_goals exact ⟨_, _, _, _, _, _, rfl, by k_asm, by first | exact nb1 (by k_asm) (fun _ h => h) | k_asm, (by (try dsimp only); first | assumption | rfl | (simp (decide := true) only [reduceIte]; done) | (simp (decide := true) only [reduceIte]; assumption)), (by (try dsimp only); first | assumption | rfl | (simp (decide := true) only [reduceIte]; done) | (simp (decide := true) only [reduceIte]; assumption)), (by (try dsimp only); first | assumption | rfl | (simp (decide := true) only [reduceIte]; done) | (simp (decide := true) only [reduceIte]; assumption)), (by (try dsimp only); first | assumption | rfl | (simp (decide := true) only [reduceIte]; done) | (simp (decide := true) only [reduceIte]; assumption))⟩
end


noncomputable def DepV (news : List (Addr × Obj)) (v : Value) : Option (Str × List Str) → Prop
  | none => v = .none
  | some (x, qs) => DepIn news v x qs
theorem news_rot {h₀ h : Heap} {L : Addr} {a b c : Addr × Obj} {rest : List (Addr × Obj)} (N : News h₀ L h (a :: b :: c :: rest)) : News h₀ L h (b :: c :: a :: rest) := fun x hx => N x (by
  simp only [List.mem_cons] at hx ⊢
  rcases hx with e | e | e | e <;> simp [e])
theorem off_rot {dr : Addr} {a : Addr × Obj} {rest : List (Addr × Obj)} (h : ∀ q ∈ rest, q.1 ≠ dr) (ha : a.1 ≠ dr) : ∀ q ∈ a :: rest, q.1 ≠ dr := fun q hq => by
  rcases List.mem_cons.mp hq with e | hq
  · rw [e]; exact ha
  · exact h q hq
/-- the rest of the ledger behind a call that had the cell among the rest -/
theorem rest_back {h₀ h : Heap} {L r dr c : Addr} {co : Obj} {R O : Obj} {rest rest' : List (Addr × Obj)} {v : Value} {x : Str} {qs : List Str} (hco : co.data = .cell none) (N : News h₀ L h ((r, R) :: (dr, O) :: rest'))
    (hs : ∀ x ∈ (c, co) :: rest, x ∈ rest') (ho : ∀ q ∈ rest', q.1 ≠ dr) (hrest : ∀ q ∈ rest, q.1 ≠ dr ∧ q.1 ≠ c) (dv : DepIn rest' v x qs) :
    ∃ rest'', News h₀ L h ((c, co) :: (r, R) :: (dr, O) :: rest'') ∧ (∀ x ∈ rest, x ∈ rest'') ∧ (∀ q ∈ rest'', q.1 ≠ dr ∧ q.1 ≠ c) ∧ DepIn rest'' v x qs := by
  have hc := N (c, co) (.tail _ (.tail _ (hs _ (.head _))))
  have tup : ∀ (D : Addr) (vs : Array Value), (D, tupO vs) ∈ rest' → D ≠ c := by
    rintro D vs hm rfl
    have := (N _ (.tail _ (.tail _ hm))).1
    rw [hc.1] at this
    have e : co = tupO vs := Option.some.inj this
    rw [e] at hco
    cases hco
  refine ⟨rest'.filter (fun p => p.1 ≠ c), ?_, ?_, ?_, ?_⟩
  · intro y hy
    refine N y ?_
    simp only [List.mem_cons, List.mem_filter] at hy ⊢
    rcases hy with e | e | e | e
    · rw [e]; exact .inr (.inr (hs _ (.head _)))
    · exact .inl e
    · exact .inr (.inl e)
    · exact .inr (.inr e.1)
  · intro y hy
    exact List.mem_filter.mpr ⟨hs _ (.tail _ hy), by simpa using (hrest y hy).2⟩
  · intro q hq
    have := List.mem_filter.mp hq
    exact ⟨ho q this.1, by simpa using this.2⟩
  · obtain ⟨D1, D2, D3, u1, u2, us, e1, e2, m1, m2, m3⟩ := dv
    exact ⟨D1, D2, D3, u1, u2, us, e1, e2, List.mem_filter.mpr ⟨m1, by simpa using tup _ _ m1⟩, List.mem_filter.mpr ⟨m2, by simpa using tup _ _ m2⟩, List.mem_filter.mpr ⟨m3, by simpa using tup _ _ m3⟩⟩
inductive StB (P : Params) (h₀ : Heap) (L r dr lt nd : Addr) (t1 t2 t3 : Tok) (co : Obj) (rest : List (Addr × Obj)) (low high : Int) (dep : Option (Str × List Str)) (qB : Int) (s s' : Shared) : Prop
  | mk (m' : _) (h' : _) (tk' : _) (tk2 : _) (u1 : _) (u2 : _) (v : _) (rest' : _) (f1 : s' = { s with heap := h', toks := tk' }) (f2 : Fr h₀ L h' m') (f3 : News h₀ L h' ((L + 1, co) :: (r, instObj 371 dr) :: (dr, rdO P t1 t2 t3 lt qB tk2 nd) :: rest')) (f4 : (∀ x ∈ rest, x ∈ rest')) (f5 : (∀ q ∈ rest', q.1 ≠ dr ∧ q.1 ≠ L + 1)) (f6 : DepV rest' v dep) (f7 : m' (Str.ofString "reader") = some (.ref r)) (f8 : m' (Str.ofString "low") = some (.int low u1)) (f9 : m' (Str.ofString "high") = some (.int high u2)) (f10 : m' (Str.ofString "depending") = some v) : StB P h₀ L r dr lt nd t1 t2 t3 co rest low high dep qB s s'
noncomputable def RefAt (l : List Tk) (q : Int) (x : Str) (qs : List Str) (q' : Int) : Prop :=
  isName l (q + 0) = true ∧ ∃ a, tokAt l (q + 0) = some a ∧ a.x = x ∧
    ((qs = [] ∧ q' = q + 1) ∨
     (isWord l (q + 1 + 0) (Str.ofString "OF") = true ∧ isName l (q + 1 + 1 + 0) = true ∧ ∃ b, tokAt l (q + 1 + 1 + 0) = some b ∧
       ((qs = [b.x] ∧ q' = q + 1 + 1 + 1) ∨
        (isWord l (q + 1 + 1 + 1 + 0) (Str.ofString "OF") = false ∧ isWord l (q + 1 + 1 + 1 + 0) (Str.ofString "IN") = true ∧ isName l (q + 1 + 1 + 1 + 1 + 0) = true ∧ ∃ c, tokAt l (q + 1 + 1 + 1 + 1 + 0) = some c ∧ qs = [b.x, c.x] ∧ q' = q + 1 + 1 + 1 + 1 + 1)))) ∧
    isWord l (q' + 0) (Str.ofString "OF") = false ∧ isWord l (q' + 0) (Str.ofString "IN") = false ∧ isSign l (q' + 0) (Str.ofString "(") = false

section
variable {w : World} {p : Program} {loose : List Str} {mean : ExcName → Option Value} {mg mb : Str → Option Value}
  {env : Env} {outer : List Env} {gd : Option (List Code)} {A₀ : Around} {base h₀ : Heap} {L : Addr} {m : Str → Option Value} {news : List (Addr × Obj)} {g : Obj → List (Addr × Obj)} {s : Shared} {Q E : Value → Shared → Prop}
  {D U : Nat} {r dr lt nd : Addr} {t1 t2 t3 tk ka : Tok} {q k : Int} {n : Nat} {l : List Tk}
theorem read_ref_c {rest : List (Addr × Obj)} {x : Str} {qs : List Str} {q' : Int} (hD : D ≤ 920) (hU : U ≤ 4600) (B : Below A₀ base outer h₀) (F : Fr h₀ L s.heap m) (X : (kdef.heap_1 w.params).In h₀) (N : News h₀ L s.heap ((r, instObj 371 dr) :: (dr, rdO w.params t1 t2 t3 lt q tk nd) :: rest)) (hrest : ∀ q ∈ rest, q.1 ≠ dr) (hne : r ≠ dr) 
  (T : Top p loose mean mg mb h₀) (hf : env.frame = some L) (hke : env.scope.kind = .function) (tb : TB w.params h₀ lt l) (h0 : 0 ≤ q) (h2 : q < 9900)
  (ha : RefAt l q x qs q')
  (ret : ∀ v rest' h' tk' tk2, (∀ x ∈ rest, x ∈ rest') → (∀ q ∈ rest', q.1 ≠ dr) → DepIn rest' v x qs → Fr h₀ L h' m → News h₀ L h' ((r, instObj 371 dr) :: (dr, rdO w.params t1 t2 t3 lt q' tk2 nd) :: rest') → Q v { s with heap := h', toks := tk' }) :
  wpAny (model PG w) (ctx D U env outer gd) (call (.ref 80) [.ref r, .ref 87]) Q E s := by
  obtain ⟨h1, a, h3, rfl, h4, h5, h6, h7⟩ := ha
  rcases h4 with ⟨rfl, rfl⟩ | ⟨i1, i2, b, i3, ⟨rfl, rfl⟩ | ⟨i4, i5, i6, c, i7, rfl, rfl⟩⟩
  · exact read_ref0 hD hU B F X N hrest hne T hf hke tb h0 h2 h1 h3 h5 h6 h7 ret
  · exact read_ref1 hD hU B F X N hrest hne T hf hke tb h0 h2 h1 h3 i1 i2 i3 h5 h6 h7 ret
  · exact read_ref2 hD hU B F X N hrest hne T hf hke tb h0 h2 h1 h3 i1 i2 i3 i4 i5 i6 i7 h5 h6 h7 ret
end

noncomputable def SegB (l : List Tk) (q : Int) (dep : Option (Str × List Str)) (qB : Int) : Prop :=
  (isWord l (q + 0) (Str.ofString "DEPENDING") = false ∧ dep = none ∧ qB = q) ∨
  (isWord l (q + 0) (Str.ofString "DEPENDING") = true ∧ ∃ x qs q1, TailT l (q + 1) q1 (Str.ofString "ON") ∧ RefAt l q1 x qs qB ∧ dep = some (x, qs))

section
variable {w : World} {p : Program} {loose : List Str} {mean : ExcName → Option Value} {mg mb : Str → Option Value}
  {env : Env} {outer : List Env} {gd : Option (List Code)} {A₀ : Around} {base h₀ : Heap} {L : Addr} {m : Str → Option Value} {news : List (Addr × Obj)} {g : Obj → List (Addr × Obj)} {s : Shared} {Q E : Value → Shared → Prop}
  {D U : Nat} {r dr lt nd : Addr} {t1 t2 t3 tk ka : Tok} {q k : Int} {n : Nat} {l : List Tk}

theorem roB {co : Obj} {rest : List (Addr × Obj)} {low high qB : Int} {u1 u2 : Tok} {dep : Option (Str × List Str)} (B : Below A₀ base outer h₀) (F : Fr h₀ L s.heap m) (X : (kdef.heap_1 w.params).In h₀) (N : News h₀ L s.heap ((L + 1, co) :: (r, instObj 371 dr) :: (dr, rdO w.params t1 t2 t3 lt q tk nd) :: rest)) (hrest : ∀ q ∈ rest, q.1 ≠ dr ∧ q.1 ≠ L + 1) (hco : co.data = .cell none) (hne : r ≠ dr) (hL : dr < L)
  (T : Top p loose mean mg mb h₀) (tb : TB w.params h₀ lt l) (h0 : 0 ≤ q) (h2 : q < 9100) (hm : m (Str.ofString "reader") = some (.ref r))
  (hm1 : m (Str.ofString "low") = some (.int low u1)) (hm2 : m (Str.ofString "high") = some (.int high u2)) (hm3 : m (Str.ofString "depending") = some .none) (hB : SegB l q dep qB) :
  wpAny (model PG w) (ctx 861 4303 (roEnv L) outer gd) (execs ((roPack.1.1.drop 4).take 1) (roEnv L)) (fun f s' => f = .next ∧ StB w.params h₀ L r dr lt nd t1 t2 t3 co rest low high dep qB s s') E s := by
  have hne1 := neN hne
  have hL1 := ltN hL
  have hrest1 : ∀ q ∈ rest, q.1 ≠ dr := fun q hq => (hrest q hq).1
  simp only [roPack, List.take_succ_cons, List.take_zero, List.drop_succ_cons, List.drop_zero, roEnv]
  rcases hB with ⟨hd, rfl, rfl⟩ | ⟨hd, x, qs, q1, hT, hR, rfl⟩
  · (repeat' (first | (with_reducible refine unstp ?_; first | ((k_here; k_dflt (refine' read_ref_c ?hD ?hU ?B ?F ?X ?N ?hrest ?hne ?T ?hf ?hke ?tb ?h0 ?h2 ?ha ?_; (case hD => exact Nat.le_of_ble_eq_true rfl); (case hU => exact Nat.le_of_ble_eq_true rfl); (case B => k_asm); (case F => k_asm); (case X => k_asm); (case N => exact news_rot (by k_asm)); (case hrest => exact off_rot (by assumption) (by k_ne)); (case hne => assumption); (case T => k_asm); (case hf => rfl); (case hke => rfl); (case tb => assumption); (case h0 => omega); (case h2 => omega); (case ha => assumption); k_whole); intro v9z' rest9z' h9z' tk9z' tk29z' hs9z' ho9z' dv9z' F9z' N9z')) | ((k_here; k_dflt (refine' skip_t ?hD ?hU ?B ?F ?X ?N ?hr ?hu ?T ?hf ?hke ?tb ?h0 ?h2 ?hsp ?hz ?hb ?_; (case hD => exact Nat.le_of_ble_eq_true rfl); (case hU => exact Nat.le_of_ble_eq_true rfl); (case B => k_asm); (case F => k_asm); (case X => k_asm); (case N => k_asm); (case hr => k_mem); (case hu => k_updF); (case T => k_asm); (case hf => rfl); (case hke => rfl); (case tb => assumption); (case h0 => omega); (case h2 => omega); (case hsp => first | assumption | decide +kernel); (case hz => first | assumption | decide +kernel); (case hb => assumption); k_whole); intro h9z' tk9z' tk29z' F9z' N9z'; (try dsimp only at N9z'))) | ((k_here; k_dflt (refine' skip_f ?hD ?hU ?B ?F ?X ?N ?hr ?hd ?T ?hf ?hke ?tb ?h0 ?h2 ?hsp ?hz ?hb ?_; (case hD => exact Nat.le_of_ble_eq_true rfl); (case hU => exact Nat.le_of_ble_eq_true rfl); (case B => k_asm); (case F => k_asm); (case X => k_asm); (case N => k_asm); (case hr => k_mem); (case hd => k_mem); (case T => k_asm); (case hf => rfl); (case hke => rfl); (case tb => assumption); (case h0 => omega); (case h2 => omega); (case hsp => first | assumption | decide +kernel); (case hz => first | assumption | decide +kernel); (case hb => assumption); k_whole); intro h9z' tk9z' F9z' N9z'; (try dsimp only [tkv]))) | (refine goM ?_; k_dflt walk1) | (k_dflt (dsimp only); refine stp ?_)) | (k_unfold; (first | with_reducible refine (?_ : wpAny _ _ _ _ _ _) | (try dsimp only))) | (k_end; wrow_close) | walk1 | (dsimp only; walk1) | (leave1; walk_say "STEP leave1"; try dsimp only) | fail "no step"))
    all_goals exact ⟨_, _, _, _, _, _, _, rest, rfl, by k_asm, by k_asm, fun _ h => h, hrest, rfl, (by (try dsimp only); first | assumption | rfl | (simp (decide := true) only [reduceIte]; done) | (simp (decide := true) only [reduceIte]; assumption)), (by (try dsimp only); first | assumption | rfl | (simp (decide := true) only [reduceIte]; done) | (simp (decide := true) only [reduceIte]; assumption)), (by (try dsimp only); first | assumption | rfl | (simp (decide := true) only [reduceIte]; done) | (simp (decide := true) only [reduceIte]; assumption)), (by (try dsimp only); first | assumption | rfl | (simp (decide := true) only [reduceIte]; done) | (simp (decide := true) only [reduceIte]; assumption))⟩
  · rcases hT with ⟨hon, rfl⟩ | ⟨hon, rfl⟩
    · (repeat' (first | (with_reducible refine unstp ?_; first | ((k_here; k_dflt (refine' read_ref_c ?hD ?hU ?B ?F ?X ?N ?hrest ?hne ?T ?hf ?hke ?tb ?h0 ?h2 ?ha ?_; (case hD => exact Nat.le_of_ble_eq_true rfl); (case hU => exact Nat.le_of_ble_eq_true rfl); (case B => k_asm); (case F => k_asm); (case X => k_asm); (case N => exact news_rot (by k_asm)); (case hrest => exact off_rot (by assumption) (by k_ne)); (case hne => assumption); (case T => k_asm); (case hf => rfl); (case hke => rfl); (case tb => assumption); (case h0 => omega); (case h2 => omega); (case ha => assumption); k_whole); intro v9z' rest9z' h9z' tk9z' tk29z' hs9z' ho9z' dv9z' F9z' N9z')) | ((k_here; k_dflt (refine' skip_t ?hD ?hU ?B ?F ?X ?N ?hr ?hu ?T ?hf ?hke ?tb ?h0 ?h2 ?hsp ?hz ?hb ?_; (case hD => exact Nat.le_of_ble_eq_true rfl); (case hU => exact Nat.le_of_ble_eq_true rfl); (case B => k_asm); (case F => k_asm); (case X => k_asm); (case N => k_asm); (case hr => k_mem); (case hu => k_updF); (case T => k_asm); (case hf => rfl); (case hke => rfl); (case tb => assumption); (case h0 => omega); (case h2 => omega); (case hsp => first | assumption | decide +kernel); (case hz => first | assumption | decide +kernel); (case hb => assumption); k_whole); intro h9z' tk9z' tk29z' F9z' N9z'; (try dsimp only at N9z'))) | ((k_here; k_dflt (refine' skip_f ?hD ?hU ?B ?F ?X ?N ?hr ?hd ?T ?hf ?hke ?tb ?h0 ?h2 ?hsp ?hz ?hb ?_; (case hD => exact Nat.le_of_ble_eq_true rfl); (case hU => exact Nat.le_of_ble_eq_true rfl); (case B => k_asm); (case F => k_asm); (case X => k_asm); (case N => k_asm); (case hr => k_mem); (case hd => k_mem); (case T => k_asm); (case hf => rfl); (case hke => rfl); (case tb => assumption); (case h0 => omega); (case h2 => omega); (case hsp => first | assumption | decide +kernel); (case hz => first | assumption | decide +kernel); (case hb => assumption); k_whole); intro h9z' tk9z' F9z' N9z'; (try dsimp only [tkv]))) | (refine goM ?_; k_dflt walk1) | (k_dflt (dsimp only); refine stp ?_)) | (k_unfold; (first | with_reducible refine (?_ : wpAny _ _ _ _ _ _) | (try dsimp only))) | (k_end; wrow_close) | walk1 | (dsimp only; walk1) | (leave1; walk_say "STEP leave1"; try dsimp only) | fail "no step"))
      all_goals (obtain ⟨r3, N3, hs3, ho3, dv3⟩ := rest_back hco (by k_asm) (by assumption) (by assumption) hrest (by assumption); exact ⟨_, _, _, _, _, _, _, r3, rfl, by k_asm, N3, hs3, ho3, dv3, (by (try dsimp only); first | assumption | rfl | (simp (decide := true) only [reduceIte]; done) | (simp (decide := true) only [reduceIte]; assumption)), (by (try dsimp only); first | assumption | rfl | (simp (decide := true) only [reduceIte]; done) | (simp (decide := true) only [reduceIte]; assumption)), (by (try dsimp only); first | assumption | rfl | (simp (decide := true) only [reduceIte]; done) | (simp (decide := true) only [reduceIte]; assumption)), (by (try dsimp only); first | assumption | rfl | (simp (decide := true) only [reduceIte]; done) | (simp (decide := true) only [reduceIte]; assumption))⟩)
    · (repeat' (first | (with_reducible refine unstp ?_; first | ((k_here; k_dflt (refine' read_ref_c ?hD ?hU ?B ?F ?X ?N ?hrest ?hne ?T ?hf ?hke ?tb ?h0 ?h2 ?ha ?_; (case hD => exact Nat.le_of_ble_eq_true rfl); (case hU => exact Nat.le_of_ble_eq_true rfl); (case B => k_asm); (case F => k_asm); (case X => k_asm); (case N => exact news_rot (by k_asm)); (case hrest => exact off_rot (by assumption) (by k_ne)); (case hne => assumption); (case T => k_asm); (case hf => rfl); (case hke => rfl); (case tb => assumption); (case h0 => omega); (case h2 => omega); (case ha => assumption); k_whole); intro v9z' rest9z' h9z' tk9z' tk29z' hs9z' ho9z' dv9z' F9z' N9z')) | ((k_here; k_dflt (refine' skip_t ?hD ?hU ?B ?F ?X ?N ?hr ?hu ?T ?hf ?hke ?tb ?h0 ?h2 ?hsp ?hz ?hb ?_; (case hD => exact Nat.le_of_ble_eq_true rfl); (case hU => exact Nat.le_of_ble_eq_true rfl); (case B => k_asm); (case F => k_asm); (case X => k_asm); (case N => k_asm); (case hr => k_mem); (case hu => k_updF); (case T => k_asm); (case hf => rfl); (case hke => rfl); (case tb => assumption); (case h0 => omega); (case h2 => omega); (case hsp => first | assumption | decide +kernel); (case hz => first | assumption | decide +kernel); (case hb => assumption); k_whole); intro h9z' tk9z' tk29z' F9z' N9z'; (try dsimp only at N9z'))) | ((k_here; k_dflt (refine' skip_f ?hD ?hU ?B ?F ?X ?N ?hr ?hd ?T ?hf ?hke ?tb ?h0 ?h2 ?hsp ?hz ?hb ?_; (case hD => exact Nat.le_of_ble_eq_true rfl); (case hU => exact Nat.le_of_ble_eq_true rfl); (case B => k_asm); (case F => k_asm); (case X => k_asm); (case N => k_asm); (case hr => k_mem); (case hd => k_mem); (case T => k_asm); (case hf => rfl); (case hke => rfl); (case tb => assumption); (case h0 => omega); (case h2 => omega); (case hsp => first | assumption | decide +kernel); (case hz => first | assumption | decide +kernel); (case hb => assumption); k_whole); intro h9z' tk9z' F9z' N9z'; (try dsimp only [tkv]))) | (refine goM ?_; k_dflt walk1) | (k_dflt (dsimp only); refine stp ?_)) | (k_unfold; (first | with_reducible refine (?_ : wpAny _ _ _ _ _ _) | (try dsimp only))) | (k_end; wrow_close) | walk1 | (dsimp only; walk1) | (leave1; walk_say "STEP leave1"; try dsimp only) | fail "no step"))
      all_goals (obtain ⟨r3, N3, hs3, ho3, dv3⟩ := rest_back hco (by k_asm) (by assumption) (by assumption) hrest (by assumption); exact ⟨_, _, _, _, _, _, _, r3, rfl, by k_asm, N3, hs3, ho3, dv3, (by (try dsimp only); first | assumption | rfl | (simp (decide := true) only [reduceIte]; done) | (simp (decide := true) only [reduceIte]; assumption)), (by (try dsimp only); first | assumption | rfl | (simp (decide := true) only [reduceIte]; done) | (simp (decide := true) only [reduceIte]; assumption)), (by (try dsimp only); first | assumption | rfl | (simp (decide := true) only [reduceIte]; done) | (simp (decide := true) only [reduceIte]; assumption)), (by (try dsimp only); first | assumption | rfl | (simp (decide := true) only [reduceIte]; done) | (simp (decide := true) only [reduceIte]; assumption))⟩)
end


noncomputable def whPack : PSigma fun x : PySem.Expr × List Stmt × List Stmt => ∃ ps, (roPack.1.1[6]? : Option Stmt) = some (Stmt.While x.1 x.2.1 x.2.2 ps) := ⟨(_, _, _), _, rfl⟩
noncomputable def NamesAt (l : List Tk) (q : Int) (xs : List Tk) (q' : Int) : Prop :=
  isName l (q + 0) = true ∧ ∃ a, tokAt l (q + 0) = some a ∧
    ((isName l (q + 1 + 0) = false ∧ xs = [a] ∧ q' = q + 1) ∨
     (isName l (q + 1 + 0) = true ∧ ∃ b, tokAt l (q + 1 + 0) = some b ∧ isName l (q + 1 + 1 + 0) = false ∧ xs = [a, b] ∧ q' = q + 1 + 1))

theorem sub_rot {a b c d : Addr × Obj} {x : List (Addr × Obj)} : ∀ p ∈ b :: c :: d :: a :: x, p ∈ a :: b :: c :: d :: x := fun p hp => by
  simp only [List.mem_cons] at hp ⊢
  rcases hp with e | e | e | e | e <;> simp [e]

theorem extend_u {prog : Program} {w : World} {A : Around} {E : Value → Shared → Prop} {s : Shared} {h₀ : Heap} {L D b : Addr} {m : Str → Option Value} {news : List (Addr × Obj)} {g : Obj → List (Addr × Obj)} {ys : List Value} {n n2 : Nat} {its2 : Array Value} {Q : Value → Shared → Prop}
    (F : Fr h₀ L s.heap m) (N : News h₀ L s.heap news) (U : UpdF D ({ cls := .type "list", data := .seq ys.toArray n } : Obj) news g) (hb : (b, ({ cls := .type "list", data := .seq its2 n2 } : Obj)) ∈ news) (hsz : ys.length + its2.size ≤ 10000)
    (h : ∀ h' n', Fr h₀ L h' m → News h₀ L h' (g { cls := .type "list", data := .seq (ys ++ its2.toList).toArray n' }) → Q .none { s with heap := h' }) :
    wpAny (model prog w) A (call (.builtin "list.extend") [.ref D, .ref b]) Q E s := by
  obtain ⟨pre, post, e1, e2, a, c⟩ := U.split
  have hb' := (N _ hb).1
  rw [e1] at N
  exact extend_in F N a c hb' (fun h' n' F' N' => h h' n' F' (by rw [e2]; exact N')) (by rw [PySem.sizeLine_eq]; omega)

theorem off1_ne {D a : Addr} {o : Obj} : ∀ {l : List (Addr × Obj)}, LCg.Off1 D l → (a, o) ∈ l → @Ne Nat D a := by
  intro l
  induction l with
  | nil => intro _ h; cases h
  | cons p r ih =>
    intro h hm
    rcases List.mem_cons.mp hm with e | hm
    · have := h.1; rw [← e] at this; exact fun q => this q.symm
    · exact ih h.2 hm

theorem tail_le {l : List Tk} {q q' : Int} {wd : Str} (h : TailT l q q' wd) : q ≤ q' ∧ q' ≤ q + 1 := by
  rcases h with ⟨_, rfl⟩ | ⟨_, rfl⟩ <;> omega

section
variable {w : World} {p : Program} {loose : List Str} {mean : ExcName → Option Value} {mg mb : Str → Option Value}
  {env : Env} {outer : List Env} {gd : Option (List Code)} {A₀ : Around} {base h₀ : Heap} {L : Addr} {m : Str → Option Value} {news : List (Addr × Obj)} {g : Obj → List (Addr × Obj)} {s : Shared} {Q E : Value → Shared → Prop}
  {D U : Nat} {r dr lt nd : Addr} {t1 t2 t3 tk ka : Tok} {q k : Int} {n : Nat} {l : List Tk}
theorem skipT_c {wd : Str} {kt : Tok} {q' : Int} (hD : D ≤ 950) (hU : U ≤ 4750) (B : Below A₀ base outer h₀) (F : Fr h₀ L s.heap m) (X : (kdef.heap_1 w.params).In h₀) (N : News h₀ L s.heap news) (hr : (r, instObj 371 dr) ∈ news) (hu : UpdF dr (rdO w.params t1 t2 t3 lt q tk nd) news g) 
  (T : Top p loose mean mg mb h₀) (hf : env.frame = some L) (hke : env.scope.kind = .function) (tb : TB w.params h₀ lt l) (h0 : 0 ≤ q) (h2 : q < 10000)
  (hsp : Txt.split wd (Str.ofString " ") = [wd]) (hz : wd.length ≤ 1000) (hT : TailT l q q' wd)
  (ret : ∀ h' tk' tk2 bb, Fr h₀ L h' m → News h₀ L h' (g (rdO w.params t1 t2 t3 lt q' tk2 nd)) → Q (.bool bb) { s with heap := h', toks := tk' }) :
  wpAny (model PG w) (ctx D U env outer gd) (call (.ref 268) [.ref r, .str wd kt]) Q E s := by
  refine ctx_mono hD hU ?_
  obtain ⟨pre, post, e1, e2, -, -⟩ := hu.split
  have hd : (dr, rdO w.params t1 t2 t3 lt q tk nd) ∈ news := by rw [e1]; simp
  rcases hT with ⟨hb, rfl⟩ | ⟨hb, rfl⟩
  · exact skip_f (by decide) (by decide) B F X N hr hd T hf hke tb h0 h2 hsp hz hb fun h' tk' F' N' => ret h' tk' tk false F' (by rw [e2, ← e1]; exact N')
  · exact skip_t (by decide) (by decide) B F X N hr hu T hf hke tb h0 h2 hsp hz hb fun h' tk' tk2 F' N' => ret h' tk' tk2 true F' N'
end

noncomputable def KeysIn (news : List (Addr × Obj)) : List Value → List (Bool × Str) → Prop
  | [], [] => True
  | y :: ys, (b, x) :: ks => (∃ T u, y = .ref T ∧ (T, tupO #[.bool b, .str x u]) ∈ news) ∧ KeysIn news ys ks
  | _, _ => False
theorem KeysIn.mono {a b : List (Addr × Obj)} (h : ∀ x ∈ a, x ∈ b) : ∀ (ys : List Value) (ks : List (Bool × Str)), KeysIn a ys ks → KeysIn b ys ks := by
  intro ys
  induction ys with
  | nil => intro ks hk; cases ks with | nil => trivial | cons => exact hk.elim
  | cons y ys ih =>
    intro ks hk
    cases ks with
    | nil => exact hk.elim
    | cons k ks => obtain ⟨⟨T, u, e, hm⟩, hr⟩ := hk; exact ⟨⟨T, u, e, h _ hm⟩, ih ks hr⟩
theorem KeysIn.append {a : List (Addr × Obj)} : ∀ (ys zs : List Value) (ks js : List (Bool × Str)), KeysIn a ys ks → KeysIn a zs js → KeysIn a (ys ++ zs) (ks ++ js) := by
  intro ys
  induction ys with
  | nil => intro zs ks js hk hj; cases ks with | nil => exact hj | cons => exact hk.elim
  | cons y ys ih =>
    intro zs ks js hk hj
    cases ks with
    | nil => exact hk.elim
    | cons k ks => exact ⟨hk.1, ih zs ks js hk.2 hj⟩
theorem keys_len {a : List (Addr × Obj)} : ∀ (ys : List Value) (ks : List (Bool × Str)), KeysIn a ys ks → ys.length = ks.length := by
  intro ys
  induction ys with
  | nil => intro ks hk; cases ks with | nil => rfl | cons => exact hk.elim
  | cons y ys ih => intro ks hk; cases ks with | nil => exact hk.elim | cons k ks => simp [ih ks hk.2]
inductive StC (P : Params) (h₀ : Heap) (L r dr lt nd : Addr) (t1 t2 t3 : Tok) (rest : List (Addr × Obj)) (low high : Int) (v : Value) (ks : List (Bool × Str)) (q : Int) (s s' : Shared) : Prop
  | mk (m' : _) (h' : _) (tk' : _) (tk2 : _) (u1 : _) (u2 : _) (Kl : _) (Ix : _) (ys : _) (e : _) (co : _) (cb : _) (rest' : _) (f1 : s' = { s with heap := h', toks := tk' }) (f2 : Fr h₀ L h' m') (f3 : News h₀ L h' ((Kl, listOf (List.toArray ys) e) :: (L + 1, co) :: (r, instObj 371 dr) :: (dr, rdO P t1 t2 t3 lt q tk2 nd) :: rest')) (f4 : (∀ x ∈ rest, x ∈ rest')) (f5 : (∀ q ∈ rest', q.1 ≠ dr ∧ q.1 ≠ L + 1 ∧ q.1 ≠ Kl)) (f6 : (Kl ≠ L + 1 ∧ Kl ≠ r ∧ Kl ≠ dr)) (f7 : co.data = .cell cb) (f8 : KeysIn rest' ys ks) (f9 : (Ix, tupO #[]) ∈ rest') (f10 : m' (Str.ofString "reader") = some (.ref r)) (f11 : m' (Str.ofString "low") = some (.int low u1)) (f12 : m' (Str.ofString "high") = some (.int high u2)) (f13 : m' (Str.ofString "depending") = some v) (f14 : m' (Str.ofString "keys") = some (.ref Kl)) (f15 : m' (Str.ofString "indexes") = some (.ref Ix)) : StC P h₀ L r dr lt nd t1 t2 t3 rest low high v ks q s s'
theorem stC_end {P : Params} {h₀ h' : Heap} {L r dr lt nd Kl Ix : Addr} {t1 t2 t3 tk' tk2 u1 u2 : Tok} {m' : Str → Option Value} {rest rest' ts A : List (Addr × Obj)} {low high q : Int} {v : Value} {ks : List (Bool × Str)} {ys : List Value} {e : Nat} {co : Obj} {cb : Option Value} {s : Shared}
    (N : News h₀ L h' A) (sub : ∀ x ∈ (Kl, listOf (List.toArray ys) e) :: (L + 1, co) :: (r, instObj 371 dr) :: (dr, rdO P t1 t2 t3 lt q tk2 nd) :: (ts ++ rest'), x ∈ A) (hts : ∀ x ∈ ts, ∃ vs, x.2 = tupO vs) (F : Fr h₀ L h' m')
    (hs1 : ∀ x ∈ rest, x ∈ rest') (hrest : ∀ q ∈ rest', q.1 ≠ dr ∧ q.1 ≠ L + 1 ∧ q.1 ≠ Kl) (hk : Kl ≠ L + 1 ∧ Kl ≠ r ∧ Kl ≠ dr) (hco : co.data = .cell cb) (hK : KeysIn (ts ++ rest') ys ks) (hIx : (Ix, tupO #[]) ∈ ts ++ rest')
    (hm : m' (Str.ofString "reader") = some (.ref r)) (hm1 : m' (Str.ofString "low") = some (.int low u1)) (hm2 : m' (Str.ofString "high") = some (.int high u2)) (hm3 : m' (Str.ofString "depending") = some v) (hm4 : m' (Str.ofString "keys") = some (.ref Kl)) (hm5 : m' (Str.ofString "indexes") = some (.ref Ix)) :
    StC P h₀ L r dr lt nd t1 t2 t3 rest low high v ks q s { s with heap := h', toks := tk' } := by
  have N' := nb0 N sub
  have g1 := (N' _ (.head _)).1
  have g2 := (N' _ (.tail _ (.head _))).1
  have g3 := (N' _ (.tail _ (.tail _ (.tail _ (.head _))))).1
  refine ⟨m', h', tk', tk2, u1, u2, Kl, Ix, ys, e, co, cb, ts ++ rest', rfl, F, N', fun x hx => List.mem_append_right _ (hs1 x hx), ?_, hk, hco, hK, hIx, hm, hm1, hm2, hm3, hm4, hm5⟩
  intro x hx
  rcases List.mem_append.mp hx with hx | hx
  · obtain ⟨vs, ev⟩ := hts x hx
    have gx := (N' x (.tail _ (.tail _ (.tail _ (.tail _ (List.mem_append_left _ hx)))))).1
    rw [ev] at gx
    refine ⟨?_, ?_, ?_⟩
    · intro c; rw [c, g3] at gx; exact absurd (congrArg Obj.cls (Option.some.inj gx)) (show Value.type "dict" ≠ Value.type "tuple" from by decide)
    · intro c; rw [c, g2] at gx
      have q : co = tupO vs := Option.some.inj gx
      rw [q] at hco; cases hco
    · intro c; rw [c, g1] at gx; exact absurd (congrArg Obj.cls (Option.some.inj gx)) (show Value.type "list" ≠ Value.type "tuple" from by decide)
  · exact hrest x hx
theorem stC_end1 {P : Params} {h₀ h' : Heap} {L r dr lt nd Kl Ix Dc T Dn : Addr} {t1 t2 t3 tk' tk2 u1 u2 u : Tok} {m' : Str → Option Value} {rest rest' : List (Addr × Obj)} {low high q : Int} {v : Value} {ks : List (Bool × Str)} {ys : List Value} {e : Nat} {co oc on : Obj} {cb : Option Value} {s : Shared} {bb : Bool} {x : Str}
    (N : News h₀ L h' ((Dc, oc) :: (T, tupO #[.bool bb, .str x u]) :: (Dn, on) :: (Kl, listOf (List.toArray (ys ++ [.ref T])) e) :: (L + 1, co) :: (r, instObj 371 dr) :: (dr, rdO P t1 t2 t3 lt q tk2 nd) :: rest')) (F : Fr h₀ L h' m')
    (hs1 : ∀ x ∈ rest, x ∈ rest') (hrest : ∀ q ∈ rest', q.1 ≠ dr ∧ q.1 ≠ L + 1 ∧ q.1 ≠ Kl) (hk : Kl ≠ L + 1 ∧ Kl ≠ r ∧ Kl ≠ dr) (hco : co.data = .cell cb) (hK : KeysIn rest' ys ks) (hIx : (Ix, tupO #[]) ∈ rest')
    (hm : m' (Str.ofString "reader") = some (.ref r)) (hm1 : m' (Str.ofString "low") = some (.int low u1)) (hm2 : m' (Str.ofString "high") = some (.int high u2)) (hm3 : m' (Str.ofString "depending") = some v) (hm4 : m' (Str.ofString "keys") = some (.ref Kl)) (hm5 : m' (Str.ofString "indexes") = some (.ref Ix)) :
    StC P h₀ L r dr lt nd t1 t2 t3 rest low high v (ks ++ [(bb, x)]) q s { s with heap := h', toks := tk' } :=
  stC_end (e := e) (tk2 := tk2) (ys := ys ++ [.ref T]) (ts := [(T, tupO #[.bool bb, .str x u])]) N (fun x hx => by simp only [List.mem_cons, List.cons_append, List.nil_append] at hx ⊢; rcases hx with e | e | e | e | e | e <;> simp [e]) (fun x hx => by simp only [List.mem_singleton] at hx; exact ⟨_, by rw [hx]⟩) F hs1 hrest hk hco
    (KeysIn.append ys [.ref T] _ [(bb, x)] (KeysIn.mono (fun _ h => List.mem_append_right _ h) _ _ hK) (by exact ⟨⟨T, u, rfl, .head _⟩, trivial⟩)) (List.mem_append_right _ hIx) hm hm1 hm2 hm3 hm4 hm5
theorem stC_end2 {P : Params} {h₀ h' : Heap} {L r dr lt nd Kl Ix Dc T T2 Dn : Addr} {t1 t2 t3 tk' tk2 u1 u2 u u' : Tok} {m' : Str → Option Value} {rest rest' : List (Addr × Obj)} {low high q : Int} {v : Value} {ks : List (Bool × Str)} {ys : List Value} {e : Nat} {co oc on : Obj} {cb : Option Value} {s : Shared} {bb b2 : Bool} {x y : Str}
    (N : News h₀ L h' ((Dc, oc) :: (T2, tupO #[.bool b2, .str y u']) :: (T, tupO #[.bool bb, .str x u]) :: (Dn, on) :: (Kl, listOf (List.toArray (ys ++ [.ref T, .ref T2])) e) :: (L + 1, co) :: (r, instObj 371 dr) :: (dr, rdO P t1 t2 t3 lt q tk2 nd) :: rest')) (F : Fr h₀ L h' m')
    (hs1 : ∀ x ∈ rest, x ∈ rest') (hrest : ∀ q ∈ rest', q.1 ≠ dr ∧ q.1 ≠ L + 1 ∧ q.1 ≠ Kl) (hk : Kl ≠ L + 1 ∧ Kl ≠ r ∧ Kl ≠ dr) (hco : co.data = .cell cb) (hK : KeysIn rest' ys ks) (hIx : (Ix, tupO #[]) ∈ rest')
    (hm : m' (Str.ofString "reader") = some (.ref r)) (hm1 : m' (Str.ofString "low") = some (.int low u1)) (hm2 : m' (Str.ofString "high") = some (.int high u2)) (hm3 : m' (Str.ofString "depending") = some v) (hm4 : m' (Str.ofString "keys") = some (.ref Kl)) (hm5 : m' (Str.ofString "indexes") = some (.ref Ix)) :
    StC P h₀ L r dr lt nd t1 t2 t3 rest low high v (ks ++ [(bb, x), (b2, y)]) q s { s with heap := h', toks := tk' } :=
  stC_end (e := e) (tk2 := tk2) (ys := ys ++ [.ref T, .ref T2]) (ts := [(T, tupO #[.bool bb, .str x u]), (T2, tupO #[.bool b2, .str y u'])]) N (fun x hx => by simp only [List.mem_cons, List.cons_append, List.nil_append] at hx ⊢; rcases hx with e | e | e | e | e | e | e <;> simp [e]) (fun x hx => by simp only [List.mem_cons, List.not_mem_nil, or_false] at hx; rcases hx with hx | hx <;> exact ⟨_, by rw [hx]⟩) F hs1 hrest hk hco
    (KeysIn.append ys [.ref T, .ref T2] _ [(bb, x), (b2, y)] (KeysIn.mono (fun _ h => List.mem_append_right _ h) _ _ hK) (by exact ⟨⟨T, u, rfl, .head _⟩, ⟨T2, u', rfl, .tail _ (.head _)⟩, trivial⟩)) (List.mem_append_right _ hIx) hm hm1 hm2 hm3 hm4 hm5
inductive GrpAt (l : List Tk) (q : Int) (g : List (Bool × Str)) (q' : Int) : Prop
  | mk (t : _) (q1 : _) (q2 : _) (xs : _) (f1 : tokAt l (q + 0) = some t) (f2 : TailT l (q + 1) q1 (Str.ofString "KEY")) (f3 : TailT l q1 q2 (Str.ofString "IS")) (f4 : NamesAt l q2 xs q') (f5 : g = xs.map fun a => (t.x == Str.ofString "ASCENDING", a.x)) : GrpAt l q g q'

section
variable {w : World} {p : Program} {loose : List Str} {mean : ExcName → Option Value} {mg mb : Str → Option Value}
  {env : Env} {outer : List Env} {gd : Option (List Code)} {A₀ : Around} {base h₀ : Heap} {L : Addr} {m : Str → Option Value} {news : List (Addr × Obj)} {g : Obj → List (Addr × Obj)} {s : Shared} {Q E : Value → Shared → Prop}
  {D U : Nat} {r dr lt nd : Addr} {t1 t2 t3 tk ka : Tok} {q k : Int} {n : Nat} {l : List Tk}
local macro_rules | `(tactic| walk_at "call builtin:list.extend") => `(tactic| (goal_lacks GoM; refine stp ?_))
local macro_rules | `(tactic| walk_at "CompEnd") => `(tactic| (k_here; k_dflt (refine LCg.CompEnd.intro (by k_asm) (by k_asm) _ sub_rot ⟨⟨by k_ne, by k_ne, by k_ne⟩, by assumption⟩ (by lcg_src) ?_)))
local macro_rules | `(tactic| walk_at "CompRest") => `(tactic| (with_unfolding_all first | (refine LCg.CompRest.succ ?_; intro v' I' oI' C' oC' D' m' h' tk' E' hv' hC' hx' F' N' off' ne'; (first | lcg_open hv' | (obtain ⟨t9', hv9'⟩ := hv'; subst hv9'))) | refine LCg.CompRest.zero ?_))
local macro_rules | `(tactic| walk_at "FinE") => `(tactic| ((unfold LCg.FinE); intro D' h' tk' F' N' o1'; (try simp only [List.nil_append, List.cons_append] at N'); (try dsimp only)))
local macro_rules | `(tactic| k_ne) => `(tactic| (refine neN ?_; (try dsimp only); first | assumption | exact Ne.symm (by assumption) | omega | exact off1_ne (by assumption) (by k_mem)))

section
local macro_rules | `(tactic| walk_at "call ref") => `(tactic| (k_here; k_dflt (refine' names1_c ?hD ?hU ?B ?F ?X ?N ?hr ?hu ?T ?hf ?hke ?tb ?h0 ?h2 ?hb ?ho ?hb1 ?_; (case hD => exact Nat.le_of_ble_eq_true rfl); (case hU => exact Nat.le_of_ble_eq_true rfl); (case B => k_asm); (case F => k_asm); (case X => k_asm); (case N => k_asm); (case hr => k_mem); (case hu => k_updF); (case T => k_asm); (case hf => rfl); (case hke => rfl); (case tb => assumption); (case h0 => omega); (case h2 => omega); (case hb => assumption); (case ho => assumption); (case hb1 => assumption); k_whole); intro D' h' tk' tk2' F' N' l1; (try dsimp only at N'); (try dsimp only at l1); (try k_lt l1)))
local macro_rules | `(tactic| walk_at "call ref") => `(tactic| (k_here; k_dflt (refine' names2_c ?hD ?hU ?B ?F ?X ?N ?hr ?hu ?T ?hf ?hke ?tb ?h0 ?h2 ?hb ?ho ?hb1 ?ho1 ?hb2 ?_; (case hD => exact Nat.le_of_ble_eq_true rfl); (case hU => exact Nat.le_of_ble_eq_true rfl); (case B => k_asm); (case F => k_asm); (case X => k_asm); (case N => k_asm); (case hr => k_mem); (case hu => k_updF); (case T => k_asm); (case hf => rfl); (case hke => rfl); (case tb => assumption); (case h0 => omega); (case h2 => omega); (case hb => assumption); (case ho => assumption); (case hb1 => assumption); (case ho1 => assumption); (case hb2 => assumption); k_whole); intro D' h' tk' tk2' F' N' l1; (try dsimp only at N'); (try dsimp only at l1); (try k_lt l1)))
theorem roC_body {rest : List (Addr × Obj)} {low high q' : Int} {v : Value} {ks gk : List (Bool × Str)} {s₀ : Shared} (B : Below A₀ base outer h₀) (X : (kdef.heap_1 w.params).In h₀)
  (hne : r ≠ dr) (hL : dr < L) (hr : r < L) (T : Top p loose mean mg mb h₀) (tb : TB w.params h₀ lt l) (h0 : 0 ≤ q) (h2 : q < 9200) (hks : ks.length < 100)
  (hs : StC w.params h₀ L r dr lt nd t1 t2 t3 rest low high v ks q s₀ s) (hg : GrpAt l q gk q') :
  wpAny (model PG w) (ctx 861 4303 (roEnv L) outer gd) (execs whPack.1.2.1 (roEnv L)) (fun f s' => f = .next ∧ StC w.params h₀ L r dr lt nd t1 t2 t3 rest low high v (ks ++ gk) q' s₀ s') E s := by
  obtain ⟨m, h, tk', tk2, u1, u2, Kl, Ix, ys, e, co, cb, rest', rfl, F, N, hs1, hrest, ⟨hk1, hk2, hk3⟩, hco, hK, hIx, hm, hm1, hm2, hm3, hm4, hm5⟩ := hs
  obtain ⟨t, q1, q2, xs, ht, hT1, hT2, hN, rfl⟩ := hg
  have hys : ys.length = ks.length := keys_len _ _ hK
  have hq1 := tail_le hT1
  have hq2 := tail_le hT2
  have hne1 := neN hne
  have hL1 := ltN hL
  have hr1 := ltN hr
  have hk11 := neN hk1
  have hk12 := neN hk2
  have hk13 := neN hk3
  have hm9 : t ∈ l := List.mem_of_getElem? ht
  have hrest1 : ∀ q ∈ rest', q.1 ≠ dr := fun q hq => (hrest q hq).1
  have hrest2 : ∀ q ∈ rest', q.1 ≠ L + 1 := fun q hq => (hrest q hq).2.1
  have hrest3 : ∀ q ∈ rest', q.1 ≠ Kl := fun q hq => (hrest q hq).2.2
  simp only [whPack, roPack, roEnv]
  obtain ⟨hn0, a, ha, hN⟩ := hN
  rcases hN with ⟨hn1, rfl, rfl⟩ | ⟨hn1, b, hb, hn2, rfl, rfl⟩
  · (repeat' (first | (with_reducible refine unstp ?_; first | ((k_here; k_dflt (refine' extend_u ?F ?N ?U ?hb ?hz ?_; (case F => k_asm); (case N => k_asm); (case U => k_updF); (case hb => k_mem); (case hz => (simp only [List.size_toArray, List.length_cons, List.length_nil]; omega)); k_whole); intro h9z' n9z' F9z' N9z'; (try dsimp only at N9z'))) | ((k_here; k_dflt (refine' skipT_c ?hD ?hU ?B ?F ?X ?N ?hr ?hu ?T ?hf ?hke ?tb ?h0 ?h2 ?hsp ?hz ?hT ?_; (case hD => exact Nat.le_of_ble_eq_true rfl); (case hU => exact Nat.le_of_ble_eq_true rfl); (case B => k_asm); (case F => k_asm); (case X => k_asm); (case N => k_asm); (case hr => k_mem); (case hu => k_updF); (case T => k_asm); (case hf => rfl); (case hke => rfl); (case tb => assumption); (case h0 => omega); (case h2 => omega); (case hsp => first | assumption | decide +kernel); (case hz => first | assumption | decide +kernel); (case hT => assumption); k_whole); intro h9z' tk9z' tk29z' bb9z' F9z' N9z'; (try dsimp only at N9z'))) | ((k_here; k_dflt (refine' names2_c ?hD ?hU ?B ?F ?X ?N ?hr ?hu ?T ?hf ?hke ?tb ?h0 ?h2 ?hb ?ho ?hb1 ?ho1 ?hb2 ?_; (case hD => exact Nat.le_of_ble_eq_true rfl); (case hU => exact Nat.le_of_ble_eq_true rfl); (case B => k_asm); (case F => k_asm); (case X => k_asm); (case N => k_asm); (case hr => k_mem); (case hu => k_updF); (case T => k_asm); (case hf => rfl); (case hke => rfl); (case tb => assumption); (case h0 => omega); (case h2 => omega); (case hb => assumption); (case ho => assumption); (case hb1 => assumption); (case ho1 => assumption); (case hb2 => assumption); k_whole); intro D9z' h9z' tk9z' tk29z' F9z' N9z' l19z; (try dsimp only at N9z'); (try dsimp only at l19z); (try k_lt l19z))) | ((k_here; k_dflt (refine' names1_c ?hD ?hU ?B ?F ?X ?N ?hr ?hu ?T ?hf ?hke ?tb ?h0 ?h2 ?hb ?ho ?hb1 ?_; (case hD => exact Nat.le_of_ble_eq_true rfl); (case hU => exact Nat.le_of_ble_eq_true rfl); (case B => k_asm); (case F => k_asm); (case X => k_asm); (case N => k_asm); (case hr => k_mem); (case hu => k_updF); (case T => k_asm); (case hf => rfl); (case hke => rfl); (case tb => assumption); (case h0 => omega); (case h2 => omega); (case hb => assumption); (case ho => assumption); (case hb1 => assumption); k_whole); intro D9z' h9z' tk9z' tk29z' F9z' N9z' l19z; (try dsimp only at N9z'); (try dsimp only at l19z); (try k_lt l19z))) | ((k_here; k_dflt (refine' take_c ?hD ?hU ?B ?F ?X ?N ?hr ?hu ?T ?hf ?hke ?tb ?h0 ?h2 ?ho ?_; (case hD => exact Nat.le_of_ble_eq_true rfl); (case hU => exact Nat.le_of_ble_eq_true rfl); (case B => k_asm); (case F => k_asm); (case X => k_asm); (case N => k_asm); (case hr => k_mem); (case hu => k_updF); (case T => k_asm); (case hf => rfl); (case hke => rfl); (case tb => assumption); (case h0 => omega); (case h2 => omega); (case ho => assumption); k_whole); intro h9z' tk9z' tk29z' F9z' N9z'; (try dsimp only at N9z'))) | (refine goM ?_; k_dflt walk1) | (k_dflt (dsimp only); refine stp ?_)) | (k_unfold; (first | with_reducible refine (?_ : wpAny _ _ _ _ _ _) | (try dsimp only))) | (k_end; wrow_close) | walk1 | (dsimp only; walk1) | (leave1; walk_say "STEP leave1"; try dsimp only) | fail "no step"))
    all_goals exact stC_end1 (by k_asm) (by k_asm) hs1 hrest ⟨hk1, hk2, hk3⟩ (by assumption) hK hIx (by (try dsimp only); first | assumption | rfl | (simp (decide := true) only [reduceIte]; done) | (simp (decide := true) only [reduceIte]; assumption)) (by (try dsimp only); first | assumption | rfl | (simp (decide := true) only [reduceIte]; done) | (simp (decide := true) only [reduceIte]; assumption)) (by (try dsimp only); first | assumption | rfl | (simp (decide := true) only [reduceIte]; done) | (simp (decide := true) only [reduceIte]; assumption)) (by (try dsimp only); first | assumption | rfl | (simp (decide := true) only [reduceIte]; done) | (simp (decide := true) only [reduceIte]; assumption)) (by (try dsimp only); first | assumption | rfl | (simp (decide := true) only [reduceIte]; done) | (simp (decide := true) only [reduceIte]; assumption)) (by (try dsimp only); first | assumption | rfl | (simp (decide := true) only [reduceIte]; done) | (simp (decide := true) only [reduceIte]; assumption))
  · (repeat' (first | (with_reducible refine unstp ?_; first | ((k_here; k_dflt (refine' extend_u ?F ?N ?U ?hb ?hz ?_; (case F => k_asm); (case N => k_asm); (case U => k_updF); (case hb => k_mem); (case hz => (simp only [List.size_toArray, List.length_cons, List.length_nil]; omega)); k_whole); intro h9z' n9z' F9z' N9z'; (try dsimp only at N9z'))) | ((k_here; k_dflt (refine' skipT_c ?hD ?hU ?B ?F ?X ?N ?hr ?hu ?T ?hf ?hke ?tb ?h0 ?h2 ?hsp ?hz ?hT ?_; (case hD => exact Nat.le_of_ble_eq_true rfl); (case hU => exact Nat.le_of_ble_eq_true rfl); (case B => k_asm); (case F => k_asm); (case X => k_asm); (case N => k_asm); (case hr => k_mem); (case hu => k_updF); (case T => k_asm); (case hf => rfl); (case hke => rfl); (case tb => assumption); (case h0 => omega); (case h2 => omega); (case hsp => first | assumption | decide +kernel); (case hz => first | assumption | decide +kernel); (case hT => assumption); k_whole); intro h9z' tk9z' tk29z' bb9z' F9z' N9z'; (try dsimp only at N9z'))) | ((k_here; k_dflt (refine' names2_c ?hD ?hU ?B ?F ?X ?N ?hr ?hu ?T ?hf ?hke ?tb ?h0 ?h2 ?hb ?ho ?hb1 ?ho1 ?hb2 ?_; (case hD => exact Nat.le_of_ble_eq_true rfl); (case hU => exact Nat.le_of_ble_eq_true rfl); (case B => k_asm); (case F => k_asm); (case X => k_asm); (case N => k_asm); (case hr => k_mem); (case hu => k_updF); (case T => k_asm); (case hf => rfl); (case hke => rfl); (case tb => assumption); (case h0 => omega); (case h2 => omega); (case hb => assumption); (case ho => assumption); (case hb1 => assumption); (case ho1 => assumption); (case hb2 => assumption); k_whole); intro D9z' h9z' tk9z' tk29z' F9z' N9z' l19z; (try dsimp only at N9z'); (try dsimp only at l19z); (try k_lt l19z))) | ((k_here; k_dflt (refine' names1_c ?hD ?hU ?B ?F ?X ?N ?hr ?hu ?T ?hf ?hke ?tb ?h0 ?h2 ?hb ?ho ?hb1 ?_; (case hD => exact Nat.le_of_ble_eq_true rfl); (case hU => exact Nat.le_of_ble_eq_true rfl); (case B => k_asm); (case F => k_asm); (case X => k_asm); (case N => k_asm); (case hr => k_mem); (case hu => k_updF); (case T => k_asm); (case hf => rfl); (case hke => rfl); (case tb => assumption); (case h0 => omega); (case h2 => omega); (case hb => assumption); (case ho => assumption); (case hb1 => assumption); k_whole); intro D9z' h9z' tk9z' tk29z' F9z' N9z' l19z; (try dsimp only at N9z'); (try dsimp only at l19z); (try k_lt l19z))) | ((k_here; k_dflt (refine' take_c ?hD ?hU ?B ?F ?X ?N ?hr ?hu ?T ?hf ?hke ?tb ?h0 ?h2 ?ho ?_; (case hD => exact Nat.le_of_ble_eq_true rfl); (case hU => exact Nat.le_of_ble_eq_true rfl); (case B => k_asm); (case F => k_asm); (case X => k_asm); (case N => k_asm); (case hr => k_mem); (case hu => k_updF); (case T => k_asm); (case hf => rfl); (case hke => rfl); (case tb => assumption); (case h0 => omega); (case h2 => omega); (case ho => assumption); k_whole); intro h9z' tk9z' tk29z' F9z' N9z'; (try dsimp only at N9z'))) | (refine goM ?_; k_dflt walk1) | (k_dflt (dsimp only); refine stp ?_)) | (k_unfold; (first | with_reducible refine (?_ : wpAny _ _ _ _ _ _) | (try dsimp only))) | (k_end; wrow_close) | walk1 | (dsimp only; walk1) | (leave1; walk_say "STEP leave1"; try dsimp only) | fail "no step"))
    all_goals exact stC_end2 (by k_asm) (by k_asm) hs1 hrest ⟨hk1, hk2, hk3⟩ (by assumption) hK hIx (by (try dsimp only); first | assumption | rfl | (simp (decide := true) only [reduceIte]; done) | (simp (decide := true) only [reduceIte]; assumption)) (by (try dsimp only); first | assumption | rfl | (simp (decide := true) only [reduceIte]; done) | (simp (decide := true) only [reduceIte]; assumption)) (by (try dsimp only); first | assumption | rfl | (simp (decide := true) only [reduceIte]; done) | (simp (decide := true) only [reduceIte]; assumption)) (by (try dsimp only); first | assumption | rfl | (simp (decide := true) only [reduceIte]; done) | (simp (decide := true) only [reduceIte]; assumption)) (by (try dsimp only); first | assumption | rfl | (simp (decide := true) only [reduceIte]; done) | (simp (decide := true) only [reduceIte]; assumption)) (by (try dsimp only); first | assumption | rfl | (simp (decide := true) only [reduceIte]; done) | (simp (decide := true) only [reduceIte]; assumption))
end
end


theorem stC_start {P : Params} {h₀ h' : Heap} {L r dr lt nd Kl Ix Dt : Addr} {t1 t2 t3 tk' tk2 u1 u2 : Tok} {m' : Str → Option Value} {rest : List (Addr × Obj)} {low high q : Int} {v : Value} {e : Nat} {co ot : Obj} {cb : Option Value} {s : Shared}
    (N : News h₀ L h' ((Dt, ot) :: (Ix, tupO #[]) :: (Kl, listOf (List.toArray []) e) :: (L + 1, co) :: (r, instObj 371 dr) :: (dr, rdO P t1 t2 t3 lt q tk2 nd) :: rest)) (l1 : L + 1 < Kl ∧ r < Kl ∧ dr < Kl ∧ AllLt Kl rest) (F : Fr h₀ L h' m')
    (hrest : ∀ q ∈ rest, q.1 ≠ dr ∧ q.1 ≠ L + 1) (hco : co.data = .cell cb)
    (hm : m' (Str.ofString "reader") = some (.ref r)) (hm1 : m' (Str.ofString "low") = some (.int low u1)) (hm2 : m' (Str.ofString "high") = some (.int high u2)) (hm3 : m' (Str.ofString "depending") = some v) (hm4 : m' (Str.ofString "keys") = some (.ref Kl)) (hm5 : m' (Str.ofString "indexes") = some (.ref Ix)) :
    StC P h₀ L r dr lt nd t1 t2 t3 rest low high v [] q s { s with heap := h', toks := tk' } :=
  stC_end (e := e) (tk2 := tk2) (ys := []) (ts := [(Ix, tupO #[])]) N (fun x hx => by simp only [List.mem_cons, List.cons_append, List.nil_append] at hx ⊢; rcases hx with e | e | e | e | e | e <;> simp [e]) (fun x hx => by simp only [List.mem_singleton] at hx; exact ⟨_, by rw [hx]⟩) F (fun _ h => h)
    (fun q hq => ⟨(hrest q hq).1, (hrest q hq).2, Nat.ne_of_lt (allLt_all _ l1.2.2.2 q hq)⟩) ⟨Nat.ne_of_gt l1.1, Nat.ne_of_gt l1.2.1, Nat.ne_of_gt l1.2.2.1⟩ hco trivial (.head _) hm hm1 hm2 hm3 hm4 hm5

section
variable {w : World} {p : Program} {loose : List Str} {mean : ExcName → Option Value} {mg mb : Str → Option Value}
  {env : Env} {outer : List Env} {gd : Option (List Code)} {A₀ : Around} {base h₀ : Heap} {L : Addr} {m : Str → Option Value} {news : List (Addr × Obj)} {g : Obj → List (Addr × Obj)} {s : Shared} {Q E : Value → Shared → Prop}
  {D U : Nat} {r dr lt nd : Addr} {t1 t2 t3 tk ka : Tok} {q k : Int} {n : Nat} {l : List Tk}

theorem roC_init {co : Obj} {rest : List (Addr × Obj)} {low high : Int} {u1 u2 : Tok} {v : Value} (B : Below A₀ base outer h₀) (F : Fr h₀ L s.heap m) (X : (kdef.heap_1 w.params).In h₀) (N : News h₀ L s.heap ((L + 1, co) :: (r, instObj 371 dr) :: (dr, rdO w.params t1 t2 t3 lt q tk nd) :: rest)) (hrest : ∀ q ∈ rest, q.1 ≠ dr ∧ q.1 ≠ L + 1) (hco : co.data = .cell none) (hne : r ≠ dr) (hL : dr < L)
  (T : Top p loose mean mg mb h₀) (tb : TB w.params h₀ lt l) (h0 : 0 ≤ q) (h2 : q < 9100) (hm : m (Str.ofString "reader") = some (.ref r))
  (hm1 : m (Str.ofString "low") = some (.int low u1)) (hm2 : m (Str.ofString "high") = some (.int high u2)) (hm3 : m (Str.ofString "depending") = some v) :
  wpAny (model PG w) (ctx 861 4303 (roEnv L) outer gd) (execs ((roPack.1.1.drop 5).take 1) (roEnv L)) (fun f s' => f = .next ∧ StC w.params h₀ L r dr lt nd t1 t2 t3 rest low high v [] q s s') E s := by
  have hne1 := neN hne
  have hL1 := ltN hL
  have hrest1 : ∀ q ∈ rest, q.1 ≠ dr := fun q hq => (hrest q hq).1
  simp only [roPack, List.take_succ_cons, List.take_zero, List.drop_succ_cons, List.drop_zero, roEnv]
  (repeat' (first | (with_reducible refine unstp ?_; first | ((k_here; k_dflt (refine' is_word_c ?hD ?hU ?B ?F ?X ?N ?hr ?hd ?T ?hf ?hke ?tb ?h0 ?h2 ?hsp ?hz ?hb ?_; (case hD => exact Nat.le_of_ble_eq_true rfl); (case hU => exact Nat.le_of_ble_eq_true rfl); (case B => k_asm); (case F => k_asm); (case X => k_asm); (case N => k_asm); (case hr => k_mem); (case hd => k_mem); (case T => k_asm); (case hf => rfl); (case hke => rfl); (case tb => assumption); (case h0 => omega); (case h2 => omega); (case hsp => first | assumption | decide +kernel); (case hz => first | assumption | decide +kernel); (case hb => first | assumption | exact rfl); k_whole); intro h9z' tk9z' F9z' N9z'; (try dsimp only [tkv]))) | (refine goM ?_; k_dflt walk1) | (k_dflt (dsimp only); refine stp ?_)) | (k_unfold; (first | with_reducible refine (?_ : wpAny _ _ _ _ _ _) | (try dsimp only))) | (k_end; wrow_close) | walk1 | (dsimp only; walk1) | (leave1; walk_say "STEP leave1"; try dsimp only) | fail "no step"))
  all_goals exact stC_start (by k_asm) (by assumption) (by k_asm) hrest hco (by (try dsimp only); first | assumption | rfl | (simp (decide := true) only [reduceIte]; done) | (simp (decide := true) only [reduceIte]; assumption)) (by (try dsimp only); first | assumption | rfl | (simp (decide := true) only [reduceIte]; done) | (simp (decide := true) only [reduceIte]; assumption)) (by (try dsimp only); first | assumption | rfl | (simp (decide := true) only [reduceIte]; done) | (simp (decide := true) only [reduceIte]; assumption)) (by (try dsimp only); first | assumption | rfl | (simp (decide := true) only [reduceIte]; done) | (simp (decide := true) only [reduceIte]; assumption)) (by (try dsimp only); first | assumption | rfl | (simp (decide := true) only [reduceIte]; done) | (simp (decide := true) only [reduceIte]; assumption)) (by (try dsimp only); first | assumption | rfl | (simp (decide := true) only [reduceIte]; done) | (simp (decide := true) only [reduceIte]; assumption))

theorem roC_test {rest : List (Addr × Obj)} {low high : Int} {v : Value} {ks : List (Bool × Str)} {s₀ : Shared} {b1 b2 : Bool} (B : Below A₀ base outer h₀) (X : (kdef.heap_1 w.params).In h₀)
  (hne : r ≠ dr) (hL : dr < L) (hr : r < L) (T : Top p loose mean mg mb h₀) (tb : TB w.params h₀ lt l) (h0 : 0 ≤ q) (h2 : q < 9200)
  (hs : StC w.params h₀ L r dr lt nd t1 t2 t3 rest low high v ks q s₀ s) (hw1 : isWord l (q + 0) (Str.ofString "ASCENDING") = b1) (hw2 : isWord l (q + 0) (Str.ofString "DESCENDING") = b2) :
  wpAny (model PG w) (ctx 861 4303 (roEnv L) outer gd) (isTrue whPack.1.1 (roEnv L) (eval whPack.1.1 (roEnv L))) (fun b s' => b = (b1 || b2) ∧ StC w.params h₀ L r dr lt nd t1 t2 t3 rest low high v ks q s₀ s') E s := by
  obtain ⟨m, h, tk', tk2, u1, u2, Kl, Ix, ys, e, co, cb, rest', rfl, F, N, hs1, hrest, hk, hco, hK, hIx, hm, hm1, hm2, hm3, hm4, hm5⟩ := hs
  simp only [whPack, roPack, roEnv]
  cases b1 <;> cases b2
  all_goals (repeat' (first | (with_reducible refine unstp ?_; first | ((k_here; k_dflt (refine' is_word_c ?hD ?hU ?B ?F ?X ?N ?hr ?hd ?T ?hf ?hke ?tb ?h0 ?h2 ?hsp ?hz ?hb ?_; (case hD => exact Nat.le_of_ble_eq_true rfl); (case hU => exact Nat.le_of_ble_eq_true rfl); (case B => k_asm); (case F => k_asm); (case X => k_asm); (case N => k_asm); (case hr => k_mem); (case hd => k_mem); (case T => k_asm); (case hf => rfl); (case hke => rfl); (case tb => assumption); (case h0 => omega); (case h2 => omega); (case hsp => first | assumption | decide +kernel); (case hz => first | assumption | decide +kernel); (case hb => first | assumption | exact rfl); k_whole); intro h9z' tk9z' F9z' N9z'; (try dsimp only [tkv]))) | (refine goM ?_; k_dflt walk1) | (k_dflt (dsimp only); refine stp ?_)) | (k_unfold; (first | with_reducible refine (?_ : wpAny _ _ _ _ _ _) | (try dsimp only))) | (k_end; wrow_close) | walk1 | (dsimp only; walk1) | (leave1; walk_say "STEP leave1"; try dsimp only) | fail "no step"))
  all_goals exact ⟨_, _, _, _, _, _, _, _, _, _, _, _, _, rfl, by k_asm, by k_asm, hs1, hrest, hk, hco, hK, hIx, hm, hm1, hm2, hm3, hm4, hm5⟩
end

noncomputable def Grps (l : List Tk) : Int → List (List (Bool × Str)) → Int → Prop
  | q, [], q' => 0 ≤ q ∧ q < 9000 ∧ isWord l (q + 0) (Str.ofString "ASCENDING") = false ∧ isWord l (q + 0) (Str.ofString "DESCENDING") = false ∧ q' = q
  | q, g :: gs, q' => 0 ≤ q ∧ q < 9000 ∧ (isWord l (q + 0) (Str.ofString "ASCENDING") || isWord l (q + 0) (Str.ofString "DESCENDING")) = true ∧ ∃ q1, GrpAt l q g q1 ∧ Grps l q1 gs q'

section
variable {w : World} {p : Program} {loose : List Str} {mean : ExcName → Option Value} {mg mb : Str → Option Value}
  {env : Env} {outer : List Env} {gd : Option (List Code)} {A₀ : Around} {base h₀ : Heap} {L : Addr} {m : Str → Option Value} {news : List (Addr × Obj)} {g : Obj → List (Addr × Obj)} {s : Shared} {Q E : Value → Shared → Prop}
  {D U : Nat} {r dr lt nd : Addr} {t1 t2 t3 tk ka : Tok} {q k : Int} {n : Nat} {l : List Tk}

theorem roC_loop {rest : List (Addr × Obj)} {low high qC : Int} {v : Value} {s₀ : Shared} (hE : PassesOwn (model PG w) (ctx 861 4303 (roEnv L) outer gd) (roEnv L) E) (B : Below A₀ base outer h₀) (X : (kdef.heap_1 w.params).In h₀)
  (hne : r ≠ dr) (hL : dr < L) (hr : r < L) (T : Top p loose mean mg mb h₀) (tb : TB w.params h₀ lt l) :
  ∀ (gs : List (List (Bool × Str))) (q : Int) (ks : List (Bool × Str)) (k : Nat) (s : Shared), StC w.params h₀ L r dr lt nd t1 t2 t3 rest low high v ks q s₀ s → Grps l q gs qC → (ks ++ gs.flatten).length < 100 →
  WhlRest PG w (ctx 861 4303 (roEnv L) outer gd) E (roEnv L) whPack.1.1 whPack.1.2.1 [] (fun f s' => f = .next ∧ StC w.params h₀ L r dr lt nd t1 t2 t3 rest low high v (ks ++ gs.flatten) qC s₀ s') k s := by
  intro gs
  induction gs with
  | nil =>
    intro q ks k s hs hg hk
    obtain ⟨g0, g1, g2, g3, rfl⟩ := hg
    refine whl_turn (k := k) hE (wpAny_mono (roC_test B X hne hL hr T tb g0 (by omega) hs g2 g3) (fun b s' hb => ?_) fun _ _ e => e)
    obtain ⟨rfl, hs'⟩ := hb
    refine WhlIf.no rfl ?_
    intro Γ p' hΓ
    exact ⟨rfl, by rw [List.flatten_nil, List.append_nil]; exact hs'⟩
  | cons g gs ih =>
    intro q ks k s hs hg hk
    obtain ⟨g0, g1, g2, q1, g3, g4⟩ := hg
    rw [List.flatten_cons, ← List.append_assoc] at hk ⊢
    refine whl_turn (k := k) hE (wpAny_mono (roC_test B X hne hL hr T tb g0 (by omega) hs rfl rfl) (fun b s' hb => ?_) fun _ _ e => e)
    obtain ⟨rfl, hs'⟩ := hb
    refine WhlIf.yes g2 ?_
    refine wpAny_mono (roC_body B X hne hL hr T tb g0 (by omega) (by simp only [List.length_append] at hk; omega) hs' g3) (fun f s'' hf => ?_) fun _ _ e => e
    obtain ⟨rfl, hs''⟩ := hf
    exact ih q1 (ks ++ g) k s'' hs'' g4 hk
theorem roC {rest : List (Addr × Obj)} {low high qC : Int} {v : Value} {s₀ : Shared} {ks : List (Bool × Str)} {gs : List (List (Bool × Str))} (hE : PassesOwn (model PG w) (ctx 861 4303 (roEnv L) outer gd) (roEnv L) E) (B : Below A₀ base outer h₀) (X : (kdef.heap_1 w.params).In h₀)
  (hne : r ≠ dr) (hL : dr < L) (hr : r < L) (T : Top p loose mean mg mb h₀) (tb : TB w.params h₀ lt l) (hs : StC w.params h₀ L r dr lt nd t1 t2 t3 rest low high v ks q s₀ s) (hg : Grps l q gs qC) (hk : (ks ++ gs.flatten).length < 100) :
  wpAny (model PG w) (ctx 861 4303 (roEnv L) outer gd) (execs ((roPack.1.1.drop 6).take 1) (roEnv L)) (fun f s' => f = .next ∧ StC w.params h₀ L r dr lt nd t1 t2 t3 rest low high v (ks ++ gs.flatten) qC s₀ s') E s := by
  have e : (roPack.1.1.drop 6).take 1 = [Stmt.While whPack.1.1 whPack.1.2.1 [] ⟨69, 4, 73, 70⟩] := rfl
  rw [e]
  refine wpAny_execs_cons ?_
  refine wpAny_mono (whl_start 0 (roC_loop hE B X hne hL hr T tb gs q ks 0 s hs hg hk)) (fun f s' hf => ?_) fun _ _ e => e
  obtain ⟨rfl, hs'⟩ := hf
  intro Γ p' hΓ
  exact ⟨rfl, hs'⟩
end


noncomputable def StrsIn (news : List (Addr × Obj)) (Ix : Addr) (xs : List Str) : Prop := ∃ us : List Tok, us.length = xs.length ∧ (Ix, tupO ((xs.zip us).map fun p => Value.str p.1 p.2).toArray) ∈ news
inductive StD (P : Params) (h₀ : Heap) (L r dr lt nd : Addr) (t1 t2 t3 : Tok) (rest : List (Addr × Obj)) (low high : Int) (v : Value) (ks : List (Bool × Str)) (ix : List Str) (q : Int) (s s' : Shared) : Prop
  | mk (m' : _) (h' : _) (tk' : _) (tk2 : _) (u1 : _) (u2 : _) (Kl : _) (Ix : _) (ys : _) (e : _) (rest' : _) (f1 : s' = { s with heap := h', toks := tk' }) (f2 : Fr h₀ L h' m') (f3 : News h₀ L h' ((Kl, listOf (List.toArray ys) e) :: (r, instObj 371 dr) :: (dr, rdO P t1 t2 t3 lt q tk2 nd) :: rest')) (f4 : (∀ x ∈ rest, x ∈ rest')) (f5 : (∀ q ∈ rest', q.1 ≠ dr ∧ q.1 ≠ Kl)) (f6 : (Kl ≠ r ∧ Kl ≠ dr)) (f7 : KeysIn rest' ys ks) (f8 : StrsIn rest' Ix ix) (f9 : m' (Str.ofString "reader") = some (.ref r)) (f10 : m' (Str.ofString "low") = some (.int low u1)) (f11 : m' (Str.ofString "high") = some (.int high u2)) (f12 : m' (Str.ofString "depending") = some v) (f13 : m' (Str.ofString "keys") = some (.ref Kl)) (f14 : m' (Str.ofString "indexes") = some (.ref Ix)) : StD P h₀ L r dr lt nd t1 t2 t3 rest low high v ks ix q s s'
noncomputable def SegD (l : List Tk) (q : Int) (ix : List Str) (qD : Int) : Prop :=
  (isWord l (q + 0) (Str.ofString "INDEXED") = false ∧ ix = [] ∧ qD = q) ∨
  (isWord l (q + 0) (Str.ofString "INDEXED") = true ∧ ∃ q1 xs, TailT l (q + 1) q1 (Str.ofString "BY") ∧ NamesAt l q1 xs qD ∧ ix = xs.map (·.x))
theorem stD_end {P : Params} {h₀ h' : Heap} {L r dr lt nd Kl Ix Dn : Addr} {t1 t2 t3 tk' tk2 u1 u2 : Tok} {m' : Str → Option Value} {rest rest' : List (Addr × Obj)} {low high q : Int} {v : Value} {ks : List (Bool × Str)} {ys : List Value} {e : Nat} {co on : Obj} {s : Shared} {xs : List Str} {us : List Tok}
    (N : News h₀ L h' ((Ix, tupO ((xs.zip us).map fun p => Value.str p.1 p.2).toArray) :: (Dn, on) :: (Kl, listOf (List.toArray ys) e) :: (L + 1, co) :: (r, instObj 371 dr) :: (dr, rdO P t1 t2 t3 lt q tk2 nd) :: rest')) (hu : us.length = xs.length) (F : Fr h₀ L h' m')
    (hs1 : ∀ x ∈ rest, x ∈ rest') (hrest : ∀ q ∈ rest', q.1 ≠ dr ∧ q.1 ≠ L + 1 ∧ q.1 ≠ Kl) (hk : Kl ≠ L + 1 ∧ Kl ≠ r ∧ Kl ≠ dr) (hK : KeysIn rest' ys ks)
    (hm : m' (Str.ofString "reader") = some (.ref r)) (hm1 : m' (Str.ofString "low") = some (.int low u1)) (hm2 : m' (Str.ofString "high") = some (.int high u2)) (hm3 : m' (Str.ofString "depending") = some v) (hm4 : m' (Str.ofString "keys") = some (.ref Kl)) (hm5 : m' (Str.ofString "indexes") = some (.ref Ix)) :
    StD P h₀ L r dr lt nd t1 t2 t3 rest low high v ks xs q s { s with heap := h', toks := tk' } := by
  have g0 := (N _ (.head _)).1
  have g1 := (N _ (.tail _ (.tail _ (.head _)))).1
  have g3 := (N _ (.tail _ (.tail _ (.tail _ (.tail _ (.tail _ (.head _))))))).1
  refine ⟨m', h', tk', tk2, u1, u2, Kl, Ix, ys, e, (Ix, tupO ((xs.zip us).map fun p => Value.str p.1 p.2).toArray) :: rest', rfl, F, ?_, fun x hx => .tail _ (hs1 x hx), ?_, hk.2, KeysIn.mono (fun _ h => .tail _ h) _ _ hK, ⟨us, hu, .head _⟩, hm, hm1, hm2, hm3, hm4, hm5⟩
  · intro x hx
    refine N x ?_
    simp only [List.mem_cons] at hx ⊢
    rcases hx with e | e | e | e | e <;> simp [e]
  · intro x hx
    rcases List.mem_cons.mp hx with e | hx
    · rw [e]
      refine ⟨?_, ?_⟩
      · intro c; dsimp only at c g0; rw [c, g3] at g0; exact absurd (congrArg Obj.cls (Option.some.inj g0)) (show Value.type "dict" ≠ Value.type "tuple" from by decide)
      · intro c; dsimp only at c g0; rw [c, g1] at g0; exact absurd (congrArg Obj.cls (Option.some.inj g0)) (show Value.type "list" ≠ Value.type "tuple" from by decide)
    · exact ⟨(hrest x hx).1, (hrest x hx).2.2⟩

section
variable {w : World} {p : Program} {loose : List Str} {mean : ExcName → Option Value} {mg mb : Str → Option Value}
  {env : Env} {outer : List Env} {gd : Option (List Code)} {A₀ : Around} {base h₀ : Heap} {L : Addr} {m : Str → Option Value} {news : List (Addr × Obj)} {g : Obj → List (Addr × Obj)} {s : Shared} {Q E : Value → Shared → Prop}
  {D U : Nat} {r dr lt nd : Addr} {t1 t2 t3 tk ka : Tok} {q k : Int} {n : Nat} {l : List Tk}

theorem roD {rest : List (Addr × Obj)} {low high qD : Int} {v : Value} {ks : List (Bool × Str)} {ix : List Str} {s₀ : Shared} (B : Below A₀ base outer h₀) (X : (kdef.heap_1 w.params).In h₀)
  (hne : r ≠ dr) (hL : dr < L) (hr : r < L) (T : Top p loose mean mg mb h₀) (tb : TB w.params h₀ lt l) (h0 : 0 ≤ q) (h2 : q < 9200)
  (hs : StC w.params h₀ L r dr lt nd t1 t2 t3 rest low high v ks q s₀ s) (hD : SegD l q ix qD) :
  wpAny (model PG w) (ctx 861 4303 (roEnv L) outer gd) (execs ((roPack.1.1.drop 7).take 1) (roEnv L)) (fun f s' => f = .next ∧ StD w.params h₀ L r dr lt nd t1 t2 t3 rest low high v ks ix qD s₀ s') E s := by
  obtain ⟨m, h, tk', tk2, u1, u2, Kl, Ix, ys, e, co, cb, rest', rfl, F, N, hs1, hrest, ⟨hk1, hk2, hk3⟩, hco, hK, hIx, hm, hm1, hm2, hm3, hm4, hm5⟩ := hs
  have hne1 := neN hne
  have hL1 := ltN hL
  have hr1 := ltN hr
  have hk11 := neN hk1
  have hk12 := neN hk2
  have hk13 := neN hk3
  have hrest1 : ∀ q ∈ rest', q.1 ≠ dr := fun q hq => (hrest q hq).1
  simp only [roPack, List.take_succ_cons, List.take_zero, List.drop_succ_cons, List.drop_zero, roEnv]
  rcases hD with ⟨hi, rfl, rfl⟩ | ⟨hi, q1, xs, hT, hN, rfl⟩
  · (repeat' (first | (with_reducible refine unstp ?_; first | ((k_here; k_dflt (refine' skipT_c ?hD ?hU ?B ?F ?X ?N ?hr ?hu ?T ?hf ?hke ?tb ?h0 ?h2 ?hsp ?hz ?hT ?_; (case hD => exact Nat.le_of_ble_eq_true rfl); (case hU => exact Nat.le_of_ble_eq_true rfl); (case B => k_asm); (case F => k_asm); (case X => k_asm); (case N => k_asm); (case hr => k_mem); (case hu => k_updF); (case T => k_asm); (case hf => rfl); (case hke => rfl); (case tb => assumption); (case h0 => omega); (case h2 => omega); (case hsp => first | assumption | decide +kernel); (case hz => first | assumption | decide +kernel); (case hT => assumption); k_whole); intro h9z' tk9z' tk29z' bb9z' F9z' N9z'; (try dsimp only at N9z'))) | ((k_here; k_dflt (refine' names2_c ?hD ?hU ?B ?F ?X ?N ?hr ?hu ?T ?hf ?hke ?tb ?h0 ?h2 ?hb ?ho ?hb1 ?ho1 ?hb2 ?_; (case hD => exact Nat.le_of_ble_eq_true rfl); (case hU => exact Nat.le_of_ble_eq_true rfl); (case B => k_asm); (case F => k_asm); (case X => k_asm); (case N => k_asm); (case hr => k_mem); (case hu => k_updF); (case T => k_asm); (case hf => rfl); (case hke => rfl); (case tb => assumption); (case h0 => omega); (case h2 => omega); (case hb => assumption); (case ho => assumption); (case hb1 => assumption); (case ho1 => assumption); (case hb2 => assumption); k_whole); intro D9z' h9z' tk9z' tk29z' F9z' N9z' l19z; (try dsimp only at N9z'); (try dsimp only at l19z); (try k_lt l19z))) | ((k_here; k_dflt (refine' names1_c ?hD ?hU ?B ?F ?X ?N ?hr ?hu ?T ?hf ?hke ?tb ?h0 ?h2 ?hb ?ho ?hb1 ?_; (case hD => exact Nat.le_of_ble_eq_true rfl); (case hU => exact Nat.le_of_ble_eq_true rfl); (case B => k_asm); (case F => k_asm); (case X => k_asm); (case N => k_asm); (case hr => k_mem); (case hu => k_updF); (case T => k_asm); (case hf => rfl); (case hke => rfl); (case tb => assumption); (case h0 => omega); (case h2 => omega); (case hb => assumption); (case ho => assumption); (case hb1 => assumption); k_whole); intro D9z' h9z' tk9z' tk29z' F9z' N9z' l19z; (try dsimp only at N9z'); (try dsimp only at l19z); (try k_lt l19z))) | ((k_here; k_dflt (refine' skip_t ?hD ?hU ?B ?F ?X ?N ?hr ?hu ?T ?hf ?hke ?tb ?h0 ?h2 ?hsp ?hz ?hb ?_; (case hD => exact Nat.le_of_ble_eq_true rfl); (case hU => exact Nat.le_of_ble_eq_true rfl); (case B => k_asm); (case F => k_asm); (case X => k_asm); (case N => k_asm); (case hr => k_mem); (case hu => k_updF); (case T => k_asm); (case hf => rfl); (case hke => rfl); (case tb => assumption); (case h0 => omega); (case h2 => omega); (case hsp => first | assumption | decide +kernel); (case hz => first | assumption | decide +kernel); (case hb => assumption); k_whole); intro h9z' tk9z' tk29z' F9z' N9z'; (try dsimp only at N9z'))) | ((k_here; k_dflt (refine' skip_f ?hD ?hU ?B ?F ?X ?N ?hr ?hd ?T ?hf ?hke ?tb ?h0 ?h2 ?hsp ?hz ?hb ?_; (case hD => exact Nat.le_of_ble_eq_true rfl); (case hU => exact Nat.le_of_ble_eq_true rfl); (case B => k_asm); (case F => k_asm); (case X => k_asm); (case N => k_asm); (case hr => k_mem); (case hd => k_mem); (case T => k_asm); (case hf => rfl); (case hke => rfl); (case tb => assumption); (case h0 => omega); (case h2 => omega); (case hsp => first | assumption | decide +kernel); (case hz => first | assumption | decide +kernel); (case hb => assumption); k_whole); intro h9z' tk9z' F9z' N9z'; (try dsimp only [tkv]))) | (refine goM ?_; k_dflt walk1) | (k_dflt (dsimp only); refine stp ?_)) | (k_unfold; (first | with_reducible refine (?_ : wpAny _ _ _ _ _ _) | (try dsimp only))) | (k_end; wrow_close) | walk1 | (dsimp only; walk1) | (leave1; walk_say "STEP leave1"; try dsimp only) | fail "no step"))
    all_goals exact ⟨m, _, _, tk2, u1, u2, Kl, Ix, ys, e, rest', rfl, by k_asm, nb0 (by k_asm) (fun x hx => by simp only [List.mem_cons] at hx ⊢; rcases hx with e | e | e | e <;> simp [e]), hs1, fun q hq => ⟨(hrest q hq).1, (hrest q hq).2.2⟩, ⟨hk2, hk3⟩, hK, ⟨[], rfl, hIx⟩, hm, hm1, hm2, hm3, hm4, hm5⟩
  · have hq1 := tail_le hT
    obtain ⟨hn0, a, ha, hN⟩ := hN
    rcases hN with ⟨hn1, rfl, rfl⟩ | ⟨hn1, b, hb, hn2, rfl, rfl⟩
    · (repeat' (first | (with_reducible refine unstp ?_; first | ((k_here; k_dflt (refine' skipT_c ?hD ?hU ?B ?F ?X ?N ?hr ?hu ?T ?hf ?hke ?tb ?h0 ?h2 ?hsp ?hz ?hT ?_; (case hD => exact Nat.le_of_ble_eq_true rfl); (case hU => exact Nat.le_of_ble_eq_true rfl); (case B => k_asm); (case F => k_asm); (case X => k_asm); (case N => k_asm); (case hr => k_mem); (case hu => k_updF); (case T => k_asm); (case hf => rfl); (case hke => rfl); (case tb => assumption); (case h0 => omega); (case h2 => omega); (case hsp => first | assumption | decide +kernel); (case hz => first | assumption | decide +kernel); (case hT => assumption); k_whole); intro h9z' tk9z' tk29z' bb9z' F9z' N9z'; (try dsimp only at N9z'))) | ((k_here; k_dflt (refine' names2_c ?hD ?hU ?B ?F ?X ?N ?hr ?hu ?T ?hf ?hke ?tb ?h0 ?h2 ?hb ?ho ?hb1 ?ho1 ?hb2 ?_; (case hD => exact Nat.le_of_ble_eq_true rfl); (case hU => exact Nat.le_of_ble_eq_true rfl); (case B => k_asm); (case F => k_asm); (case X => k_asm); (case N => k_asm); (case hr => k_mem); (case hu => k_updF); (case T => k_asm); (case hf => rfl); (case hke => rfl); (case tb => assumption); (case h0 => omega); (case h2 => omega); (case hb => assumption); (case ho => assumption); (case hb1 => assumption); (case ho1 => assumption); (case hb2 => assumption); k_whole); intro D9z' h9z' tk9z' tk29z' F9z' N9z' l19z; (try dsimp only at N9z'); (try dsimp only at l19z); (try k_lt l19z))) | ((k_here; k_dflt (refine' names1_c ?hD ?hU ?B ?F ?X ?N ?hr ?hu ?T ?hf ?hke ?tb ?h0 ?h2 ?hb ?ho ?hb1 ?_; (case hD => exact Nat.le_of_ble_eq_true rfl); (case hU => exact Nat.le_of_ble_eq_true rfl); (case B => k_asm); (case F => k_asm); (case X => k_asm); (case N => k_asm); (case hr => k_mem); (case hu => k_updF); (case T => k_asm); (case hf => rfl); (case hke => rfl); (case tb => assumption); (case h0 => omega); (case h2 => omega); (case hb => assumption); (case ho => assumption); (case hb1 => assumption); k_whole); intro D9z' h9z' tk9z' tk29z' F9z' N9z' l19z; (try dsimp only at N9z'); (try dsimp only at l19z); (try k_lt l19z))) | ((k_here; k_dflt (refine' skip_t ?hD ?hU ?B ?F ?X ?N ?hr ?hu ?T ?hf ?hke ?tb ?h0 ?h2 ?hsp ?hz ?hb ?_; (case hD => exact Nat.le_of_ble_eq_true rfl); (case hU => exact Nat.le_of_ble_eq_true rfl); (case B => k_asm); (case F => k_asm); (case X => k_asm); (case N => k_asm); (case hr => k_mem); (case hu => k_updF); (case T => k_asm); (case hf => rfl); (case hke => rfl); (case tb => assumption); (case h0 => omega); (case h2 => omega); (case hsp => first | assumption | decide +kernel); (case hz => first | assumption | decide +kernel); (case hb => assumption); k_whole); intro h9z' tk9z' tk29z' F9z' N9z'; (try dsimp only at N9z'))) | ((k_here; k_dflt (refine' skip_f ?hD ?hU ?B ?F ?X ?N ?hr ?hd ?T ?hf ?hke ?tb ?h0 ?h2 ?hsp ?hz ?hb ?_; (case hD => exact Nat.le_of_ble_eq_true rfl); (case hU => exact Nat.le_of_ble_eq_true rfl); (case B => k_asm); (case F => k_asm); (case X => k_asm); (case N => k_asm); (case hr => k_mem); (case hd => k_mem); (case T => k_asm); (case hf => rfl); (case hke => rfl); (case tb => assumption); (case h0 => omega); (case h2 => omega); (case hsp => first | assumption | decide +kernel); (case hz => first | assumption | decide +kernel); (case hb => assumption); k_whole); intro h9z' tk9z' F9z' N9z'; (try dsimp only [tkv]))) | (refine goM ?_; k_dflt walk1) | (k_dflt (dsimp only); refine stp ?_)) | (k_unfold; (first | with_reducible refine (?_ : wpAny _ _ _ _ _ _) | (try dsimp only))) | (k_end; wrow_close) | walk1 | (dsimp only; walk1) | (leave1; walk_say "STEP leave1"; try dsimp only) | fail "no step"))
      all_goals exact stD_end (xs := [a.x]) (us := [a.k2]) (by k_asm) rfl (by k_asm) hs1 hrest ⟨hk1, hk2, hk3⟩ hK (by (try dsimp only); first | assumption | rfl | (simp (decide := true) only [reduceIte]; done) | (simp (decide := true) only [reduceIte]; assumption)) (by (try dsimp only); first | assumption | rfl | (simp (decide := true) only [reduceIte]; done) | (simp (decide := true) only [reduceIte]; assumption)) (by (try dsimp only); first | assumption | rfl | (simp (decide := true) only [reduceIte]; done) | (simp (decide := true) only [reduceIte]; assumption)) (by (try dsimp only); first | assumption | rfl | (simp (decide := true) only [reduceIte]; done) | (simp (decide := true) only [reduceIte]; assumption)) (by (try dsimp only); first | assumption | rfl | (simp (decide := true) only [reduceIte]; done) | (simp (decide := true) only [reduceIte]; assumption)) (by (try dsimp only); first | assumption | rfl | (simp (decide := true) only [reduceIte]; done) | (simp (decide := true) only [reduceIte]; assumption))
    · (repeat' (first | (with_reducible refine unstp ?_; first | ((k_here; k_dflt (refine' skipT_c ?hD ?hU ?B ?F ?X ?N ?hr ?hu ?T ?hf ?hke ?tb ?h0 ?h2 ?hsp ?hz ?hT ?_; (case hD => exact Nat.le_of_ble_eq_true rfl); (case hU => exact Nat.le_of_ble_eq_true rfl); (case B => k_asm); (case F => k_asm); (case X => k_asm); (case N => k_asm); (case hr => k_mem); (case hu => k_updF); (case T => k_asm); (case hf => rfl); (case hke => rfl); (case tb => assumption); (case h0 => omega); (case h2 => omega); (case hsp => first | assumption | decide +kernel); (case hz => first | assumption | decide +kernel); (case hT => assumption); k_whole); intro h9z' tk9z' tk29z' bb9z' F9z' N9z'; (try dsimp only at N9z'))) | ((k_here; k_dflt (refine' names2_c ?hD ?hU ?B ?F ?X ?N ?hr ?hu ?T ?hf ?hke ?tb ?h0 ?h2 ?hb ?ho ?hb1 ?ho1 ?hb2 ?_; (case hD => exact Nat.le_of_ble_eq_true rfl); (case hU => exact Nat.le_of_ble_eq_true rfl); (case B => k_asm); (case F => k_asm); (case X => k_asm); (case N => k_asm); (case hr => k_mem); (case hu => k_updF); (case T => k_asm); (case hf => rfl); (case hke => rfl); (case tb => assumption); (case h0 => omega); (case h2 => omega); (case hb => assumption); (case ho => assumption); (case hb1 => assumption); (case ho1 => assumption); (case hb2 => assumption); k_whole); intro D9z' h9z' tk9z' tk29z' F9z' N9z' l19z; (try dsimp only at N9z'); (try dsimp only at l19z); (try k_lt l19z))) | ((k_here; k_dflt (refine' names1_c ?hD ?hU ?B ?F ?X ?N ?hr ?hu ?T ?hf ?hke ?tb ?h0 ?h2 ?hb ?ho ?hb1 ?_; (case hD => exact Nat.le_of_ble_eq_true rfl); (case hU => exact Nat.le_of_ble_eq_true rfl); (case B => k_asm); (case F => k_asm); (case X => k_asm); (case N => k_asm); (case hr => k_mem); (case hu => k_updF); (case T => k_asm); (case hf => rfl); (case hke => rfl); (case tb => assumption); (case h0 => omega); (case h2 => omega); (case hb => assumption); (case ho => assumption); (case hb1 => assumption); k_whole); intro D9z' h9z' tk9z' tk29z' F9z' N9z' l19z; (try dsimp only at N9z'); (try dsimp only at l19z); (try k_lt l19z))) | ((k_here; k_dflt (refine' skip_t ?hD ?hU ?B ?F ?X ?N ?hr ?hu ?T ?hf ?hke ?tb ?h0 ?h2 ?hsp ?hz ?hb ?_; (case hD => exact Nat.le_of_ble_eq_true rfl); (case hU => exact Nat.le_of_ble_eq_true rfl); (case B => k_asm); (case F => k_asm); (case X => k_asm); (case N => k_asm); (case hr => k_mem); (case hu => k_updF); (case T => k_asm); (case hf => rfl); (case hke => rfl); (case tb => assumption); (case h0 => omega); (case h2 => omega); (case hsp => first | assumption | decide +kernel); (case hz => first | assumption | decide +kernel); (case hb => assumption); k_whole); intro h9z' tk9z' tk29z' F9z' N9z'; (try dsimp only at N9z'))) | ((k_here; k_dflt (refine' skip_f ?hD ?hU ?B ?F ?X ?N ?hr ?hd ?T ?hf ?hke ?tb ?h0 ?h2 ?hsp ?hz ?hb ?_; (case hD => exact Nat.le_of_ble_eq_true rfl); (case hU => exact Nat.le_of_ble_eq_true rfl); (case B => k_asm); (case F => k_asm); (case X => k_asm); (case N => k_asm); (case hr => k_mem); (case hd => k_mem); (case T => k_asm); (case hf => rfl); (case hke => rfl); (case tb => assumption); (case h0 => omega); (case h2 => omega); (case hsp => first | assumption | decide +kernel); (case hz => first | assumption | decide +kernel); (case hb => assumption); k_whole); intro h9z' tk9z' F9z' N9z'; (try dsimp only [tkv]))) | (refine goM ?_; k_dflt walk1) | (k_dflt (dsimp only); refine stp ?_)) | (k_unfold; (first | with_reducible refine (?_ : wpAny _ _ _ _ _ _) | (try dsimp only))) | (k_end; wrow_close) | walk1 | (dsimp only; walk1) | (leave1; walk_say "STEP leave1"; try dsimp only) | fail "no step"))
      all_goals exact stD_end (xs := [a.x, b.x]) (us := [a.k2, b.k2]) (by k_asm) rfl (by k_asm) hs1 hrest ⟨hk1, hk2, hk3⟩ hK (by (try dsimp only); first | assumption | rfl | (simp (decide := true) only [reduceIte]; done) | (simp (decide := true) only [reduceIte]; assumption)) (by (try dsimp only); first | assumption | rfl | (simp (decide := true) only [reduceIte]; done) | (simp (decide := true) only [reduceIte]; assumption)) (by (try dsimp only); first | assumption | rfl | (simp (decide := true) only [reduceIte]; done) | (simp (decide := true) only [reduceIte]; assumption)) (by (try dsimp only); first | assumption | rfl | (simp (decide := true) only [reduceIte]; done) | (simp (decide := true) only [reduceIte]; assumption)) (by (try dsimp only); first | assumption | rfl | (simp (decide := true) only [reduceIte]; done) | (simp (decide := true) only [reduceIte]; assumption)) (by (try dsimp only); first | assumption | rfl | (simp (decide := true) only [reduceIte]; done) | (simp (decide := true) only [reduceIte]; assumption))
end


noncomputable abbrev occO (P : Params) (a1 a2 a3 a4 a5 : Tok) (low : Int) (u1 : Tok) (high : Int) (u2 : Tok) (v k i : Value) : Obj :=
  dictOf [⟨PyData.keyHash P (Str.ofString "low"), .str (Str.ofString "low") a1, .int low u1⟩, ⟨PyData.keyHash P (Str.ofString "high"), .str (Str.ofString "high") a2, .int high u2⟩,
    ⟨PyData.keyHash P (Str.ofString "depending"), .str (Str.ofString "depending") a3, v⟩, ⟨PyData.keyHash P (Str.ofString "keys"), .str (Str.ofString "keys") a4, k⟩, ⟨PyData.keyHash P (Str.ofString "indexes"), .str (Str.ofString "indexes") a5, i⟩] 5
inductive OccIn (P : Params) (nw : List (Addr × Obj)) (x : Addr) (low high : Int) (v : Value) (ks : List (Bool × Str)) (ix : List Str) : Prop
  | mk (d : _) (D : _) (Ix : _) (ys : _) (a1 a2 a3 a4 a5 u1 u2 : Tok) (f1 : (x, instObj 48 d) ∈ nw) (f2 : (d, occO P a1 a2 a3 a4 a5 low u1 high u2 v (.ref D) (.ref Ix)) ∈ nw) (f3 : (D, tupO (List.toArray ys)) ∈ nw) (f4 : KeysIn nw ys ks) (f5 : StrsIn nw Ix ix) : OccIn P nw x low high v ks ix
inductive EndOk (P : Params) (h₀ : Heap) (L r dr lt nd : Addr) (t1 t2 t3 : Tok) (rest : List (Addr × Obj)) (low high : Int) (v : Value) (ks : List (Bool × Str)) (ix : List Str) (q : Int) (s : Shared) (x : Addr) (s' : Shared) : Prop
  | mk (m' : _) (h' : _) (tk' : _) (tk2 : _) (nw : _) (f1 : s' = { s with heap := h', toks := tk' }) (f2 : Fr h₀ L h' m') (f3 : News h₀ L h' ((r, instObj 371 dr) :: (dr, rdO P t1 t2 t3 lt q tk2 nd) :: nw)) (f4 : (∀ y ∈ rest, y ∈ nw)) (f5 : OccIn P nw x low high v ks ix) : EndOk P h₀ L r dr lt nd t1 t2 t3 rest low high v ks ix q s x s'
theorem end_ok {P : Params} {h₀ h' : Heap} {L r dr lt nd Kl Ix D d x : Addr} {t1 t2 t3 tk2 u1 u2 a1 a2 a3 a4 a5 : Tok} {tk' : Nat} {m' : Str → Option Value} {rest rest' : List (Addr × Obj)} {low high q : Int} {v : Value} {ks : List (Bool × Str)} {ix : List Str} {us : List Tok} {ys : List Value} {o : Obj} {s : Shared}
    (F : Fr h₀ L h' m') (N : News h₀ L h' ((D, tupO (List.toArray ys)) :: (x, instObj 48 d) :: (d, occO P a1 a2 a3 a4 a5 low u1 high u2 v (.ref D) (.ref Ix)) :: (Kl, o) :: (r, instObj 371 dr) :: (dr, rdO P t1 t2 t3 lt q tk2 nd) :: rest'))
    (hs1 : ∀ x ∈ rest, x ∈ rest') (hK : KeysIn rest' ys ks) (hu : us.length = ix.length) (hIx : (Ix, tupO ((ix.zip us).map fun p => Value.str p.1 p.2).toArray) ∈ rest') :
    EndOk P h₀ L r dr lt nd t1 t2 t3 rest low high v ks ix q s x { s with heap := h', toks := tk' } := by
  refine ⟨m', h', tk', tk2, (D, tupO (List.toArray ys)) :: (x, instObj 48 d) :: (d, occO P a1 a2 a3 a4 a5 low u1 high u2 v (.ref D) (.ref Ix)) :: rest', rfl, F, nb0 N ?_, fun y hy => .tail _ (.tail _ (.tail _ (hs1 y hy))), d, D, Ix, ys, a1, a2, a3, a4, a5, u1, u2, .tail _ (.head _), .tail _ (.tail _ (.head _)), .head _, ?_, us, hu, .tail _ (.tail _ (.tail _ hIx))⟩
  · intro y hy
    rcases List.mem_cons.1 hy with e | hy
    · subst e; exact .tail _ (.tail _ (.tail _ (.tail _ (.head _))))
    rcases List.mem_cons.1 hy with e | hy
    · subst e; exact .tail _ (.tail _ (.tail _ (.tail _ (.tail _ (.head _)))))
    rcases List.mem_cons.1 hy with e | hy
    · subst e; exact .head _
    rcases List.mem_cons.1 hy with e | hy
    · subst e; exact .tail _ (.head _)
    rcases List.mem_cons.1 hy with e | hy
    · subst e; exact .tail _ (.tail _ (.head _))
    exact .tail _ (.tail _ (.tail _ (.tail _ (.tail _ (.tail _ hy)))))
  · exact KeysIn.mono (fun y hy => .tail _ (.tail _ (.tail _ hy))) _ _ hK

section
variable {w : World} {p : Program} {loose : List Str} {mean : ExcName → Option Value} {mg mb : Str → Option Value}
  {env : Env} {outer : List Env} {gd : Option (List Code)} {A₀ : Around} {base h₀ : Heap} {L : Addr} {m : Str → Option Value} {news : List (Addr × Obj)} {g : Obj → List (Addr × Obj)} {s : Shared} {Q E : Value → Shared → Prop}
  {D U : Nat} {r dr lt nd : Addr} {t1 t2 t3 tk ka : Tok} {q k : Int} {n : Nat} {l : List Tk}
local macro_rules | `(tactic| walk_at "ite") => `(tactic| (k_here; k_dflt (first | refine ite_pos (by simp only [decide_eq_true_eq, beq_iff_eq, bne_iff_ne, ne_eq]; omega) ?_ | refine ite_neg (by simp only [decide_eq_true_eq, beq_iff_eq, bne_iff_ne, ne_eq]; omega) ?_)))
local macro_rules | `(tactic| walk_at "call type:tuple") => `(tactic| (goal_lacks GoM; refine stp ?_))

theorem roE_none {Q : Flow → Shared → Prop} {rest : List (Addr × Obj)} {low high : Int} {v : Value} {ks : List (Bool × Str)} {ix : List Str} {s₀ : Shared} (B : Below A₀ base outer h₀) (X : (kdef.heap_1 w.params).In h₀)
  (hne : r ≠ dr) (hL : dr < L) (hr : r < L) (T : Top p loose mean mg mb h₀) (tb : TB w.params h₀ lt l) (h0 : 0 ≤ q) (h2 : q < 9200) (hks : ks.length < 100)
  (hs : StD w.params h₀ L r dr lt nd t1 t2 t3 rest low high v ks ix q s₀ s) (hv : v = .none) (heq : high = low) (hh : ¬ high < low) (hh0 : high ≠ 0)
  (ret : ∀ x s', EndOk w.params h₀ L r dr lt nd t1 t2 t3 rest low high v ks ix q s₀ x s' → Q (.ret (.ref x)) s') :
  wpAny (model PG w) (ctx 861 4303 (roEnv L) outer gd) (execs (roPack.1.1.drop 8) (roEnv L)) Q E s := by
  obtain ⟨m, h, tk', tk2, u1, u2, Kl, Ix, ys, e, rest', rfl, F, N, hs1, hrest, ⟨hk2, hk3⟩, hK, hIx, hm, hm1, hm2, hm3, hm4, hm5⟩ := hs
  subst hv
  have hys : ys.length = ks.length := keys_len _ _ hK
  obtain ⟨us, hus, hIx⟩ := hIx
  have hne1 := neN hne
  have hL1 := ltN hL
  have hr1 := ltN hr
  have hk12 := neN hk2
  have hk13 := neN hk3
  have hrest1 : ∀ q ∈ rest', q.1 ≠ dr := fun q hq => (hrest q hq).1
  simp only [roPack, List.take_succ_cons, List.take_zero, List.drop_succ_cons, List.drop_zero, roEnv]
  (repeat' (first | (with_reducible refine unstp ?_; first | ((k_here; (with_reducible show wpAny _ _ (call (Value.type _) [Value.ref _]) _ _ _); k_dflt (refine call_tuple_tup (News.isTup (by k_asm) (by k_mem)) ?_))) | ((k_here; (with_reducible show wpAny _ _ (call (Value.type _) [Value.ref _]) _ _ _); k_dflt (refine' kde_tupleOf ?k1 ?k2 ?k3 ?k4 ?k5 ?_; (case k1 => k_asm); (case k2 => k_asm); (case k3 => exact News.isList (by k_asm) (by k_mem)); (case k4 => (simp only [List.size_toArray]; omega)); (case k5 => exact rfl); k_whole); intro D9z' h9z' F9z' N9z' l19z; (have l19z' := l19z); (try k_lt l19z))) | (refine goM ?_; k_dflt walk1) | (k_dflt (dsimp only); refine stp ?_)) | (k_unfold; (first | with_reducible refine (?_ : wpAny _ _ _ _ _ _) | (try dsimp only))) | (k_end; wrow_close) | walk1 | (dsimp only; walk1) | (leave1; walk_say "STEP leave1"; try dsimp only) | fail "no step"))
  exact ret _ _ (end_ok (by assumption) (by assumption) hs1 hK hus hIx)
end

section
variable {w : World} {p : Program} {loose : List Str} {mean : ExcName → Option Value} {mg mb : Str → Option Value}
  {env : Env} {outer : List Env} {gd : Option (List Code)} {A₀ : Around} {base h₀ : Heap} {L : Addr} {m : Str → Option Value} {news : List (Addr × Obj)} {g : Obj → List (Addr × Obj)} {s : Shared} {Q E : Value → Shared → Prop}
  {D U : Nat} {r dr lt nd : Addr} {t1 t2 t3 tk ka : Tok} {q k : Int} {n : Nat} {l : List Tk}
local macro_rules | `(tactic| walk_at "ite") => `(tactic| (k_here; k_dflt (first | refine ite_pos (by simp only [decide_eq_true_eq, beq_iff_eq, bne_iff_ne, ne_eq]; omega) ?_ | refine ite_neg (by simp only [decide_eq_true_eq, beq_iff_eq, bne_iff_ne, ne_eq]; omega) ?_)))
local macro_rules | `(tactic| walk_at "call type:tuple") => `(tactic| (goal_lacks GoM; refine stp ?_))

theorem roE_some {Q : Flow → Shared → Prop} {rest : List (Addr × Obj)} {low high : Int} {v : Value} {ks : List (Bool × Str)} {ix : List Str} {s₀ : Shared} (B : Below A₀ base outer h₀) (X : (kdef.heap_1 w.params).In h₀)
  (hne : r ≠ dr) (hL : dr < L) (hr : r < L) (T : Top p loose mean mg mb h₀) (tb : TB w.params h₀ lt l) (h0 : 0 ≤ q) (h2 : q < 9200) (hks : ks.length < 100)
  (hs : StD w.params h₀ L r dr lt nd t1 t2 t3 rest low high v ks ix q s₀ s) {D1 : Addr} (hv : v = .ref D1) (hh : ¬ high < low) (hh0 : high ≠ 0)
  (ret : ∀ x s', EndOk w.params h₀ L r dr lt nd t1 t2 t3 rest low high v ks ix q s₀ x s' → Q (.ret (.ref x)) s') :
  wpAny (model PG w) (ctx 861 4303 (roEnv L) outer gd) (execs (roPack.1.1.drop 8) (roEnv L)) Q E s := by
  obtain ⟨m, h, tk', tk2, u1, u2, Kl, Ix, ys, e, rest', rfl, F, N, hs1, hrest, ⟨hk2, hk3⟩, hK, hIx, hm, hm1, hm2, hm3, hm4, hm5⟩ := hs
  subst hv
  have hys : ys.length = ks.length := keys_len _ _ hK
  obtain ⟨us, hus, hIx⟩ := hIx
  have hne1 := neN hne
  have hL1 := ltN hL
  have hr1 := ltN hr
  have hk12 := neN hk2
  have hk13 := neN hk3
  have hrest1 : ∀ q ∈ rest', q.1 ≠ dr := fun q hq => (hrest q hq).1
  simp only [roPack, List.take_succ_cons, List.take_zero, List.drop_succ_cons, List.drop_zero, roEnv]
  (repeat' (first | (with_reducible refine unstp ?_; first | ((k_here; (with_reducible show wpAny _ _ (call (Value.type _) [Value.ref _]) _ _ _); k_dflt (refine call_tuple_tup (News.isTup (by k_asm) (by k_mem)) ?_))) | ((k_here; (with_reducible show wpAny _ _ (call (Value.type _) [Value.ref _]) _ _ _); k_dflt (refine' kde_tupleOf ?k1 ?k2 ?k3 ?k4 ?k5 ?_; (case k1 => k_asm); (case k2 => k_asm); (case k3 => exact News.isList (by k_asm) (by k_mem)); (case k4 => (simp only [List.size_toArray]; omega)); (case k5 => exact rfl); k_whole); intro D9z' h9z' F9z' N9z' l19z; (have l19z' := l19z); (try k_lt l19z))) | (refine goM ?_; k_dflt walk1) | (k_dflt (dsimp only); refine stp ?_)) | (k_unfold; (first | with_reducible refine (?_ : wpAny _ _ _ _ _ _) | (try dsimp only))) | (k_end; wrow_close) | walk1 | (dsimp only; walk1) | (leave1; walk_say "STEP leave1"; try dsimp only) | fail "no step"))
  exact ret _ _ (end_ok (by assumption) (by assumption) hs1 hK hus hIx)
end


theorem DepV.mono {a b : List (Addr × Obj)} (h : ∀ x ∈ a, x ∈ b) {v : Value} {dep : Option (Str × List Str)} (hd : DepV a v dep) : DepV b v dep := by
  cases dep with
  | none => exact hd
  | some d =>
    obtain ⟨D1, D2, D3, u1, u2, us, hu, e, m1, m2, m3⟩ := hd
    exact ⟨D1, D2, D3, u1, u2, us, hu, e, h _ m1, h _ m2, h _ m3⟩

section
variable {w : World} {p : Program} {loose : List Str} {mean : ExcName → Option Value} {mg mb : Str → Option Value}
  {env : Env} {outer : List Env} {gd : Option (List Code)} {A₀ : Around} {base h₀ : Heap} {L : Addr} {m : Str → Option Value} {news : List (Addr × Obj)} {g : Obj → List (Addr × Obj)} {s : Shared} {Q E : Value → Shared → Prop}
  {D U : Nat} {r dr lt nd : Addr} {t1 t2 t3 tk ka : Tok} {q k : Int} {n : Nat} {l : List Tk}

theorem roBody {Q : Flow → Shared → Prop} {co : Obj} {rest : List (Addr × Obj)} {low high qA qB qC qD : Int} {dep : Option (Str × List Str)} {gs : List (List (Bool × Str))} {ix : List Str} (hE : PassesOwn (model PG w) (ctx 861 4303 (roEnv L) outer gd) (roEnv L) E) (B : Below A₀ base outer h₀) (F : Fr h₀ L s.heap m) (X : (kdef.heap_1 w.params).In h₀) (N : News h₀ L s.heap ((L + 1, co) :: (r, instObj 371 dr) :: (dr, rdO w.params t1 t2 t3 lt q tk nd) :: rest)) (hrest : ∀ q ∈ rest, q.1 ≠ dr ∧ q.1 ≠ L + 1) (hco : co.data = .cell none) (hne : r ≠ dr) (hL : dr < L)
  (T : Top p loose mean mg mb h₀) (tb : TB w.params h₀ lt l) (h0 : 0 ≤ q) (hr : r < L) (h2 : q < 9000) (hm : m (Str.ofString "reader") = some (.ref r))
  (hA : SegA l q low high qA) (hB : SegB l qA dep qB) (hG : Grps l qB gs qC) (hks : gs.flatten.length < 100) (hD : SegD l qC ix qD) (hh : ¬ high < low) (hh0 : high ≠ 0) (heq : dep = none → high = low)
  (a0 : 0 ≤ qA) (a2 : qA < 9100) (b0 : 0 ≤ qB) (b2 : qB < 9100) (c0 : 0 ≤ qC) (c2 : qC < 9200) (d0 : 0 ≤ qD) (d2 : qD < 9200)
  (ret : ∀ x v m' h' tk' tk2 nw, Fr h₀ L h' m' → News h₀ L h' ((r, instObj 371 dr) :: (dr, rdO w.params t1 t2 t3 lt qD tk2 nd) :: nw) → (∀ y ∈ rest, y ∈ nw) → DepV nw v dep → OccIn w.params nw x low high v gs.flatten ix → Q (.ret (.ref x)) { s with heap := h', toks := tk' }) :
  wpAny (model PG w) (ctx 861 4303 (roEnv L) outer gd) (execs roPack.1.1 (roEnv L)) Q E s := by
  have e : roPack.1.1 = (roPack.1.1.take 4) ++ ((roPack.1.1.drop 4).take 1 ++ ((roPack.1.1.drop 5).take 1 ++ ((roPack.1.1.drop 6).take 1 ++ ((roPack.1.1.drop 7).take 1 ++ roPack.1.1.drop 8)))) := rfl
  rw [e]
  refine execs_cut (roA B F X N (fun q hq => (hrest q hq).1) hne hL T tb h0 h2 hm hA) fun s1 hs1 => ?_
  obtain ⟨mA, gA, tkA, tk2A, u1, u2, rfl, FA, NA, hmA, hmA1, hmA2, hmA3⟩ := hs1
  refine execs_cut (roB B FA X NA hrest hco hne hL T tb a0 a2 hmA hmA1 hmA2 hmA3 hB) fun s2 hs2 => ?_
  obtain ⟨mB, gB, tkB, tk2B, v1, v2, v, rest', rfl, FB, NB, hsB, hrestB, hdep, hmB, hmB1, hmB2, hmB3⟩ := hs2
  refine execs_cut (roC_init B FB X NB hrestB hco hne hL T tb b0 b2 hmB hmB1 hmB2 hmB3) fun s3 hs3 => ?_
  refine execs_cut (roC hE B X hne hL hr T tb hs3 hG hks) fun s4 hs4 => ?_
  refine execs_cut (roD B X hne hL hr T tb c0 c2 hs4 hD) fun s5 hs5 => ?_
  have fin : ∀ x s', EndOk w.params h₀ L r dr lt nd t1 t2 t3 rest' low high v ([] ++ gs.flatten) ix qD { { s with heap := gA, toks := tkA } with heap := gB, toks := tkB } x s' → Q (.ret (.ref x)) s' := by
    rintro x s' ⟨m', h', tk', tk2, nw, rfl, F', N', hs', ho⟩
    exact ret x v m' h' tk' tk2 nw F' N' (fun y hy => hs' y (hsB y hy)) (hdep.mono hs') ho
  cases dep with
  | none => exact roE_none B X hne hL hr T tb d0 d2 hks hs5 hdep (heq rfl) hh hh0 fin
  | some d =>
    obtain ⟨D1, D2, D3, w1, w2, us, hu, e1, mm⟩ := hdep
    exact roE_some B X hne hL hr T tb d0 d2 hks hs5 e1 hh hh0 fin
end


section
variable {w : World} {p : Program} {loose : List Str} {mean : ExcName → Option Value} {mg mb : Str → Option Value}
  {env : Env} {outer : List Env} {gd : Option (List Code)} {A₀ : Around} {base h₀ : Heap} {L : Addr} {m : Str → Option Value} {news : List (Addr × Obj)} {g : Obj → List (Addr × Obj)} {s : Shared} {Q E : Value → Shared → Prop}
  {D U : Nat} {r dr lt nd : Addr} {t1 t2 t3 tk ka : Tok} {q k : Int} {n : Nat} {l : List Tk}

theorem ro_c {rest : List (Addr × Obj)} {low high qA qB qC qD : Int} {dep : Option (Str × List Str)} {gs : List (List (Bool × Str))} {ix : List Str} (hDD : D ≤ 860) (hU : U ≤ 4300)
  (B : Below A₀ base outer h₀) (F : Fr h₀ L s.heap m) (X : (kdef.heap_1 w.params).In h₀) (N : News h₀ L s.heap ((r, instObj 371 dr) :: (dr, rdO w.params t1 t2 t3 lt q tk nd) :: rest)) (hrest : ∀ q ∈ rest, q.1 ≠ dr) (hne : r ≠ dr)
  (T : Top p loose mean mg mb h₀) (hf : env.frame = some L) (hke : env.scope.kind = .function) (tb : TB w.params h₀ lt l) (h0 : 0 ≤ q) (h2 : q < 9000)
  (hA : SegA l q low high qA) (hB : SegB l qA dep qB) (hG : Grps l qB gs qC) (hks : gs.flatten.length < 100) (hD : SegD l qC ix qD) (hh : ¬ high < low) (hh0 : high ≠ 0) (heq : dep = none → high = low)
  (a0 : 0 ≤ qA) (a2 : qA < 9100) (b0 : 0 ≤ qB) (b2 : qB < 9100) (c0 : 0 ≤ qC) (c2 : qC < 9200) (d0 : 0 ≤ qD) (d2 : qD < 9200)
  (ret : ∀ x v h' tk' tk2 nw, Fr h₀ L h' m → News h₀ L h' ((r, instObj 371 dr) :: (dr, rdO w.params t1 t2 t3 lt qD tk2 nd) :: nw) → (∀ y ∈ rest, y ∈ nw) → DepV nw v dep → OccIn w.params nw x low high v gs.flatten ix → Q (.ref x) { s with heap := h', toks := tk' }) :
  wpAny (model PG w) (ctx D U env outer gd) (call (.ref 92) [.ref r]) Q E s := by
  refine ctx_mono hDD hU ?_
  refine wpAny_call ?_
  (refine' code_defC ?k1 ?k2 ?k3 ?k4 ?k5 ?kA ?kF ?kK ?k6 ?k7 ?k8 ?k9 ?kB ?kD ?_ ?c2 ?c3 ?c4; (case kA => exact rfl); (case kF => first | exact rfl | assumption); (case kK => first | exact rfl | assumption); (case k1 => k_asm); (case k2 => k_asm); (case k3 => k_asm); (case k4 => k_asm); (case k5 => k_asm); (case k6 => k_is); (case k7 => k_is); (case k8 => k_room); (case k9 => first | exact BindsTo.of_eq rfl | exact binds_K (by k_in) rfl (by k_is) rfl rfl rfl); (case kB => exact rfl); (case kD => decide +kernel); (case c2 => exact rfl); (case c3 => exact rfl); (case c4 => exact rfl); k_whole)
  intro g' L' h' tk' cells' FG' F' N' Y' B' X' T' l1
  have l2 := l1 _ (.head _)
  have l3 := l1 _ (.tail _ (.head _))
  have l4 : ∀ q ∈ rest, q.1 < L' := fun q hq => l1 _ (.tail _ (.tail _ hq))
  have TB' := TB.keeps tb (Fr.keep FG')
  k_cells Y'
  refine roBody (by passes_own) B' F' X' N' (fun q hq => ⟨hrest q hq, Nat.ne_of_lt (Nat.lt_succ_of_lt (l4 q hq))⟩) (by first | assumption | rfl | (subst_vars; rfl)) hne l3 T' TB' h0 l2 h2 rfl hA hB hG hks hD hh hh0 heq a0 a2 b0 b2 c0 c2 d0 d2 ?_
  intro x v m' h1 tk1 tk2 nw F1 N1 hs1 hdp hoc
  exact leaveK_ F1 N1 fun F2 N2 => ret x v h1 tk1 tk2 nw F2 N2 hs1 hdp hoc
end


theorem truthy_ne {prog : Program} {w : World} {A : Around} {E : Value → Shared → Prop} {s : Shared} {l : Addr} {items : Array Value} {Q : Bool → Shared → Prop} (hl : s.heap.IsList l items) (h0 : 0 < items.size) (hfit : items.size < 1000000) (h : ∀ tk, Q true { s with toks := tk }) :
    wpAny (model prog w) A (truthy (.ref l)) Q E s := by
  refine wpAny_truthy_list hl (by omega) ?_
  have : items.isEmpty = false := decide_eq_false (by omega)
  rw [this]
  exact h _
theorem ne_all {l : List (Addr × Obj)} {d : Addr} (h : ∀ p ∈ l, p.1 < d) : ∀ p ∈ l, p.1 ≠ d := fun p hp => Nat.ne_of_lt (h p hp)
theorem ne_all2 {l : List (Addr × Obj)} {d x : Addr} (h : ∀ p ∈ l, p.1 < d) (k : d < x) : ∀ p ∈ l, p.1 ≠ x := fun p hp => Nat.ne_of_lt (Nat.lt_trans (h p hp) k)
theorem ne_all3 {l : List (Addr × Obj)} {a b c : Addr × Obj} {d : Addr} (h : ∀ p ∈ a :: b :: c :: l, p.1 < d) : ∀ p ∈ l, p.1 ≠ d := fun p hp => Nat.ne_of_lt (h p (.tail _ (.tail _ (.tail _ hp))))
theorem x143 (P : Params) : xIn (kdef.heap_1 P) 143 "Exception.__new__" := by
  refine ⟨_, _, _, _, _, _, _, _, _, _, _, _, _, _, _, _, by k_is, ?_, ?_, ?_, ?_⟩ <;> decide
theorem over143 (P : Params) : ((clsIn (kdef.heap_1 P) 143).any fun cd => excOver cd.mro) = true := by kernel_rfl
theorem dict143 (P : Params) : ((clsIn (kdef.heap_1 P) 143).any (·.hasDict)) = true := by kernel_rfl
theorem meta_Exception : typeOf (.type "Exception") = pure (.type "type") := by kernel_rfl
theorem init143 (P : Params) : findCls (kdef.heap_1 P) (.type "Exception") (.type "type") "__init__" = some (.val (.builtin "Exception.__init__")) := by kernel_rfl
theorem min_le {prog : Program} {w : World} {A : Around} {E : Value → Shared → Prop} {s : Shared} {h₀ : Heap} {L : Addr} {m : Str → Option Value} {news : List (Addr × Obj)} {a b : Int} {t u : Tok} {Q : Value → Shared → Prop} (hh : A.handled = none) (F : Fr h₀ L s.heap m) (N : News h₀ L s.heap news) (hle : a ≤ b)
    (h : ∀ h' tk, Fr h₀ L h' m → News h₀ L h' news → Q (.int a t) { s with heap := h', toks := tk }) :
    wpAny (model prog w) A (call (.builtin "min") [.int a t, .int b u]) Q E s := by
  refine min_two_N hh F N fun h' tk F' N' => ?_
  rw [if_neg (by omega), if_neg (by omega)]
  exact h h' tk F' N'

noncomputable abbrev excD (P : Params) (a1 a2 : Tok) (wh : Str) (kw : Tok) (pos : Addr) : Obj :=
  dictOf [⟨PyData.keyHash P (Str.ofString "what"), .str (Str.ofString "what") a1, .str wh kw⟩, ⟨PyData.keyHash P (Str.ofString "at"), .str (Str.ofString "at") a2, .ref pos⟩] 2
theorem fault_end {h₀ h : Heap} {L : Addr} {D t e t0 : Addr} {od ot oe o0 : Obj} {news : List (Addr × Obj)} (N : News h₀ L h ((D, od) :: (t, ot) :: (e, oe) :: (t0, o0) :: news)) (n2 : ∀ p ∈ news, p.1 ≠ e) (l : D ≠ e) :
    News h₀ L h ((e, oe) :: (D, od) :: news) ∧ ∀ p ∈ (D, od) :: news, p.1 ≠ e := by
  refine ⟨fun x hx => N x ?_, fun p hp => ?_⟩
  · simp only [List.mem_cons] at hx ⊢
    rcases hx with q | q | q <;> simp [q]
  · rcases List.mem_cons.mp hp with q | hp
    · rw [q]; exact l
    · exact n2 p hp

section
variable {w : World} {p : Program} {loose : List Str} {mean : ExcName → Option Value} {mg mb : Str → Option Value}
  {env : Env} {outer : List Env} {gd : Option (List Code)} {A₀ : Around} {base h₀ : Heap} {L : Addr} {m : Str → Option Value} {news : List (Addr × Obj)} {g : Obj → List (Addr × Obj)} {s : Shared} {Q E : Value → Shared → Prop}
  {D U : Nat} {r dr lt nd : Addr} {t1 t2 t3 tk ka : Tok} {q k : Int} {n : Nat} {l : List Tk}
local macro_rules | `(tactic| walk_at "getMethod type:Exception") => `(tactic| (goal_lacks GoM; refine stp ?_))
local macro_rules | `(tactic| walk_at "call builtin:Exception.__init__") => `(tactic| (goal_lacks GoM; refine stp ?_))
local macro_rules | `(tactic| walk_at "setAttr ref") => `(tactic| (goal_lacks GoM; refine stp ?_))
local macro_rules | `(tactic| walk_at "truthy ref") => `(tactic| (goal_lacks GoM; refine stp ?_))
local macro_rules | `(tactic| walk_at "call builtin:min") => `(tactic| (goal_lacks GoM; refine stp ?_))

theorem fault_c {k' : Tk} {wh : Str} {kw : Tok} (hDD : D ≤ 940) (hU : U ≤ 4700)
  (B : Below A₀ base outer h₀) (F : Fr h₀ L s.heap m) (X : (kdef.heap_1 w.params).In h₀) (N : News h₀ L s.heap news) (hr : (r, instObj 371 dr) ∈ news) (hd : (dr, rdO w.params t1 t2 t3 lt q tk nd) ∈ news) 
  (T : Top p loose mean mg mb h₀) (hf : env.frame = some L) (hke : env.scope.kind = .function) (tb : TB w.params h₀ lt l) (h0 : 0 ≤ q) (h2 : q < 10000) (ho : tokAt l (q + 0) = some k')
  (ret : ∀ e d t a1 a2 h' tk', Fr h₀ L h' m → News h₀ L h' ((e, excObjD 143 t (some d)) :: (d, excD w.params a1 a2 wh kw k'.pos) :: news) → (∀ p ∈ (d, excD w.params a1 a2 wh kw k'.pos) :: news, p.1 ≠ e) → Q (.ref e) { s with heap := h', toks := tk' }) :
  wpAny (model PG w) (ctx D U env outer gd) (call (.ref 239) [.ref r, .str wh kw]) Q E s := by
  refine ctx_mono hDD hU ?_
  have hsh := tb.short
  have hm : k' ∈ l := List.mem_of_getElem? ho
  have hlt : q + 0 < (l.length : Int) := by have := (List.getElem?_eq_some_iff.mp ho).1; omega
  have hv : l[q.toNat]? = some k' := by rw [← ho]; unfold tokAt; rw [Int.add_zero]
  refine wpAny_call ?_
  k_dflt k_enter
  (repeat' (first | (with_reducible refine unstp ?_; first | ((k_here; k_dflt (refine' min_le ?hh ?F ?N ?hle ?_; (case hh => rfl); (case F => k_asm); (case N => k_asm); (case hle => omega); k_whole); intro h9z' tk9z' F9z' N9z')) | ((k_here; (with_reducible show wpAny _ _ (truthy (Value.ref _)) _ _ _); (with_unfolding_all refine' truthy_ne ?k1 ?k2 ?k3 ?_; (case k1 => is_list); (case k2 => (simp only [List.size_toArray, List.length_map]; omega)); (case k3 => (simp only [List.size_toArray, List.length_map]; omega)); k_whole); intro tk9z')) | ((k_here; k_dflt (refine' xset0 ?k1 ?k2 ?k3 ?k4 ?k5 ?k6 ?k7 ?k8 ?_; (case k1 => k_asm); (case k2 => k_asm); (case k3 => k_asm); (case k4 => k_updF); (case k5 => k_is); (case k6 => exact over143 _); (case k7 => k_is); (case k8 => exact dict143 _); k_whole); intro h9z' D9z' F9z' N9z' l19z; have n39z := ne_all3 l19z; (try dsimp only at N9z'); (try k_lt l19z))) | ((k_here; k_dflt (refine' xset1 ?k1 ?k2 ?k3 ?k4 ?k5 ?k6 ?k7 ?k8 ?k9 ?k10 ?k11 ?k12 ?_; (case k1 => k_asm); (case k2 => k_asm); (case k3 => k_asm); (case k4 => k_mem); (case k5 => k_updF); (case k6 => k_is); (case k7 => exact over143 _); (case k8 => k_is); (case k9 => exact dict143 _); (case k10 => k_get); (case k11 => k_put); (case k12 => exact Nat.le_of_ble_eq_true rfl); k_whole); intro h9z' F9z' N9z'; (try dsimp only at N9z'))) | ((k_here; k_dflt (refine' xinitK ?k1 ?k2 ?k3 ?k4 ?k5 ?_; (case k1 => k_asm); (case k2 => k_asm); (case k3 => k_asm); (case k4 => k_updF); (case k5 => exact x143 _); k_whole); intro h9z' t9z' F9z' N9z' l19z; (try dsimp only at N9z' l19z); (try k_lt l19z))) | ((k_here; refine' method_type (v := Value.builtin "Exception.__init__") ?F ?X ?m (by decide +kernel) ?e ?h ?_; (case F => k_asm); (case X => k_asm); (case m => exact meta_Exception); (case e => exact init143 _); (case h => k_handed))) | ((k_here; (with_reducible show wpAny _ _ (call (Value.ref 143) [_, _] []) _ _ _); k_dflt (refine' xcls ?k1 ?k2 ?k3 ?k4 ?k5 ?k6 ?k7 ?_; (case k1 => k_asm); (case k2 => k_asm); (case k3 => k_asm); (case k4 => exact x143 _); (case k5 => k_is); (case k6 => k_is); (case k7 => exact Nat.le_of_ble_eq_true rfl); k_whole); intro x9z' d9z' h9z' F9z' N9z' l19z l29z; have n19z := ne_all l19z; have n29z := ne_all2 l19z l29z; (try k_lt l19z); (try k_lt2 l29z); k_dflt k_enter)) | ((k_here; (with_reducible show wpAny _ _ (call (Value.builtin "len") [Value.ref _]) _ _ _); (with_unfolding_all refine' len_list ?k1 ?k2 ?_; (case k1 => is_list); (case k2 => first | (simp only [List.size_toArray, List.length_map]; omega) | decide); k_whole); (try simp only [List.size_toArray, List.length_map]))) | ((k_here; (with_reducible show wpAny _ _ (subscriptTail _ _ (Value.ref _) (Value.int _ _)) _ _ _); (with_unfolding_all refine' item_list (x := Value.ref _) ?k1 ?k2 ?k3 ?k4 ?_ ?k6 ?k7; (case k1 => is_list); (case k2 => omega); (case k3 => omega); (case k4 => (simp only [List.getElem?_toArray, List.getElem?_map, *]; rfl)); (case k6 => with_unfolding_all rfl); (case k7 => intro _; with_unfolding_all rfl); k_whole))) | (refine goM ?_; k_dflt walk1) | (k_dflt (dsimp only); refine stp ?_)) | (k_unfold; (first | with_reducible refine (?_ : wpAny _ _ _ _ _ _) | (try dsimp only))) | (k_end; wrow_close) | walk1 | (dsimp only; walk1) | (leave1; walk_say "STEP leave1"; try dsimp only) | fail "no step"))
  obtain ⟨z1, z2⟩ := fault_end (by assumption) (by assumption) (by k_ne)
  exact ret _ _ _ _ _ _ _ (by assumption) z1 z2
end


theorem raise_end {prog : Program} {w : World} {A : Around} {E : Value → Shared → Prop} {base g h : Heap} {outer : List Env} {L e d t : Addr} {m : Str → Option Value} {env' : Env} {news big : List (Addr × Obj)} {od : Obj} {s : Shared} {tk : Nat}
    (B : Below A base outer g) (F : Fr g L h m) (N : News g L h ((e, excObjD 143 t (some d)) :: (d, od) :: big)) (hne : ∀ p ∈ (d, od) :: big, p.1 ≠ e) (sub : ∀ x ∈ news, x ∈ big) (hf : env'.frame = some L) (hk : env'.scope.kind = .function)
    (hQ : ∀ h', Rz base g outer e d 143 ((d, od) :: news) h' → g.UpToSlots h' → E (.ref e) { s with heap := h', toks := tk }) :
    XP 143 g (fun v s' => wpAny (model prog w) (A.deeper env') (leaving env' v) (fun _ s'' => E v s'') E s') (.ref e) { s with heap := h, toks := tk } :=
  have sub' : ∀ x ∈ (e, excObjD 143 t (some d)) :: (d, od) :: news, x ∈ (e, excObjD 143 t (some d)) :: (d, od) :: big := fun x hx => by
    rcases List.mem_cons.mp hx with q | hx
    · rw [q]; exact .head _
    · rcases List.mem_cons.mp hx with q | hx
      · rw [q]; exact .tail _ (.head _)
      · exact .tail _ (.tail _ (sub x hx))
  ⟨e, t, some d, rfl, F.keep, (N _ (.head _)).1, rz_first (s' := { s with heap := h, toks := tk }) B F (fun x hx => N x (sub' x hx)) (fun p hp => hne p (by
    rcases List.mem_cons.mp hp with q | hp
    · rw [q]; exact .head _
    · exact .tail _ (sub p hp))) hf hk hQ⟩

section
variable {w : World} {p : Program} {loose : List Str} {mean : ExcName → Option Value} {mg mb : Str → Option Value}
  {env : Env} {outer : List Env} {gd : Option (List Code)} {A₀ : Around} {base h₀ : Heap} {L : Addr} {m : Str → Option Value} {news : List (Addr × Obj)} {g : Obj → List (Addr × Obj)} {s : Shared} {Q E : Value → Shared → Prop}
  {D U : Nat} {r dr lt nd : Addr} {t1 t2 t3 tk ka : Tok} {q k : Int} {n : Nat} {l : List Tk}
local macro_rules | `(tactic| walk_at "exec Raise some none") => `(tactic| (goal_lacks GoM; refine stp ?_))

theorem whole_k {k' : Tk} (hDD : D ≤ 880) (hU : U ≤ 4400)
  (B : Below A₀ base outer h₀) (F : Fr h₀ L s.heap m) (X : (kdef.heap_1 w.params).In h₀) (N : News h₀ L s.heap news) (hr : (r, instObj 371 dr) ∈ news) (hd : (dr, rdO w.params t1 t2 t3 lt q tk nd) ∈ news) 
  (T : Top p loose mean mg mb h₀) (hf : env.frame = some L) (hke : env.scope.kind = .function) (tb : TB w.params h₀ lt l) (h0 : 0 ≤ q) (h2 : q < 10000) (hk : isKind l (q + 0) "number" = false) (ho : tokAt l (q + 0) = some k')
  (err : ∀ G h' tk' e d a1 a2 wh kw, Fr h₀ L G m → Rz base G (env :: outer) e d 143 ((d, excD w.params a1 a2 wh kw k'.pos) :: news) h' → G.UpToSlots h' → E (.ref e) { s with heap := h', toks := tk' }) :
  wpAny (model PG w) (ctx D U env outer gd) (call (.ref 354) [.ref r]) Q E s := by
  refine ctx_mono hDD hU ?_
  have hm : k' ∈ l := List.mem_of_getElem? ho
  refine wpAny_call ?_
  k_dflt k_enter
  (repeat' (first | (with_reducible refine unstp ?_; first | ((k_here; k_dflt (refine' xraiseK (C := 143) ?X ?hm ?hh ?_; (case X => k_asm); (case hm => exact x143 _); (case hh => rfl); k_whole))) | ((k_here; k_dflt (refine' fault_c ?hD ?hU ?B ?F ?X ?N ?hr ?hd ?T ?hf ?hke ?tb ?h0 ?h2 ?ho ?_; (case hD => exact Nat.le_of_ble_eq_true rfl); (case hU => exact Nat.le_of_ble_eq_true rfl); (case B => k_asm); (case F => k_asm); (case X => k_asm); (case N => k_asm); (case hr => k_mem); (case hd => k_mem); (case T => k_asm); (case hf => rfl); (case hke => rfl); (case tb => assumption); (case h0 => omega); (case h2 => omega); (case ho => assumption); k_whole); intro e9z' d9z' t9z' a19z' a29z' h9z' tk9z' F9z' N9z' ne9z')) | ((k_here; k_dflt (refine' rd_15 ?hD ?hU ?B ?F ?X ?N ?T ?hf ?hke ?hx ?_; (case hD => exact Nat.le_of_ble_eq_true rfl); (case hU => exact Nat.le_of_ble_eq_true rfl); (case B => k_asm); (case F => k_asm); (case X => k_asm); (case N => k_asm); (case T => k_asm); (case hf => rfl); (case hke => rfl); (case hx => assumption); k_whole); intro D9z' u19z' u29z' h9z' tk9z' F9z' N9z' l19z; (try k_lt l19z))) | ((k_here; k_dflt (refine' is_kind0_c ?hD ?hU ?B ?F ?X ?N ?hr ?hd ?T ?hf ?hke ?tb ?h0 ?h2 ?hb ?_; (case hD => exact Nat.le_of_ble_eq_true rfl); (case hU => exact Nat.le_of_ble_eq_true rfl); (case B => k_asm); (case F => k_asm); (case X => k_asm); (case N => k_asm); (case hr => k_mem); (case hd => k_mem); (case T => k_asm); (case hf => rfl); (case hke => rfl); (case tb => assumption); (case h0 => omega); (case h2 => omega); (case hb => first | assumption | exact rfl); k_whole); intro h9z' tk9z' F9z' N9z'; (try dsimp only [tkv]))) | ((k_here; k_dflt (refine' peek0_c ?hD ?hU ?B ?F ?X ?N ?hr ?hd ?T ?hf ?hke ?tb ?h0 ?h2 ?ho ?_; (case hD => exact Nat.le_of_ble_eq_true rfl); (case hU => exact Nat.le_of_ble_eq_true rfl); (case B => k_asm); (case F => k_asm); (case X => k_asm); (case N => k_asm); (case hr => k_mem); (case hd => k_mem); (case T => k_asm); (case hf => rfl); (case hke => rfl); (case tb => assumption); (case h0 => omega); (case h2 => omega); (case ho => first | assumption | exact rfl); k_whole); intro h9z' tk9z' F9z' N9z'; (try dsimp only [tkv]))) | (refine goM ?_; k_dflt walk1) | (k_dflt (dsimp only); refine stp ?_)) | (k_unfold; (first | with_reducible refine (?_ : wpAny _ _ _ _ _ _) | (try dsimp only))) | (k_end; wrow_close) | walk1 | (dsimp only; walk1) | (leave1; walk_say "STEP leave1"; try dsimp only) | fail "no step"))
  all_goals first | exact raise_end (by k_asm) (by k_asm) (by k_asm) (by assumption) (fun _ h => by first | exact h | exact .tail _ h | exact .tail _ (.tail _ h) | exact .tail _ (.tail _ (.tail _ h))) rfl rfl (fun h' R U => err _ _ _ _ _ _ _ _ _ (by assumption) R U)

theorem whole_f {k' : Tk} (hDD : D ≤ 880) (hU : U ≤ 4400)
  (B : Below A₀ base outer h₀) (F : Fr h₀ L s.heap m) (X : (kdef.heap_1 w.params).In h₀) (N : News h₀ L s.heap news) (hr : (r, instObj 371 dr) ∈ news) (hd : (dr, rdO w.params t1 t2 t3 lt q tk nd) ∈ news) 
  (T : Top p loose mean mg mb h₀) (hf : env.frame = some L) (hke : env.scope.kind = .function) (tb : TB w.params h₀ lt l) (h0 : 0 ≤ q) (h2 : q < 10000) (hk : isKind l (q + 0) "number" = true) (hx : k'.x = Str.ofString "1.5") (ho : tokAt l (q + 0) = some k')
  (err : ∀ G h' tk' e d a1 a2 wh kw, Fr h₀ L G m → Rz base G (env :: outer) e d 143 ((d, excD w.params a1 a2 wh kw k'.pos) :: news) h' → G.UpToSlots h' → E (.ref e) { s with heap := h', toks := tk' }) :
  wpAny (model PG w) (ctx D U env outer gd) (call (.ref 354) [.ref r]) Q E s := by
  refine ctx_mono hDD hU ?_
  have hm : k' ∈ l := List.mem_of_getElem? ho
  refine wpAny_call ?_
  k_dflt k_enter
  (repeat' (first | (with_reducible refine unstp ?_; first | ((k_here; k_dflt (refine' xraiseK (C := 143) ?X ?hm ?hh ?_; (case X => k_asm); (case hm => exact x143 _); (case hh => rfl); k_whole))) | ((k_here; k_dflt (refine' fault_c ?hD ?hU ?B ?F ?X ?N ?hr ?hd ?T ?hf ?hke ?tb ?h0 ?h2 ?ho ?_; (case hD => exact Nat.le_of_ble_eq_true rfl); (case hU => exact Nat.le_of_ble_eq_true rfl); (case B => k_asm); (case F => k_asm); (case X => k_asm); (case N => k_asm); (case hr => k_mem); (case hd => k_mem); (case T => k_asm); (case hf => rfl); (case hke => rfl); (case tb => assumption); (case h0 => omega); (case h2 => omega); (case ho => assumption); k_whole); intro e9z' d9z' t9z' a19z' a29z' h9z' tk9z' F9z' N9z' ne9z')) | ((k_here; k_dflt (refine' rd_15 ?hD ?hU ?B ?F ?X ?N ?T ?hf ?hke ?hx ?_; (case hD => exact Nat.le_of_ble_eq_true rfl); (case hU => exact Nat.le_of_ble_eq_true rfl); (case B => k_asm); (case F => k_asm); (case X => k_asm); (case N => k_asm); (case T => k_asm); (case hf => rfl); (case hke => rfl); (case hx => assumption); k_whole); intro D9z' u19z' u29z' h9z' tk9z' F9z' N9z' l19z; (try k_lt l19z))) | ((k_here; k_dflt (refine' is_kind0_c ?hD ?hU ?B ?F ?X ?N ?hr ?hd ?T ?hf ?hke ?tb ?h0 ?h2 ?hb ?_; (case hD => exact Nat.le_of_ble_eq_true rfl); (case hU => exact Nat.le_of_ble_eq_true rfl); (case B => k_asm); (case F => k_asm); (case X => k_asm); (case N => k_asm); (case hr => k_mem); (case hd => k_mem); (case T => k_asm); (case hf => rfl); (case hke => rfl); (case tb => assumption); (case h0 => omega); (case h2 => omega); (case hb => first | assumption | exact rfl); k_whole); intro h9z' tk9z' F9z' N9z'; (try dsimp only [tkv]))) | ((k_here; k_dflt (refine' peek0_c ?hD ?hU ?B ?F ?X ?N ?hr ?hd ?T ?hf ?hke ?tb ?h0 ?h2 ?ho ?_; (case hD => exact Nat.le_of_ble_eq_true rfl); (case hU => exact Nat.le_of_ble_eq_true rfl); (case B => k_asm); (case F => k_asm); (case X => k_asm); (case N => k_asm); (case hr => k_mem); (case hd => k_mem); (case T => k_asm); (case hf => rfl); (case hke => rfl); (case tb => assumption); (case h0 => omega); (case h2 => omega); (case ho => first | assumption | exact rfl); k_whole); intro h9z' tk9z' F9z' N9z'; (try dsimp only [tkv]))) | (refine goM ?_; k_dflt walk1) | (k_dflt (dsimp only); refine stp ?_)) | (k_unfold; (first | with_reducible refine (?_ : wpAny _ _ _ _ _ _) | (try dsimp only))) | (k_end; wrow_close) | walk1 | (dsimp only; walk1) | (leave1; walk_say "STEP leave1"; try dsimp only) | fail "no step"))
  all_goals first | exact raise_end (by k_asm) (by k_asm) (by k_asm) (by assumption) (fun _ h => by first | exact h | exact .tail _ h | exact .tail _ (.tail _ h) | exact .tail _ (.tail _ (.tail _ h))) rfl rfl (fun h' R U => err _ _ _ _ _ _ _ _ _ (by assumption) R U)
end


theorem Rz.sub {base G h : Heap} {l : List Env} {e d C : Addr} {news news' : List (Addr × Obj)} (R : Rz base G l e d C news h) (hs : ∀ x ∈ news', x ∈ news) : Rz base G l e d C news' h := by
  obtain ⟨B, b1, b2, b3, b4⟩ := R
  exact ⟨B, b1, b2, fun q hq => b3 q (hs q hq), b4⟩

section
variable {w : World} {p : Program} {loose : List Str} {mean : ExcName → Option Value} {mg mb : Str → Option Value}
  {env : Env} {outer : List Env} {gd : Option (List Code)} {A₀ : Around} {base h₀ : Heap} {L : Addr} {m : Str → Option Value} {news : List (Addr × Obj)} {g : Obj → List (Addr × Obj)} {s : Shared} {Q E : Value → Shared → Prop}
  {D U : Nat} {r dr lt nd : Addr} {t1 t2 t3 tk ka : Tok} {q k : Int} {n : Nat} {l : List Tk}

theorem ro_enter {rest : List (Addr × Obj)} (hDD : D ≤ 860) (hU : U ≤ 4300) (B : Below A₀ base outer h₀) (F : Fr h₀ L s.heap m) (X : (kdef.heap_1 w.params).In h₀) (N : News h₀ L s.heap ((r, instObj 371 dr) :: (dr, rdO w.params t1 t2 t3 lt q tk nd) :: rest)) (T : Top p loose mean mg mb h₀) (hf : env.frame = some L) (hke : env.scope.kind = .function)
  (body : ∀ g L' h₁ tk' co m', (∀ b o, s.heap.get? b = some o → b ∉ ((r, instObj 371 dr) :: (dr, rdO w.params t1 t2 t3 lt q tk nd) :: rest).map (·.1) → g.get? b = some o) → Fr h₀ L g m → Fr g L' h₁ m' → co.data = .cell none → News g L' h₁ ((L' + 1, co) :: ((r, instObj 371 dr) :: (dr, rdO w.params t1 t2 t3 lt q tk nd) :: rest)) → Below (ctx 860 4300 env outer gd) base (env :: outer) g →
    (kdef.heap_1 w.params).In g → Top p loose mean mg mb g → (∀ p ∈ ((r, instObj 371 dr) :: (dr, rdO w.params t1 t2 t3 lt q tk nd) :: rest), p.1 < L') → m' (Str.ofString "reader") = some (.ref r) →
    wpAny (model PG w) (ctx 861 4303 (roEnv L') (env :: outer) gd) (execs roPack.1.1 (roEnv L')) (fun fl s' => LeaveK h₀ L m g (fun r s' => match r with | .ok (.ret v) => Q v s' | .ok _ => False | .error e => E e s') (match fl with | .ret v => v | _ => .none) s')
      (fun e s' => wpAny (model PG w) ((ctx 860 4300 env outer gd).deeper (roEnv L')) (leaving (roEnv L') e) (fun _ s'' => E e s'') (fun e' s'' => E e' s'') s') { s with heap := h₁, toks := tk' }) :
  wpAny (model PG w) (ctx D U env outer gd) (call (.ref 92) [.ref r]) Q E s := by
  refine ctx_mono hDD hU ?_
  refine wpAny_call ?_
  (refine' enterT ?k1 ?k2 ?k3 ?k4 ?k5 ?kA ?kF ?kK ?k6 ?k7 ?k8 ?k9 ?kB ?kD ?_ ?c2 ?c3 ?c4; (case kA => exact rfl); (case kF => first | exact rfl | assumption); (case kK => first | exact rfl | assumption); (case k1 => k_asm); (case k2 => k_asm); (case k3 => k_asm); (case k4 => k_asm); (case k5 => k_asm); (case k6 => k_is); (case k7 => k_is); (case k8 => k_room); (case k9 => first | exact BindsTo.of_eq rfl | exact binds_K (by k_in) rfl (by k_is) rfl rfl rfl); (case kB => exact rfl); (case kD => decide +kernel); (case c2 => exact rfl); (case c3 => exact rfl); (case c4 => exact rfl); k_whole)
  intro g' L' h' tk' cells' HK' FG' F' N' Y' B' X' T' l1
  k_cells Y'
  exact body g' L' h' _ _ _ HK' FG' F' (by first | assumption | rfl | (subst_vars; rfl)) N' B' X' T' l1 rfl
end

theorem sub_f1 {x a b c : Addr × Obj} {rest : List (Addr × Obj)} : ∀ y ∈ x :: rest, y ∈ x :: a :: b :: c :: rest := fun y hy => by
  rcases List.mem_cons.mp hy with q | hy
  · rw [q]; exact .head _
  · exact .tail _ (.tail _ (.tail _ (.tail _ hy)))
theorem sub_f2 {x z a b c : Addr × Obj} {rest : List (Addr × Obj)} : ∀ y ∈ x :: rest, y ∈ x :: z :: a :: b :: c :: rest := fun y hy => by
  rcases List.mem_cons.mp hy with q | hy
  · rw [q]; exact .head _
  · exact .tail _ (.tail _ (.tail _ (.tail _ (.tail _ hy))))
theorem sub_f3 {x z1 z2 a b c : Addr × Obj} {rest : List (Addr × Obj)} : ∀ y ∈ x :: rest, y ∈ x :: z1 :: z2 :: a :: b :: c :: rest := fun y hy => by
  rcases List.mem_cons.mp hy with q | hy
  · rw [q]; exact .head _
  · exact .tail _ (.tail _ (.tail _ (.tail _ (.tail _ (.tail _ hy)))))

section
variable {w : World} {p : Program} {loose : List Str} {mean : ExcName → Option Value} {mg mb : Str → Option Value}
  {env : Env} {outer : List Env} {gd : Option (List Code)} {A₀ : Around} {base h₀ : Heap} {L : Addr} {m : Str → Option Value} {news : List (Addr × Obj)} {g : Obj → List (Addr × Obj)} {s : Shared} {Q E : Value → Shared → Prop}
  {D U : Nat} {r dr lt nd : Addr} {t1 t2 t3 tk ka : Tok} {q k : Int} {n : Nat} {l : List Tk}

theorem roF1 {Q : Flow → Shared → Prop} {co : Obj} {rest : List (Addr × Obj)} {k' : Tk} (B : Below A₀ base outer h₀) (F : Fr h₀ L s.heap m) (X : (kdef.heap_1 w.params).In h₀) (N : News h₀ L s.heap ((L + 1, co) :: (r, instObj 371 dr) :: (dr, rdO w.params t1 t2 t3 lt q tk nd) :: rest)) (hrest : ∀ q ∈ rest, q.1 ≠ dr) (hne : r ≠ dr) (hL : dr < L)
  (T : Top p loose mean mg mb h₀) (tb : TB w.params h₀ lt l) (h0 : 0 ≤ q) (h2 : q < 9000) (hm : m (Str.ofString "reader") = some (.ref r))
  (ho : tokAt l (q + 0) = some k') (hk : isKind l (q + 0) "number" = false ∨ (isKind l (q + 0) "number" = true ∧ k'.x = Str.ofString "1.5"))
  (err : ∀ G h' tk' e d a1 a2 wh kw, (∃ m', Fr h₀ L G m') → Rz base G ((roEnv L) :: outer) e d 143 ((d, excD w.params a1 a2 wh kw k'.pos) :: rest) h' → G.UpToSlots h' → E (.ref e) { s with heap := h', toks := tk' }) :
  wpAny (model PG w) (ctx 861 4303 (roEnv L) outer gd) (execs roPack.1.1 (roEnv L)) Q E s := by
  have hne1 := neN hne
  have hL1 := ltN hL
  simp only [roPack, roEnv]
  rcases hk with hk | ⟨hk, hx⟩
  · (repeat' (first | (with_reducible refine unstp ?_; first | ((k_here; k_dflt (refine' whole_k ?hD ?hU ?B ?F ?X ?N ?hr ?hd ?T ?hf ?hke ?tb ?h0 ?h2 ?hk ?ho ?_; (case hD => exact Nat.le_of_ble_eq_true rfl); (case hU => exact Nat.le_of_ble_eq_true rfl); (case B => k_asm); (case F => k_asm); (case X => k_asm); (case N => k_asm); (case hr => k_mem); (case hd => k_mem); (case T => k_asm); (case hf => rfl); (case hke => rfl); (case tb => assumption); (case h0 => omega); (case h2 => omega); (case hk => assumption); (case ho => assumption); k_whole); intro G9z' h9z' tk9z' e9z' d9z' a19z' a29z' wh9z' kw9z' FG9z' R9z' U9z')) | ((k_here; k_dflt (refine' whole_f ?hD ?hU ?B ?F ?X ?N ?hr ?hd ?T ?hf ?hke ?tb ?h0 ?h2 ?hk ?hx ?ho ?_; (case hD => exact Nat.le_of_ble_eq_true rfl); (case hU => exact Nat.le_of_ble_eq_true rfl); (case B => k_asm); (case F => k_asm); (case X => k_asm); (case N => k_asm); (case hr => k_mem); (case hd => k_mem); (case T => k_asm); (case hf => rfl); (case hke => rfl); (case tb => assumption); (case h0 => omega); (case h2 => omega); (case hk => assumption); (case hx => assumption); (case ho => assumption); k_whole); intro G9z' h9z' tk9z' e9z' d9z' a19z' a29z' wh9z' kw9z' FG9z' R9z' U9z')) | ((k_here; k_dflt (refine' whole_c ?hD ?hU ?B ?F ?X ?N ?hr ?hu ?T ?hf ?hke ?tb ?h0 ?h2 ?hk ?ho ?hx ?_; (case hD => exact Nat.le_of_ble_eq_true rfl); (case hU => exact Nat.le_of_ble_eq_true rfl); (case B => k_asm); (case F => k_asm); (case X => k_asm); (case N => k_asm); (case hr => k_mem); (case hu => k_updF); (case T => k_asm); (case hf => rfl); (case hke => rfl); (case tb => assumption); (case h0 => omega); (case h2 => omega); (case hk => assumption); (case ho => assumption); (case hx => assumption); k_whole); intro h9z' tk9z' tk29z' tk39z' F9z' N9z'; (try dsimp only at N9z'))) | ((k_here; k_dflt (refine' skip_t ?hD ?hU ?B ?F ?X ?N ?hr ?hu ?T ?hf ?hke ?tb ?h0 ?h2 ?hsp ?hz ?hb ?_; (case hD => exact Nat.le_of_ble_eq_true rfl); (case hU => exact Nat.le_of_ble_eq_true rfl); (case B => k_asm); (case F => k_asm); (case X => k_asm); (case N => k_asm); (case hr => k_mem); (case hu => k_updF); (case T => k_asm); (case hf => rfl); (case hke => rfl); (case tb => assumption); (case h0 => omega); (case h2 => omega); (case hsp => first | assumption | decide +kernel); (case hz => first | assumption | decide +kernel); (case hb => assumption); k_whole); intro h9z' tk9z' tk29z' F9z' N9z'; (try dsimp only at N9z'))) | (refine goM ?_; k_dflt walk1) | (k_dflt (dsimp only); refine stp ?_)) | (k_unfold; (first | with_reducible refine (?_ : wpAny _ _ _ _ _ _) | (try dsimp only))) | (k_end; wrow_close) | walk1 | (dsimp only; walk1) | (leave1; walk_say "STEP leave1"; try dsimp only) | fail "no step"))
    all_goals first | exact err _ _ _ _ _ _ _ _ _ ⟨_, by assumption⟩ (Rz.sub (by assumption) (by first | exact sub_f1 | exact sub_f2 | exact sub_f3)) (by assumption)
  · (repeat' (first | (with_reducible refine unstp ?_; first | ((k_here; k_dflt (refine' whole_k ?hD ?hU ?B ?F ?X ?N ?hr ?hd ?T ?hf ?hke ?tb ?h0 ?h2 ?hk ?ho ?_; (case hD => exact Nat.le_of_ble_eq_true rfl); (case hU => exact Nat.le_of_ble_eq_true rfl); (case B => k_asm); (case F => k_asm); (case X => k_asm); (case N => k_asm); (case hr => k_mem); (case hd => k_mem); (case T => k_asm); (case hf => rfl); (case hke => rfl); (case tb => assumption); (case h0 => omega); (case h2 => omega); (case hk => assumption); (case ho => assumption); k_whole); intro G9z' h9z' tk9z' e9z' d9z' a19z' a29z' wh9z' kw9z' FG9z' R9z' U9z')) | ((k_here; k_dflt (refine' whole_f ?hD ?hU ?B ?F ?X ?N ?hr ?hd ?T ?hf ?hke ?tb ?h0 ?h2 ?hk ?hx ?ho ?_; (case hD => exact Nat.le_of_ble_eq_true rfl); (case hU => exact Nat.le_of_ble_eq_true rfl); (case B => k_asm); (case F => k_asm); (case X => k_asm); (case N => k_asm); (case hr => k_mem); (case hd => k_mem); (case T => k_asm); (case hf => rfl); (case hke => rfl); (case tb => assumption); (case h0 => omega); (case h2 => omega); (case hk => assumption); (case hx => assumption); (case ho => assumption); k_whole); intro G9z' h9z' tk9z' e9z' d9z' a19z' a29z' wh9z' kw9z' FG9z' R9z' U9z')) | ((k_here; k_dflt (refine' whole_c ?hD ?hU ?B ?F ?X ?N ?hr ?hu ?T ?hf ?hke ?tb ?h0 ?h2 ?hk ?ho ?hx ?_; (case hD => exact Nat.le_of_ble_eq_true rfl); (case hU => exact Nat.le_of_ble_eq_true rfl); (case B => k_asm); (case F => k_asm); (case X => k_asm); (case N => k_asm); (case hr => k_mem); (case hu => k_updF); (case T => k_asm); (case hf => rfl); (case hke => rfl); (case tb => assumption); (case h0 => omega); (case h2 => omega); (case hk => assumption); (case ho => assumption); (case hx => assumption); k_whole); intro h9z' tk9z' tk29z' tk39z' F9z' N9z'; (try dsimp only at N9z'))) | ((k_here; k_dflt (refine' skip_t ?hD ?hU ?B ?F ?X ?N ?hr ?hu ?T ?hf ?hke ?tb ?h0 ?h2 ?hsp ?hz ?hb ?_; (case hD => exact Nat.le_of_ble_eq_true rfl); (case hU => exact Nat.le_of_ble_eq_true rfl); (case B => k_asm); (case F => k_asm); (case X => k_asm); (case N => k_asm); (case hr => k_mem); (case hu => k_updF); (case T => k_asm); (case hf => rfl); (case hke => rfl); (case tb => assumption); (case h0 => omega); (case h2 => omega); (case hsp => first | assumption | decide +kernel); (case hz => first | assumption | decide +kernel); (case hb => assumption); k_whole); intro h9z' tk9z' tk29z' F9z' N9z'; (try dsimp only at N9z'))) | (refine goM ?_; k_dflt walk1) | (k_dflt (dsimp only); refine stp ?_)) | (k_unfold; (first | with_reducible refine (?_ : wpAny _ _ _ _ _ _) | (try dsimp only))) | (k_end; wrow_close) | walk1 | (dsimp only; walk1) | (leave1; walk_say "STEP leave1"; try dsimp only) | fail "no step"))
    all_goals first | exact err _ _ _ _ _ _ _ _ _ ⟨_, by assumption⟩ (Rz.sub (by assumption) (by first | exact sub_f1 | exact sub_f2 | exact sub_f3)) (by assumption)


theorem roF2 {Q : Flow → Shared → Prop} {co : Obj} {rest : List (Addr × Obj)} {k' : Tk} (B : Below A₀ base outer h₀) (F : Fr h₀ L s.heap m) (X : (kdef.heap_1 w.params).In h₀) (N : News h₀ L s.heap ((L + 1, co) :: (r, instObj 371 dr) :: (dr, rdO w.params t1 t2 t3 lt q tk nd) :: rest)) (hrest : ∀ q ∈ rest, q.1 ≠ dr) (hne : r ≠ dr) (hL : dr < L)
  (T : Top p loose mean mg mb h₀) (tb : TB w.params h₀ lt l) (h0 : 0 ≤ q) (h2 : q < 9000) (hm : m (Str.ofString "reader") = some (.ref r))
  {low : Int} (hA : NumAt l q low) (hto : isWord l (q + 1 + 0) "TO" = true) (ho : tokAt l (q + 1 + 1 + 0) = some k') (hk : isKind l (q + 1 + 1 + 0) "number" = false)
  (err : ∀ G h' tk' e d a1 a2 wh kw, (∃ m', Fr h₀ L G m') → Rz base G ((roEnv L) :: outer) e d 143 ((d, excD w.params a1 a2 wh kw k'.pos) :: rest) h' → G.UpToSlots h' → E (.ref e) { s with heap := h', toks := tk' }) :
  wpAny (model PG w) (ctx 861 4303 (roEnv L) outer gd) (execs roPack.1.1 (roEnv L)) Q E s := by
  have hne1 := neN hne
  have hL1 := ltN hL
  simp only [roPack, roEnv]
  obtain ⟨hkn, t, hon, hxn⟩ := hA
  (repeat' (first | (with_reducible refine unstp ?_; first | ((k_here; k_dflt (refine' whole_k ?hD ?hU ?B ?F ?X ?N ?hr ?hd ?T ?hf ?hke ?tb ?h0 ?h2 ?hk ?ho ?_; (case hD => exact Nat.le_of_ble_eq_true rfl); (case hU => exact Nat.le_of_ble_eq_true rfl); (case B => k_asm); (case F => k_asm); (case X => k_asm); (case N => k_asm); (case hr => k_mem); (case hd => k_mem); (case T => k_asm); (case hf => rfl); (case hke => rfl); (case tb => assumption); (case h0 => omega); (case h2 => omega); (case hk => assumption); (case ho => assumption); k_whole); intro G9z' h9z' tk9z' e9z' d9z' a19z' a29z' wh9z' kw9z' FG9z' R9z' U9z')) | ((k_here; k_dflt (refine' whole_f ?hD ?hU ?B ?F ?X ?N ?hr ?hd ?T ?hf ?hke ?tb ?h0 ?h2 ?hk ?hx ?ho ?_; (case hD => exact Nat.le_of_ble_eq_true rfl); (case hU => exact Nat.le_of_ble_eq_true rfl); (case B => k_asm); (case F => k_asm); (case X => k_asm); (case N => k_asm); (case hr => k_mem); (case hd => k_mem); (case T => k_asm); (case hf => rfl); (case hke => rfl); (case tb => assumption); (case h0 => omega); (case h2 => omega); (case hk => assumption); (case hx => assumption); (case ho => assumption); k_whole); intro G9z' h9z' tk9z' e9z' d9z' a19z' a29z' wh9z' kw9z' FG9z' R9z' U9z')) | ((k_here; k_dflt (refine' whole_c ?hD ?hU ?B ?F ?X ?N ?hr ?hu ?T ?hf ?hke ?tb ?h0 ?h2 ?hk ?ho ?hx ?_; (case hD => exact Nat.le_of_ble_eq_true rfl); (case hU => exact Nat.le_of_ble_eq_true rfl); (case B => k_asm); (case F => k_asm); (case X => k_asm); (case N => k_asm); (case hr => k_mem); (case hu => k_updF); (case T => k_asm); (case hf => rfl); (case hke => rfl); (case tb => assumption); (case h0 => omega); (case h2 => omega); (case hk => assumption); (case ho => assumption); (case hx => assumption); k_whole); intro h9z' tk9z' tk29z' tk39z' F9z' N9z'; (try dsimp only at N9z'))) | ((k_here; k_dflt (refine' skip_t ?hD ?hU ?B ?F ?X ?N ?hr ?hu ?T ?hf ?hke ?tb ?h0 ?h2 ?hsp ?hz ?hb ?_; (case hD => exact Nat.le_of_ble_eq_true rfl); (case hU => exact Nat.le_of_ble_eq_true rfl); (case B => k_asm); (case F => k_asm); (case X => k_asm); (case N => k_asm); (case hr => k_mem); (case hu => k_updF); (case T => k_asm); (case hf => rfl); (case hke => rfl); (case tb => assumption); (case h0 => omega); (case h2 => omega); (case hsp => first | assumption | decide +kernel); (case hz => first | assumption | decide +kernel); (case hb => assumption); k_whole); intro h9z' tk9z' tk29z' F9z' N9z'; (try dsimp only at N9z'))) | (refine goM ?_; k_dflt walk1) | (k_dflt (dsimp only); refine stp ?_)) | (k_unfold; (first | with_reducible refine (?_ : wpAny _ _ _ _ _ _) | (try dsimp only))) | (k_end; wrow_close) | walk1 | (dsimp only; walk1) | (leave1; walk_say "STEP leave1"; try dsimp only) | fail "no step"))
  all_goals first | exact err _ _ _ _ _ _ _ _ _ ⟨_, by assumption⟩ (Rz.sub (by assumption) (by first | exact sub_f1 | exact sub_f2 | exact sub_f3)) (by assumption)

end


theorem sub_g {a b c : Addr × Obj} {rest rest' : List (Addr × Obj)} (h : ∀ y ∈ rest, y ∈ rest') : ∀ y ∈ rest, y ∈ a :: b :: c :: rest' := fun y hy => .tail _ (.tail _ (.tail _ (h y hy)))
theorem xp_raw {h₀ h : Heap} {L e d t : Addr} {m : Str → Option Value} {od : Obj} {news big : List (Addr × Obj)} {s : Shared} {tk : Nat} {E : Value → Shared → Prop} (F : Fr h₀ L h m) (N : News h₀ L h ((e, excObjD 143 t (some d)) :: (d, od) :: big))
    (hne : ∀ p ∈ (d, od) :: big, p.1 ≠ e) (sub : ∀ x ∈ news, x ∈ big) (hE : News h₀ L h ((e, excObjD 143 t (some d)) :: (d, od) :: news) → (∀ p ∈ (d, od) :: news, p.1 ≠ e) → E (.ref e) { s with heap := h, toks := tk }) :
    XP 143 h₀ E (.ref e) { s with heap := h, toks := tk } := by
  refine ⟨e, t, some d, rfl, F.keep, (N _ (.head _)).1, hE (fun x hx => N x ?_) fun p hp => hne p ?_⟩
  · rcases List.mem_cons.mp hx with q | hx
    · rw [q]; exact .head _
    · rcases List.mem_cons.mp hx with q | hx
      · rw [q]; exact .tail _ (.head _)
      · exact .tail _ (.tail _ (sub x hx))
  · rcases List.mem_cons.mp hp with q | hp
    · rw [q]; exact .head _
    · exact .tail _ (sub p hp)

section
variable {w : World} {p : Program} {loose : List Str} {mean : ExcName → Option Value} {mg mb : Str → Option Value}
  {env : Env} {outer : List Env} {gd : Option (List Code)} {A₀ : Around} {base h₀ : Heap} {L : Addr} {m : Str → Option Value} {news : List (Addr × Obj)} {g : Obj → List (Addr × Obj)} {s : Shared} {Q E : Value → Shared → Prop}
  {D U : Nat} {r dr lt nd : Addr} {t1 t2 t3 tk ka : Tok} {q k : Int} {n : Nat} {l : List Tk}
local macro_rules | `(tactic| walk_at "exec Raise some none") => `(tactic| (goal_lacks GoM; refine stp ?_))
local macro_rules | `(tactic| walk_at "ite") => `(tactic| (k_here; k_dflt (first | refine ite_pos (by simp only [decide_eq_true_eq, beq_iff_eq, bne_iff_ne, ne_eq]; omega) ?_ | refine ite_neg (by simp only [decide_eq_true_eq, beq_iff_eq, bne_iff_ne, ne_eq]; omega) ?_)))

theorem roEf_none {Q : Flow → Shared → Prop} {rest : List (Addr × Obj)} {low high : Int} {v : Value} {ks : List (Bool × Str)} {ix : List Str} {s₀ : Shared} {k' : Tk} (B : Below A₀ base outer h₀) (X : (kdef.heap_1 w.params).In h₀)
  (hne : r ≠ dr) (hL : dr < L) (hr : r < L) (T : Top p loose mean mg mb h₀) (tb : TB w.params h₀ lt l) (h0 : 0 ≤ q) (h2 : q < 9200)
  (hs : StD w.params h₀ L r dr lt nd t1 t2 t3 rest low high v ks ix q s₀ s) (hv : v = .none) (hw : high < low ∨ high = 0 ∨ high ≠ low) (ho : tokAt l (q + 0) = some k')
  (err : ∀ h' m' tk' e d t a1 a2 wh kw, Fr h₀ L h' m' → News h₀ L h' ((e, excObjD 143 t (some d)) :: (d, excD w.params a1 a2 wh kw k'.pos) :: rest) → (∀ p ∈ (d, excD w.params a1 a2 wh kw k'.pos) :: rest, p.1 ≠ e) → E (.ref e) { s₀ with heap := h', toks := tk' }) :
  wpAny (model PG w) (ctx 861 4303 (roEnv L) outer gd) (execs (roPack.1.1.drop 8) (roEnv L)) Q E s := by
  obtain ⟨m, h, tk', tk2, u1, u2, Kl, Ix, ys, e, rest', rfl, F, N, hs1, hrest, ⟨hk2, hk3⟩, hK, hIx, hm, hm1, hm2, hm3, hm4, hm5⟩ := hs
  subst hv
  have hne1 := neN hne
  have hL1 := ltN hL
  have hr1 := ltN hr
  have hk12 := neN hk2
  have hk13 := neN hk3
  have hrest1 : ∀ q ∈ rest', q.1 ≠ dr := fun q hq => (hrest q hq).1
  simp only [roPack, List.take_succ_cons, List.take_zero, List.drop_succ_cons, List.drop_zero, roEnv]
  have hw' : high < low ∨ (¬ high < low ∧ high = 0) ∨ (¬ high < low ∧ high ≠ 0 ∧ high ≠ low) := by omega
  rcases hw' with hw | ⟨hw, hw0⟩ | ⟨hw, hw0, hw1⟩
  · (repeat' (first | (with_reducible refine unstp ?_; first | ((k_here; k_dflt (refine' xraiseK (C := 143) ?X ?hm ?hh ?_; (case X => k_asm); (case hm => exact x143 _); (case hh => rfl); k_whole))) | ((k_here; k_dflt (refine' fault_c ?hD ?hU ?B ?F ?X ?N ?hr ?hd ?T ?hf ?hke ?tb ?h0 ?h2 ?ho ?_; (case hD => exact Nat.le_of_ble_eq_true rfl); (case hU => exact Nat.le_of_ble_eq_true rfl); (case B => k_asm); (case F => k_asm); (case X => k_asm); (case N => k_asm); (case hr => k_mem); (case hd => k_mem); (case T => k_asm); (case hf => rfl); (case hke => rfl); (case tb => assumption); (case h0 => omega); (case h2 => omega); (case ho => assumption); k_whole); intro e9z' d9z' t9z' a19z' a29z' h9z' tk9z' F9z' N9z' ne9z')) | (refine goM ?_; k_dflt walk1) | (k_dflt (dsimp only); refine stp ?_)) | (k_unfold; (first | with_reducible refine (?_ : wpAny _ _ _ _ _ _) | (try dsimp only))) | (k_end; wrow_close) | walk1 | (dsimp only; walk1) | (leave1; walk_say "STEP leave1"; try dsimp only) | fail "no step"))
    all_goals first | exact xp_raw (by assumption) (by assumption) (by assumption) (sub_g hs1) (fun N ne => err _ _ _ _ _ _ _ _ _ _ (by assumption) N ne)
  · (repeat' (first | (with_reducible refine unstp ?_; first | ((k_here; k_dflt (refine' xraiseK (C := 143) ?X ?hm ?hh ?_; (case X => k_asm); (case hm => exact x143 _); (case hh => rfl); k_whole))) | ((k_here; k_dflt (refine' fault_c ?hD ?hU ?B ?F ?X ?N ?hr ?hd ?T ?hf ?hke ?tb ?h0 ?h2 ?ho ?_; (case hD => exact Nat.le_of_ble_eq_true rfl); (case hU => exact Nat.le_of_ble_eq_true rfl); (case B => k_asm); (case F => k_asm); (case X => k_asm); (case N => k_asm); (case hr => k_mem); (case hd => k_mem); (case T => k_asm); (case hf => rfl); (case hke => rfl); (case tb => assumption); (case h0 => omega); (case h2 => omega); (case ho => assumption); k_whole); intro e9z' d9z' t9z' a19z' a29z' h9z' tk9z' F9z' N9z' ne9z')) | (refine goM ?_; k_dflt walk1) | (k_dflt (dsimp only); refine stp ?_)) | (k_unfold; (first | with_reducible refine (?_ : wpAny _ _ _ _ _ _) | (try dsimp only))) | (k_end; wrow_close) | walk1 | (dsimp only; walk1) | (leave1; walk_say "STEP leave1"; try dsimp only) | fail "no step"))
    all_goals first | exact xp_raw (by assumption) (by assumption) (by assumption) (sub_g hs1) (fun N ne => err _ _ _ _ _ _ _ _ _ _ (by assumption) N ne)
  · (repeat' (first | (with_reducible refine unstp ?_; first | ((k_here; k_dflt (refine' xraiseK (C := 143) ?X ?hm ?hh ?_; (case X => k_asm); (case hm => exact x143 _); (case hh => rfl); k_whole))) | ((k_here; k_dflt (refine' fault_c ?hD ?hU ?B ?F ?X ?N ?hr ?hd ?T ?hf ?hke ?tb ?h0 ?h2 ?ho ?_; (case hD => exact Nat.le_of_ble_eq_true rfl); (case hU => exact Nat.le_of_ble_eq_true rfl); (case B => k_asm); (case F => k_asm); (case X => k_asm); (case N => k_asm); (case hr => k_mem); (case hd => k_mem); (case T => k_asm); (case hf => rfl); (case hke => rfl); (case tb => assumption); (case h0 => omega); (case h2 => omega); (case ho => assumption); k_whole); intro e9z' d9z' t9z' a19z' a29z' h9z' tk9z' F9z' N9z' ne9z')) | (refine goM ?_; k_dflt walk1) | (k_dflt (dsimp only); refine stp ?_)) | (k_unfold; (first | with_reducible refine (?_ : wpAny _ _ _ _ _ _) | (try dsimp only))) | (k_end; wrow_close) | walk1 | (dsimp only; walk1) | (leave1; walk_say "STEP leave1"; try dsimp only) | fail "no step"))
    all_goals first | exact xp_raw (by assumption) (by assumption) (by assumption) (sub_g hs1) (fun N ne => err _ _ _ _ _ _ _ _ _ _ (by assumption) N ne)
end

section
variable {w : World} {p : Program} {loose : List Str} {mean : ExcName → Option Value} {mg mb : Str → Option Value}
  {env : Env} {outer : List Env} {gd : Option (List Code)} {A₀ : Around} {base h₀ : Heap} {L : Addr} {m : Str → Option Value} {news : List (Addr × Obj)} {g : Obj → List (Addr × Obj)} {s : Shared} {Q E : Value → Shared → Prop}
  {D U : Nat} {r dr lt nd : Addr} {t1 t2 t3 tk ka : Tok} {q k : Int} {n : Nat} {l : List Tk}
local macro_rules | `(tactic| walk_at "exec Raise some none") => `(tactic| (goal_lacks GoM; refine stp ?_))
local macro_rules | `(tactic| walk_at "ite") => `(tactic| (k_here; k_dflt (first | refine ite_pos (by simp only [decide_eq_true_eq, beq_iff_eq, bne_iff_ne, ne_eq]; omega) ?_ | refine ite_neg (by simp only [decide_eq_true_eq, beq_iff_eq, bne_iff_ne, ne_eq]; omega) ?_)))

theorem roEf_some {Q : Flow → Shared → Prop} {rest : List (Addr × Obj)} {low high : Int} {v : Value} {ks : List (Bool × Str)} {ix : List Str} {s₀ : Shared} {k' : Tk} (B : Below A₀ base outer h₀) (X : (kdef.heap_1 w.params).In h₀)
  (hne : r ≠ dr) (hL : dr < L) (hr : r < L) (T : Top p loose mean mg mb h₀) (tb : TB w.params h₀ lt l) (h0 : 0 ≤ q) (h2 : q < 9200)
  (hs : StD w.params h₀ L r dr lt nd t1 t2 t3 rest low high v ks ix q s₀ s) {D1 : Addr} (hv : v = .ref D1) (hw : high < low ∨ high = 0) (ho : tokAt l (q + 0) = some k')
  (err : ∀ h' m' tk' e d t a1 a2 wh kw, Fr h₀ L h' m' → News h₀ L h' ((e, excObjD 143 t (some d)) :: (d, excD w.params a1 a2 wh kw k'.pos) :: rest) → (∀ p ∈ (d, excD w.params a1 a2 wh kw k'.pos) :: rest, p.1 ≠ e) → E (.ref e) { s₀ with heap := h', toks := tk' }) :
  wpAny (model PG w) (ctx 861 4303 (roEnv L) outer gd) (execs (roPack.1.1.drop 8) (roEnv L)) Q E s := by
  obtain ⟨m, h, tk', tk2, u1, u2, Kl, Ix, ys, e, rest', rfl, F, N, hs1, hrest, ⟨hk2, hk3⟩, hK, hIx, hm, hm1, hm2, hm3, hm4, hm5⟩ := hs
  subst hv
  have hne1 := neN hne
  have hL1 := ltN hL
  have hr1 := ltN hr
  have hk12 := neN hk2
  have hk13 := neN hk3
  have hrest1 : ∀ q ∈ rest', q.1 ≠ dr := fun q hq => (hrest q hq).1
  simp only [roPack, List.take_succ_cons, List.take_zero, List.drop_succ_cons, List.drop_zero, roEnv]
  have hw' : high < low ∨ (¬ high < low ∧ high = 0) := by omega
  rcases hw' with hw | ⟨hw, hw0⟩
  · (repeat' (first | (with_reducible refine unstp ?_; first | ((k_here; k_dflt (refine' xraiseK (C := 143) ?X ?hm ?hh ?_; (case X => k_asm); (case hm => exact x143 _); (case hh => rfl); k_whole))) | ((k_here; k_dflt (refine' fault_c ?hD ?hU ?B ?F ?X ?N ?hr ?hd ?T ?hf ?hke ?tb ?h0 ?h2 ?ho ?_; (case hD => exact Nat.le_of_ble_eq_true rfl); (case hU => exact Nat.le_of_ble_eq_true rfl); (case B => k_asm); (case F => k_asm); (case X => k_asm); (case N => k_asm); (case hr => k_mem); (case hd => k_mem); (case T => k_asm); (case hf => rfl); (case hke => rfl); (case tb => assumption); (case h0 => omega); (case h2 => omega); (case ho => assumption); k_whole); intro e9z' d9z' t9z' a19z' a29z' h9z' tk9z' F9z' N9z' ne9z')) | (refine goM ?_; k_dflt walk1) | (k_dflt (dsimp only); refine stp ?_)) | (k_unfold; (first | with_reducible refine (?_ : wpAny _ _ _ _ _ _) | (try dsimp only))) | (k_end; wrow_close) | walk1 | (dsimp only; walk1) | (leave1; walk_say "STEP leave1"; try dsimp only) | fail "no step"))
    all_goals first | exact xp_raw (by assumption) (by assumption) (by assumption) (sub_g hs1) (fun N ne => err _ _ _ _ _ _ _ _ _ _ (by assumption) N ne)
  · (repeat' (first | (with_reducible refine unstp ?_; first | ((k_here; k_dflt (refine' xraiseK (C := 143) ?X ?hm ?hh ?_; (case X => k_asm); (case hm => exact x143 _); (case hh => rfl); k_whole))) | ((k_here; k_dflt (refine' fault_c ?hD ?hU ?B ?F ?X ?N ?hr ?hd ?T ?hf ?hke ?tb ?h0 ?h2 ?ho ?_; (case hD => exact Nat.le_of_ble_eq_true rfl); (case hU => exact Nat.le_of_ble_eq_true rfl); (case B => k_asm); (case F => k_asm); (case X => k_asm); (case N => k_asm); (case hr => k_mem); (case hd => k_mem); (case T => k_asm); (case hf => rfl); (case hke => rfl); (case tb => assumption); (case h0 => omega); (case h2 => omega); (case ho => assumption); k_whole); intro e9z' d9z' t9z' a19z' a29z' h9z' tk9z' F9z' N9z' ne9z')) | (refine goM ?_; k_dflt walk1) | (k_dflt (dsimp only); refine stp ?_)) | (k_unfold; (first | with_reducible refine (?_ : wpAny _ _ _ _ _ _) | (try dsimp only))) | (k_end; wrow_close) | walk1 | (dsimp only; walk1) | (leave1; walk_say "STEP leave1"; try dsimp only) | fail "no step"))
    all_goals first | exact xp_raw (by assumption) (by assumption) (by assumption) (sub_g hs1) (fun N ne => err _ _ _ _ _ _ _ _ _ _ (by assumption) N ne)
end


section
variable {w : World} {p : Program} {loose : List Str} {mean : ExcName → Option Value} {mg mb : Str → Option Value}
  {env : Env} {outer : List Env} {gd : Option (List Code)} {A₀ : Around} {base h₀ : Heap} {L : Addr} {m : Str → Option Value} {news : List (Addr × Obj)} {g : Obj → List (Addr × Obj)} {s : Shared} {Q E : Value → Shared → Prop}
  {D U : Nat} {r dr lt nd : Addr} {t1 t2 t3 tk ka : Tok} {q k : Int} {n : Nat} {l : List Tk}

theorem roBodyE {Q : Flow → Shared → Prop} {co : Obj} {rest : List (Addr × Obj)} {low high qA qB qC qD : Int} {dep : Option (Str × List Str)} {gs : List (List (Bool × Str))} {ix : List Str} {k' : Tk} (hE : PassesOwn (model PG w) (ctx 861 4303 (roEnv L) outer gd) (roEnv L) E) (B : Below A₀ base outer h₀) (F : Fr h₀ L s.heap m) (X : (kdef.heap_1 w.params).In h₀) (N : News h₀ L s.heap ((L + 1, co) :: (r, instObj 371 dr) :: (dr, rdO w.params t1 t2 t3 lt q tk nd) :: rest)) (hrest : ∀ q ∈ rest, q.1 ≠ dr ∧ q.1 ≠ L + 1) (hco : co.data = .cell none) (hne : r ≠ dr) (hL : dr < L)
  (T : Top p loose mean mg mb h₀) (tb : TB w.params h₀ lt l) (h0 : 0 ≤ q) (hr : r < L) (h2 : q < 9000) (hm : m (Str.ofString "reader") = some (.ref r))
  (hA : SegA l q low high qA) (hB : SegB l qA dep qB) (hG : Grps l qB gs qC) (hks : gs.flatten.length < 100) (hD : SegD l qC ix qD) (hw : high < low ∨ high = 0 ∨ (dep = none ∧ high ≠ low)) (ho : tokAt l (qD + 0) = some k')
  (a0 : 0 ≤ qA) (a2 : qA < 9100) (b0 : 0 ≤ qB) (b2 : qB < 9100) (c0 : 0 ≤ qC) (c2 : qC < 9200) (d0 : 0 ≤ qD) (d2 : qD < 9200)
  (err : ∀ h' m' tk' e d t a1 a2 wh kw, Fr h₀ L h' m' → News h₀ L h' ((e, excObjD 143 t (some d)) :: (d, excD w.params a1 a2 wh kw k'.pos) :: rest) → (∀ p ∈ (d, excD w.params a1 a2 wh kw k'.pos) :: rest, p.1 ≠ e) → E (.ref e) { s with heap := h', toks := tk' }) :
  wpAny (model PG w) (ctx 861 4303 (roEnv L) outer gd) (execs roPack.1.1 (roEnv L)) Q E s := by
  have e : roPack.1.1 = (roPack.1.1.take 4) ++ ((roPack.1.1.drop 4).take 1 ++ ((roPack.1.1.drop 5).take 1 ++ ((roPack.1.1.drop 6).take 1 ++ ((roPack.1.1.drop 7).take 1 ++ roPack.1.1.drop 8)))) := rfl
  rw [e]
  refine execs_cut (roA B F X N (fun q hq => (hrest q hq).1) hne hL T tb h0 h2 hm hA) fun s1 hs1 => ?_
  obtain ⟨mA, gA, tkA, tk2A, u1, u2, rfl, FA, NA, hmA, hmA1, hmA2, hmA3⟩ := hs1
  refine execs_cut (roB B FA X NA hrest hco hne hL T tb a0 a2 hmA hmA1 hmA2 hmA3 hB) fun s2 hs2 => ?_
  obtain ⟨mB, gB, tkB, tk2B, v1, v2, v, rest', rfl, FB, NB, hsB, hrestB, hdep, hmB, hmB1, hmB2, hmB3⟩ := hs2
  refine execs_cut (roC_init B FB X NB hrestB hco hne hL T tb b0 b2 hmB hmB1 hmB2 hmB3) fun s3 hs3 => ?_
  refine execs_cut (roC hE B X hne hL hr T tb hs3 hG hks) fun s4 hs4 => ?_
  refine execs_cut (roD B X hne hL hr T tb c0 c2 hs4 hD) fun s5 hs5 => ?_
  have fin : ∀ h' m' tk' e d t a1 a2 wh kw, Fr h₀ L h' m' → News h₀ L h' ((e, excObjD 143 t (some d)) :: (d, excD w.params a1 a2 wh kw k'.pos) :: rest') → (∀ p ∈ (d, excD w.params a1 a2 wh kw k'.pos) :: rest', p.1 ≠ e) → E (.ref e) { { { s with heap := gA, toks := tkA } with heap := gB, toks := tkB } with heap := h', toks := tk' } := by
    intro h' m' tk' e d t a1 a2 wh kw F' N' ne'
    refine err h' m' tk' e d t a1 a2 wh kw F' (fun x hx => N' x ?_) (fun p hp => ne' p ?_)
    · rcases List.mem_cons.mp hx with q | hx
      · rw [q]; exact .head _
      · rcases List.mem_cons.mp hx with q | hx
        · rw [q]; exact .tail _ (.head _)
        · exact .tail _ (.tail _ (hsB x hx))
    · rcases List.mem_cons.mp hp with q | hp
      · rw [q]; exact .head _
      · exact .tail _ (hsB p hp)
  cases dep with
  | none => exact roEf_none B X hne hL hr T tb d0 d2 hs5 hdep (by rcases hw with h | h | h; exact .inl h; exact .inr (.inl h); exact .inr (.inr h.2)) ho fin
  | some d =>
    obtain ⟨D1, D2, D3, w1, w2, us, hu, e1, mm⟩ := hdep
    exact roEf_some B X hne hL hr T tb d0 d2 hs5 e1 (by rcases hw with h | h | h; exact .inl h; exact .inr h; cases h.1) ho fin
end

section
variable {w : World} {p : Program} {loose : List Str} {mean : ExcName → Option Value} {mg mb : Str → Option Value}
  {env : Env} {outer : List Env} {gd : Option (List Code)} {A₀ : Around} {base h₀ : Heap} {L : Addr} {m : Str → Option Value} {news : List (Addr × Obj)} {g : Obj → List (Addr × Obj)} {s : Shared} {Q E : Value → Shared → Prop}
  {D U : Nat} {r dr lt nd : Addr} {t1 t2 t3 tk ka : Tok} {q k : Int} {n : Nat} {l : List Tk}

theorem ro_ok {low high qA qB qC qD : Int} {dep : Option (Str × List Str)} {gs : List (List (Bool × Str))} {ix : List Str} {rest : List (Addr × Obj)} (hDD : D ≤ 860) (hU : U ≤ 4300) (B : Below A₀ base outer h₀) (F : Fr h₀ L s.heap m) (X : (kdef.heap_1 w.params).In h₀) (N : News h₀ L s.heap ((r, instObj 371 dr) :: (dr, rdO w.params t1 t2 t3 lt q tk nd) :: rest)) (T : Top p loose mean mg mb h₀) (hf : env.frame = some L) (hke : env.scope.kind = .function) (hrest : ∀ q ∈ rest, q.1 ≠ dr) (hne : r ≠ dr) (tbl : ∀ g, (∀ b o, s.heap.get? b = some o → b ∉ ((r, instObj 371 dr) :: (dr, rdO w.params t1 t2 t3 lt q tk nd) :: rest).map (·.1) → g.get? b = some o) → TB w.params g lt l) (h0 : 0 ≤ q) (h2 : q < 9000) (hA : SegA l q low high qA) (hB : SegB l qA dep qB) (hG : Grps l qB gs qC) (hks : gs.flatten.length < 100) (hD : SegD l qC ix qD) (hh : ¬ high < low) (hh0 : high ≠ 0) (heq : dep = none → high = low) (a0 : 0 ≤ qA) (a2 : qA < 9100) (b0 : 0 ≤ qB) (b2 : qB < 9100) (c0 : 0 ≤ qC) (c2 : qC < 9200) (d0 : 0 ≤ qD) (d2 : qD < 9200)
  (ret : ∀ x v h' tk' tk2 nw, Fr h₀ L h' m → News h₀ L h' ((r, instObj 371 dr) :: (dr, rdO w.params t1 t2 t3 lt qD tk2 nd) :: nw) → (∀ y ∈ rest, y ∈ nw) → DepV nw v dep → OccIn w.params nw x low high v gs.flatten ix → Q (.ref x) { s with heap := h', toks := tk' }) :
  wpAny (model PG w) (ctx D U env outer gd) (call (.ref 92) [.ref r]) Q E s := by
  refine ro_enter hDD hU B F X N T hf hke ?_
  intro g' L' h' tk' co' m' HK FG' F' hco N' B' X' T' l1 hm
  have l2 := l1 _ (.head _)
  have l3 := l1 _ (.tail _ (.head _))
  have l4 : ∀ q ∈ rest, q.1 < L' := fun q hq => l1 _ (.tail _ (.tail _ hq))
  have TB' := tbl g' HK
  have hrest2 : ∀ q ∈ rest, q.1 ≠ dr ∧ q.1 ≠ L' + 1 := fun q hq => ⟨hrest q hq, Nat.ne_of_lt (Nat.lt_succ_of_lt (l4 q hq))⟩
  refine roBody (by passes_own) B' F' X' N' hrest2 hco hne l3 T' TB' h0 l2 h2 hm hA hB hG hks hD hh hh0 heq a0 a2 b0 b2 c0 c2 d0 d2 ?_
  intro x v m' h1 tk1 tk2 nw F1 N1 hs1 hdp hoc
  exact leaveK_ F1 N1 fun F2 N2 => ret x v h1 tk1 tk2 nw F2 N2 hs1 hdp hoc
theorem ro_fe {low high qA qB qC qD : Int} {dep : Option (Str × List Str)} {gs : List (List (Bool × Str))} {ix : List Str} {k' : Tk} {rest : List (Addr × Obj)} (hDD : D ≤ 860) (hU : U ≤ 4300) (B : Below A₀ base outer h₀) (F : Fr h₀ L s.heap m) (X : (kdef.heap_1 w.params).In h₀) (N : News h₀ L s.heap ((r, instObj 371 dr) :: (dr, rdO w.params t1 t2 t3 lt q tk nd) :: rest)) (T : Top p loose mean mg mb h₀) (hf : env.frame = some L) (hke : env.scope.kind = .function) (hrest : ∀ q ∈ rest, q.1 ≠ dr) (hne : r ≠ dr) (tbl : ∀ g, (∀ b o, s.heap.get? b = some o → b ∉ ((r, instObj 371 dr) :: (dr, rdO w.params t1 t2 t3 lt q tk nd) :: rest).map (·.1) → g.get? b = some o) → TB w.params g lt l) (h0 : 0 ≤ q) (h2 : q < 9000) (hA : SegA l q low high qA) (hB : SegB l qA dep qB) (hG : Grps l qB gs qC) (hks : gs.flatten.length < 100) (hD : SegD l qC ix qD) (hw : high < low ∨ high = 0 ∨ (dep = none ∧ high ≠ low)) (ho : tokAt l (qD + 0) = some k') (a0 : 0 ≤ qA) (a2 : qA < 9100) (b0 : 0 ≤ qB) (b2 : qB < 9100) (c0 : 0 ≤ qC) (c2 : qC < 9200) (d0 : 0 ≤ qD) (d2 : qD < 9200)
  (err : ∀ G h' tk' e d a1 a2 wh kw, (∀ b o, s.heap.get? b = some o → b ∉ ((r, instObj 371 dr) :: (dr, rdO w.params t1 t2 t3 lt q tk nd) :: rest).map (·.1) → G.get? b = some o) → Fr h₀ L G m → Rz base G (env :: outer) e d 143 ((d, excD w.params a1 a2 wh kw k'.pos) :: rest) h' → G.UpToSlots h' → E (.ref e) { s with heap := h', toks := tk' }) :
  wpAny (model PG w) (ctx D U env outer gd) (call (.ref 92) [.ref r]) Q E s := by
  refine ro_enter hDD hU B F X N T hf hke ?_
  intro g' L' h' tk' co' m' HK FG' F' hco N' B' X' T' l1 hm
  have l2 := l1 _ (.head _)
  have l3 := l1 _ (.tail _ (.head _))
  have l4 : ∀ q ∈ rest, q.1 < L' := fun q hq => l1 _ (.tail _ (.tail _ hq))
  have TB' := tbl g' HK
  have hrest2 : ∀ q ∈ rest, q.1 ≠ dr ∧ q.1 ≠ L' + 1 := fun q hq => ⟨hrest q hq, Nat.ne_of_lt (Nat.lt_succ_of_lt (l4 q hq))⟩
  refine roBodyE (by passes_own) B' F' X' N' hrest2 hco hne l3 T' TB' h0 l2 h2 hm hA hB hG hks hD hw ho a0 a2 b0 b2 c0 c2 d0 d2 ?_
  intro h1 m1 tk1 e d t a1 a2 wh kw F1 N1 ne1
  exact rz_first (s' := { s with heap := h1, toks := tk1 }) B' F1 N1 ne1 rfl rfl fun h2 R U => err g' h2 tk1 e d a1 a2 wh kw HK FG' R U
theorem ro_f1 {k' : Tk} {rest : List (Addr × Obj)} (hDD : D ≤ 860) (hU : U ≤ 4300) (B : Below A₀ base outer h₀) (F : Fr h₀ L s.heap m) (X : (kdef.heap_1 w.params).In h₀) (N : News h₀ L s.heap ((r, instObj 371 dr) :: (dr, rdO w.params t1 t2 t3 lt q tk nd) :: rest)) (T : Top p loose mean mg mb h₀) (hf : env.frame = some L) (hke : env.scope.kind = .function) (hrest : ∀ q ∈ rest, q.1 ≠ dr) (hne : r ≠ dr) (tbl : ∀ g, (∀ b o, s.heap.get? b = some o → b ∉ ((r, instObj 371 dr) :: (dr, rdO w.params t1 t2 t3 lt q tk nd) :: rest).map (·.1) → g.get? b = some o) → TB w.params g lt l) (h0 : 0 ≤ q) (h2 : q < 9000) (ho : tokAt l (q + 0) = some k') (hk : isKind l (q + 0) "number" = false ∨ (isKind l (q + 0) "number" = true ∧ k'.x = Str.ofString "1.5"))
  (err : ∀ G h' tk' e d a1 a2 wh kw, (∀ b o, s.heap.get? b = some o → b ∉ ((r, instObj 371 dr) :: (dr, rdO w.params t1 t2 t3 lt q tk nd) :: rest).map (·.1) → G.get? b = some o) → Fr h₀ L G m → Rz base G (env :: outer) e d 143 ((d, excD w.params a1 a2 wh kw k'.pos) :: rest) h' → G.UpToSlots h' → E (.ref e) { s with heap := h', toks := tk' }) :
  wpAny (model PG w) (ctx D U env outer gd) (call (.ref 92) [.ref r]) Q E s := by
  refine ro_enter hDD hU B F X N T hf hke ?_
  intro g' L' h' tk' co' m' HK FG' F' hco N' B' X' T' l1 hm
  have l2 := l1 _ (.head _)
  have l3 := l1 _ (.tail _ (.head _))
  have l4 : ∀ q ∈ rest, q.1 < L' := fun q hq => l1 _ (.tail _ (.tail _ hq))
  have TB' := tbl g' HK
  have hrest2 : ∀ q ∈ rest, q.1 ≠ dr ∧ q.1 ≠ L' + 1 := fun q hq => ⟨hrest q hq, Nat.ne_of_lt (Nat.lt_succ_of_lt (l4 q hq))⟩
  refine roF1 B' F' X' N' hrest hne l3 T' TB' h0 h2 hm ho hk ?_
  rintro G h1 tk1 e d a1 a2 wh kw ⟨m1, F1⟩ R U
  exact rz_next (s' := { s with heap := h1, toks := tk1 }) B' F1 R U rfl fun h2 R U => err g' h2 tk1 e d a1 a2 wh kw HK FG' R U
theorem ro_f2 {low : Int} {k' : Tk} {rest : List (Addr × Obj)} (hDD : D ≤ 860) (hU : U ≤ 4300) (B : Below A₀ base outer h₀) (F : Fr h₀ L s.heap m) (X : (kdef.heap_1 w.params).In h₀) (N : News h₀ L s.heap ((r, instObj 371 dr) :: (dr, rdO w.params t1 t2 t3 lt q tk nd) :: rest)) (T : Top p loose mean mg mb h₀) (hf : env.frame = some L) (hke : env.scope.kind = .function) (hrest : ∀ q ∈ rest, q.1 ≠ dr) (hne : r ≠ dr) (tbl : ∀ g, (∀ b o, s.heap.get? b = some o → b ∉ ((r, instObj 371 dr) :: (dr, rdO w.params t1 t2 t3 lt q tk nd) :: rest).map (·.1) → g.get? b = some o) → TB w.params g lt l) (h0 : 0 ≤ q) (h2 : q < 9000) (hA : NumAt l q low) (hto : isWord l (q + 1 + 0) "TO" = true) (ho : tokAt l (q + 1 + 1 + 0) = some k') (hk : isKind l (q + 1 + 1 + 0) "number" = false)
  (err : ∀ G h' tk' e d a1 a2 wh kw, (∀ b o, s.heap.get? b = some o → b ∉ ((r, instObj 371 dr) :: (dr, rdO w.params t1 t2 t3 lt q tk nd) :: rest).map (·.1) → G.get? b = some o) → Fr h₀ L G m → Rz base G (env :: outer) e d 143 ((d, excD w.params a1 a2 wh kw k'.pos) :: rest) h' → G.UpToSlots h' → E (.ref e) { s with heap := h', toks := tk' }) :
  wpAny (model PG w) (ctx D U env outer gd) (call (.ref 92) [.ref r]) Q E s := by
  refine ro_enter hDD hU B F X N T hf hke ?_
  intro g' L' h' tk' co' m' HK FG' F' hco N' B' X' T' l1 hm
  have l2 := l1 _ (.head _)
  have l3 := l1 _ (.tail _ (.head _))
  have l4 : ∀ q ∈ rest, q.1 < L' := fun q hq => l1 _ (.tail _ (.tail _ hq))
  have TB' := tbl g' HK
  have hrest2 : ∀ q ∈ rest, q.1 ≠ dr ∧ q.1 ≠ L' + 1 := fun q hq => ⟨hrest q hq, Nat.ne_of_lt (Nat.lt_succ_of_lt (l4 q hq))⟩
  refine roF2 B' F' X' N' hrest hne l3 T' TB' h0 h2 hm hA hto ho hk ?_
  rintro G h1 tk1 e d a1 a2 wh kw ⟨m1, F1⟩ R U
  exact rz_next (s' := { s with heap := h1, toks := tk1 }) B' F1 R U rfl fun h2 R U => err g' h2 tk1 e d a1 a2 wh kw HK FG' R U
end

end Mine
end
section
open PySem PySem.W PyProof.Rows PySem.Calls
set_option Elab.async false
set_option maxRecDepth 100000
set_option maxHeartbeats 4000000
namespace Mine
local macro_rules | `(tactic| walk_at "eval Name") => `(tactic| (k_here; name_kind "cell"; k_dflt (refine' nameX_C ?N ?c ?m ?d ?_ ?a ?b; (case a => exact rfl); (case b => kernel_rfl!); (case N => k_asm); (case c => exact rfl); (case m => k_mem); (case d => k_asm); k_whole)))
local macro_rules | `(tactic| walk_at "eval Name") => `(tactic| (k_here; name_kind "globalImplicit"; k_dflt (first | (refine' nameX_K ?F ?X ?T ?e ?_ ?a ?b; (case F => k_asm); (case X => k_asm); (case T => k_asm); (case a => exact rfl); (case b => kernel_rfl!); (case e => k_is); k_whole) | (refine' nameX_B ?F ?X ?T ?e ?v ?n ?_ ?a ?b; (case F => k_asm); (case X => k_asm); (case T => k_asm); (case a => exact rfl); (case b => kernel_rfl!); (case e => k_is); (case v => boot_fast); (case n => decide); k_whole))))
local macro_rules | `(tactic| walk_at "eval Name") => `(tactic| (k_here; name_kind "local"; k_dflt (refine' nameX_L ?F ?v ?_ ?a ?b; (case F => k_asm); (case a => exact rfl); (case b => kernel_rfl!); (case v => first | assumption | exact rfl | (simp (decide := true) only [reduceIte]; assumption)); k_whole)))
local macro_rules | `(tactic| walk_at "execs cons") => `(tactic| (k_here; (with_reducible refine wpAny_execs_cons ?_); (try dsimp only); (try k_fold)))
local macro_rules | `(tactic| k_mem) => `(tactic| assumption)
local macro_rules | `(tactic| walk_at "own:m1") => `(tactic| first | with_reducible assumption | exact .head _ | (refine .tail _ ?_; walk_at "own:m1"))
local macro_rules | `(tactic| walk_at "own:m2") => `(tactic| first | assumption | exact .head _ | (refine .tail _ ?_; walk_at "own:m2"))
local macro_rules | `(tactic| walk_at "own:m3") => `(tactic| first | exact .head _ | (refine .tail _ ?_; walk_at "own:m3") | assumption)
local macro_rules | `(tactic| k_inst) => `(tactic| exact tok_inst (by assumption) (by assumption) (by assumption))
local macro_rules | `(tactic| k_enter) => `(tactic| (refine' code_def ?k1 ?k2 ?k3 ?k4 ?k5 ?kA ?kF ?kK ?k6 ?k7 ?k8 ?k9 ?kB ?_ ?c2 ?c3 ?c4 ?c5; (case kA => exact rfl); (case kF => first | exact rfl | assumption); (case kK => first | exact rfl | assumption); (case k1 => k_asm); (case k2 => k_asm); (case k3 => k_asm); (case k4 => k_asm); (case k5 => k_asm); (case k6 => k_is); (case k7 => k_is); (case k8 => k_room); (case k9 => first | exact BindsTo.of_eq rfl | exact binds_K (by k_in) rfl (by k_is) rfl rfl rfl); (case c5 => decide); (case kB => exact locs rfl); (case c2 => exact rfl); (case c3 => exact rfl); (case c4 => exact rfl); k_whole; intro g' L' h' FG' F' N' B' X' T'; (try dsimp only); refine toksG ?_; intro tkG'; (try (have TB' := TB.keeps (by assumption) (Fr.keep (by assumption)); have TL' := TB'.lst)); (try k_fold)))
local macro_rules | `(tactic| walk_at "subscriptTail") => `(tactic| (goal_lacks GoM; refine stp ?_))
local macro_rules | `(tactic| k_all) => `(tactic| assumption)
local macro_rules | `(tactic| walk_at "call builtin:len") => `(tactic| (goal_lacks GoM; refine stp ?_))

noncomputable def ltPack : PSigma fun x : List Stmt × Scope => ∃ n a d r t ts bd ps, (PG.main.body[34]? : Option Stmt) = some (Stmt.FunctionDef n a x.1 d r t x.2 ts bd ps) := ⟨(_, _), _, _, _, _, _, _, _, _, rfl⟩
noncomputable abbrev ltEnv (L : Addr) : Env := envOf (Str.ofString "_law_tokens") ltPack.1.2 L 420 (.ref 419)
noncomputable def ltFor : PSigma fun x : PySem.Expr × PySem.Expr × List Stmt => ∃ o ps, (ltPack.1.1[1]? : Option Stmt) = some (Stmt.For x.1 x.2.1 x.2.2 o ps) := ⟨(_, _, _), _, _, rfl⟩
noncomputable def isDig (x : Str) : Bool := !(Builtin.Str.occurrences (Str.ofString "0123456789") (Txt.item x 0) 0 (Str.ofString "0123456789").length 1).isEmpty
noncomputable def kw (x : Str) : Str := if isDig x then Str.ofString "number" else if x == Str.ofString "." then Str.ofString "sign" else Str.ofString "word"
theorem in_dig {prog : Program} {w : World} {A : Around} {E : Value → Shared → Prop} {s : Shared} {x : Str} {t u : Tok} {b : Bool} {Q : Value → Shared → Prop} (hb : isDig x = b) (h : Q (.bool b) s) : wpAny (model prog w) A (compareOp .In (.str (Txt.item x 0) u) (.str (Str.ofString "0123456789") t)) Q E s :=
  in_str (by subst hb; exact h)

inductive LtEnd (P : Params) (h₀ : Heap) (L I lt lw : Addr) (it : Obj) (ys : List Value) (rest : List (Addr × Obj)) (kd x : Str) (j : Int) (s s' : Shared) : Prop
  | mk (m' : _) (h' : _) (tk' : _) (e' : _) (k : Tk) (f1 : s' = { s with heap := h', toks := tk' }) (f2 : Fr h₀ L h' m') (f3 : News h₀ L h' ((k.t, instObj 401 k.d) :: (k.d, tkO P k.t1 k.t2 k.t3 k.t4 k.kind k.x k.k1 k.k2 k.pos k.n) :: (k.pos, tupO #[.int k.line k.k3, .int 12 k.k4]) :: (I, it) :: (lt, listOf (List.toArray (ys ++ [.ref k.t])) e') :: rest)) (f4 : k.kind = kd) (f5 : k.x = x) (f6 : k.line = j + 1) (f7 : I < k.pos) (f8 : lt < k.pos) (f9 : (∀ q ∈ rest, q.1 < k.pos)) (f10 : k.pos < k.d) (f11 : k.d < k.t) (f12 : m' (Str.ofString "found") = some (.ref lt)) (f13 : m' (Str.ofString "words") = some (.ref lw)) : LtEnd P h₀ L I lt lw it ys rest kd x j s s'
inductive LtKind (h₀ : Heap) (L I lt lw : Addr) (it : Obj) (ys : List Value) (e : Nat) (rest : List (Addr × Obj)) (kd : Str) (j : Int) (at1 : Tok) (s s' : Shared) : Prop
  | mk (m' : _) (h' : _) (tk' : _) (kdt : _) (f1 : s' = { s with heap := h', toks := tk' }) (f2 : Fr h₀ L h' m') (f3 : News h₀ L h' ((I, it) :: (lt, listOf (List.toArray ys) e) :: rest)) (f4 : m' (Str.ofString "found") = some (.ref lt)) (f5 : m' (Str.ofString "words") = some (.ref lw)) (f6 : m' (Str.ofString "at") = some (.int j at1)) (f7 : m' (Str.ofString "kind") = some (.str kd kdt)) : LtKind h₀ L I lt lw it ys e rest kd j at1 s s'
theorem lt_end {P : Params} {h₀ h' : Heap} {L I lt lw x' d' D' : Addr} {it : Obj} {ys : List Value} {rest : List (Addr × Obj)} {kd x : Str} {j : Int} {s : Shared} {m' : Str → Option Value} {tk' e' n : Nat} {t1 t2 t3 t4 k1 k2 k3 k4 : Tok} (F : Fr h₀ L h' m')
    (N : News h₀ L h' ((x', instObj 401 d') :: (d', tkO P t1 t2 t3 t4 kd x k1 k2 D' n) :: (D', tupO #[.int (j + 1) k3, .int 12 k4]) :: (I, it) :: (lt, listOf ((List.toArray ys).push (.ref x')) e') :: rest))
    (l1 : I < D' ∧ lt < D' ∧ AllLt D' rest) (l2 : D' < d' ∧ I < d' ∧ lt < d' ∧ AllLt d' rest) (l3 : d' < x')
    (hm : m' (Str.ofString "found") = some (.ref lt)) (hm1 : m' (Str.ofString "words") = some (.ref lw)) : LtEnd P h₀ L I lt lw it ys rest kd x j s { s with heap := h', toks := tk' } :=
  ⟨m', h', tk', e', ⟨x', d', D', t1, t2, t3, t4, k1, k2, k3, k4, n, j + 1, kd, x⟩, rfl, F, by rw [List.push_toArray] at N; exact N, rfl, rfl, rfl, l1.1, l1.2.1, allLt_all _ l1.2.2, l2.1, l3, hm, hm1⟩

section
variable {w : World} {p : Program} {loose : List Str} {mean : ExcName → Option Value} {mg mb : Str → Option Value}
  {env : Env} {outer : List Env} {gd : Option (List Code)} {A₀ : Around} {base h₀ : Heap} {L : Addr} {m : Str → Option Value} {news : List (Addr × Obj)} {g : Obj → List (Addr × Obj)} {s : Shared} {Q E : Value → Shared → Prop}
  {D U : Nat} {r dr lt nd : Addr} {t1 t2 t3 tk ka : Tok} {q k : Int} {n : Nat} {l : List Tk}
local macro_rules | `(tactic| k_mem) => `(tactic| walk_at "own:m2")
local macro_rules | `(tactic| walk_at "compareOp In str str") => `(tactic| (goal_lacks GoM; refine stp ?_))

theorem lt_kind {rest : List (Addr × Obj)} {I lw : Addr} {it : Obj} {ys vs : List Value} {e e2 : Nat} {x kd : Str} {xt at1 kdt : Tok} {j : Int} (B : Below A₀ base outer h₀) (F : Fr h₀ L s.heap m) (X : (kdef.heap_1 w.params).In h₀) (T : Top p loose mean mg mb h₀)
  (N : News h₀ L s.heap ((I, it) :: (lt, listOf (List.toArray ys) e) :: rest)) (hrest : ∀ q ∈ rest, q.1 ≠ lt) (hI : lt < I) (hlw : (lw, listOf (List.toArray vs) e2) ∈ rest) (hv : vs[j.toNat]? = some (.str x xt)) (hj : 0 ≤ j) (hj2 : j < vs.length) (hvl : vs.length < 200) (hys : ys.length < 200) (hx0 : 0 < x.length) (hx1 : x.length ≤ 1000)
  (hm : m (Str.ofString "found") = some (.ref lt)) (hm1 : m (Str.ofString "words") = some (.ref lw)) (hm2 : m (Str.ofString "at") = some (.int j at1)) :
  wpAny (model PG w) (ctx 851 4253 (ltEnv L) outer gd) (execs (ltFor.1.2.2.take 1) (ltEnv L)) (fun f s' => f = .next ∧ LtKind h₀ L I lt lw it ys e rest (kw x) j at1 s s') E s := by
  have hI1 := ltN hI
  have hkw : kw x = if isDig x then Str.ofString "number" else if x == Str.ofString "." then Str.ofString "sign" else Str.ofString "word" := rfl
  simp only [ltFor, ltPack, ltEnv, List.take_succ_cons, List.take_zero]
  cases hdig : isDig x with
  | true =>
    rw [hdig, if_pos rfl] at hkw
    rw [hkw]
    (repeat' (first | (with_reducible refine unstp ?_; first | ((k_here; k_dflt (refine' in_dig ?hb ?_; (case hb => assumption); k_whole))) | ((k_here; (with_reducible show wpAny _ _ (subscriptTail _ _ (Value.str _ _) (Value.int _ _)) _ _ _); (with_unfolding_all refine' item_str ?k1 ?k2 ?k3 ?_ ?k6 ?k7; (case k1 => decide); (case k2 => omega); (case k3 => omega); (case k6 => with_unfolding_all rfl); (case k7 => intro _; with_unfolding_all rfl); k_whole); intro _)) | ((k_here; (with_reducible show wpAny _ _ (subscriptTail _ _ (Value.ref _) (Value.int _ _)) _ _ _); (with_unfolding_all refine' item_list (x := Value.str _ _) ?k1 ?k2 ?k3 ?k4 ?_ ?k6 ?k7; (case k1 => exact News.isList (by k_asm) (by k_mem)); (case k2 => omega); (case k3 => omega); (case k4 => (simp only [List.getElem?_toArray]; assumption)); (case k6 => with_unfolding_all rfl); (case k7 => intro _; with_unfolding_all rfl); k_whole))) | (refine goM ?_; k_dflt walk1) | (k_dflt (dsimp only); refine stp ?_)) | (k_unfold; (first | with_reducible refine (?_ : wpAny _ _ _ _ _ _) | (try dsimp only))) | (k_end; wrow_close) | walk1 | (dsimp only; walk1) | (leave1; walk_say "STEP leave1"; try dsimp only) | fail "no step"))
    all_goals exact ⟨_, _, _, _, rfl, by k_asm, by k_asm, (by (try dsimp only); first | assumption | rfl | (simp (decide := true) only [reduceIte]; done) | (simp (decide := true) only [reduceIte]; assumption)), (by (try dsimp only); first | assumption | rfl | (simp (decide := true) only [reduceIte]; done) | (simp (decide := true) only [reduceIte]; assumption)), (by (try dsimp only); first | assumption | rfl | (simp (decide := true) only [reduceIte]; done) | (simp (decide := true) only [reduceIte]; assumption)), (by (try dsimp only); first | assumption | rfl | (simp (decide := true) only [reduceIte]; done) | (simp (decide := true) only [reduceIte]; assumption))⟩
  | false =>
    rw [hdig, if_neg (by decide)] at hkw
    cases hdot : (x == Str.ofString ".") with
    | true =>
      rw [hdot, if_pos rfl] at hkw
      rw [hkw]
      (repeat' (first | (with_reducible refine unstp ?_; first | ((k_here; k_dflt (refine' in_dig ?hb ?_; (case hb => assumption); k_whole))) | ((k_here; (with_reducible show wpAny _ _ (subscriptTail _ _ (Value.str _ _) (Value.int _ _)) _ _ _); (with_unfolding_all refine' item_str ?k1 ?k2 ?k3 ?_ ?k6 ?k7; (case k1 => decide); (case k2 => omega); (case k3 => omega); (case k6 => with_unfolding_all rfl); (case k7 => intro _; with_unfolding_all rfl); k_whole); intro _)) | ((k_here; (with_reducible show wpAny _ _ (subscriptTail _ _ (Value.ref _) (Value.int _ _)) _ _ _); (with_unfolding_all refine' item_list (x := Value.str _ _) ?k1 ?k2 ?k3 ?k4 ?_ ?k6 ?k7; (case k1 => exact News.isList (by k_asm) (by k_mem)); (case k2 => omega); (case k3 => omega); (case k4 => (simp only [List.getElem?_toArray]; assumption)); (case k6 => with_unfolding_all rfl); (case k7 => intro _; with_unfolding_all rfl); k_whole))) | (refine goM ?_; k_dflt walk1) | (k_dflt (dsimp only); refine stp ?_)) | (k_unfold; (first | with_reducible refine (?_ : wpAny _ _ _ _ _ _) | (try dsimp only))) | (k_end; wrow_close) | walk1 | (dsimp only; walk1) | (leave1; walk_say "STEP leave1"; try dsimp only) | fail "no step"))
      all_goals exact ⟨_, _, _, _, rfl, by k_asm, by k_asm, (by (try dsimp only); first | assumption | rfl | (simp (decide := true) only [reduceIte]; done) | (simp (decide := true) only [reduceIte]; assumption)), (by (try dsimp only); first | assumption | rfl | (simp (decide := true) only [reduceIte]; done) | (simp (decide := true) only [reduceIte]; assumption)), (by (try dsimp only); first | assumption | rfl | (simp (decide := true) only [reduceIte]; done) | (simp (decide := true) only [reduceIte]; assumption)), (by (try dsimp only); first | assumption | rfl | (simp (decide := true) only [reduceIte]; done) | (simp (decide := true) only [reduceIte]; assumption))⟩
    | false =>
      rw [hdot, if_neg (by decide)] at hkw
      rw [hkw]
      (repeat' (first | (with_reducible refine unstp ?_; first | ((k_here; k_dflt (refine' in_dig ?hb ?_; (case hb => assumption); k_whole))) | ((k_here; (with_reducible show wpAny _ _ (subscriptTail _ _ (Value.str _ _) (Value.int _ _)) _ _ _); (with_unfolding_all refine' item_str ?k1 ?k2 ?k3 ?_ ?k6 ?k7; (case k1 => decide); (case k2 => omega); (case k3 => omega); (case k6 => with_unfolding_all rfl); (case k7 => intro _; with_unfolding_all rfl); k_whole); intro _)) | ((k_here; (with_reducible show wpAny _ _ (subscriptTail _ _ (Value.ref _) (Value.int _ _)) _ _ _); (with_unfolding_all refine' item_list (x := Value.str _ _) ?k1 ?k2 ?k3 ?k4 ?_ ?k6 ?k7; (case k1 => exact News.isList (by k_asm) (by k_mem)); (case k2 => omega); (case k3 => omega); (case k4 => (simp only [List.getElem?_toArray]; assumption)); (case k6 => with_unfolding_all rfl); (case k7 => intro _; with_unfolding_all rfl); k_whole))) | (refine goM ?_; k_dflt walk1) | (k_dflt (dsimp only); refine stp ?_)) | (k_unfold; (first | with_reducible refine (?_ : wpAny _ _ _ _ _ _) | (try dsimp only))) | (k_end; wrow_close) | walk1 | (dsimp only; walk1) | (leave1; walk_say "STEP leave1"; try dsimp only) | fail "no step"))
      all_goals exact ⟨_, _, _, _, rfl, by k_asm, by k_asm, (by (try dsimp only); first | assumption | rfl | (simp (decide := true) only [reduceIte]; done) | (simp (decide := true) only [reduceIte]; assumption)), (by (try dsimp only); first | assumption | rfl | (simp (decide := true) only [reduceIte]; done) | (simp (decide := true) only [reduceIte]; assumption)), (by (try dsimp only); first | assumption | rfl | (simp (decide := true) only [reduceIte]; done) | (simp (decide := true) only [reduceIte]; assumption)), (by (try dsimp only); first | assumption | rfl | (simp (decide := true) only [reduceIte]; done) | (simp (decide := true) only [reduceIte]; assumption))⟩
theorem lt_app {rest : List (Addr × Obj)} {I lw : Addr} {it : Obj} {ys vs : List Value} {e e2 : Nat} {x kd : Str} {xt at1 kdt : Tok} {j : Int} (B : Below A₀ base outer h₀) (F : Fr h₀ L s.heap m) (X : (kdef.heap_1 w.params).In h₀) (T : Top p loose mean mg mb h₀)
  (N : News h₀ L s.heap ((I, it) :: (lt, listOf (List.toArray ys) e) :: rest)) (hrest : ∀ q ∈ rest, q.1 ≠ lt) (hI : lt < I) (hlw : (lw, listOf (List.toArray vs) e2) ∈ rest) (hv : vs[j.toNat]? = some (.str x xt)) (hj : 0 ≤ j) (hj2 : j < vs.length) (hvl : vs.length < 200) (hys : ys.length < 200) (hx0 : 0 < x.length) (hx1 : x.length ≤ 1000)
  (hm : m (Str.ofString "found") = some (.ref lt)) (hm1 : m (Str.ofString "words") = some (.ref lw)) (hm2 : m (Str.ofString "at") = some (.int j at1)) (hm3 : m (Str.ofString "kind") = some (.str kd kdt)) :
  wpAny (model PG w) (ctx 851 4253 (ltEnv L) outer gd) (execs (ltFor.1.2.2.drop 1) (ltEnv L)) (fun f s' => f = .next ∧ LtEnd w.params h₀ L I lt lw it ys rest kd x j s s') E s := by
  have hI1 := ltN hI
  simp only [ltFor, ltPack, ltEnv, List.drop_succ_cons, List.drop_zero]
  (repeat' (first | (with_reducible refine unstp ?_; first | ((k_here; k_dflt (refine' in_dig ?hb ?_; (case hb => assumption); k_whole))) | ((k_here; (with_reducible show wpAny _ _ (subscriptTail _ _ (Value.str _ _) (Value.int _ _)) _ _ _); (with_unfolding_all refine' item_str ?k1 ?k2 ?k3 ?_ ?k6 ?k7; (case k1 => decide); (case k2 => omega); (case k3 => omega); (case k6 => with_unfolding_all rfl); (case k7 => intro _; with_unfolding_all rfl); k_whole); intro _)) | ((k_here; (with_reducible show wpAny _ _ (subscriptTail _ _ (Value.ref _) (Value.int _ _)) _ _ _); (with_unfolding_all refine' item_list (x := Value.str _ _) ?k1 ?k2 ?k3 ?k4 ?_ ?k6 ?k7; (case k1 => exact News.isList (by k_asm) (by k_mem)); (case k2 => omega); (case k3 => omega); (case k4 => (simp only [List.getElem?_toArray]; assumption)); (case k6 => with_unfolding_all rfl); (case k7 => intro _; with_unfolding_all rfl); k_whole))) | (refine goM ?_; k_dflt walk1) | (k_dflt (dsimp only); refine stp ?_)) | (k_unfold; (first | with_reducible refine (?_ : wpAny _ _ _ _ _ _) | (try dsimp only))) | (k_end; wrow_close) | walk1 | (dsimp only; walk1) | (leave1; walk_say "STEP leave1"; try dsimp only) | fail "no step"))
  all_goals exact lt_end (by k_asm) (by k_asm) (by assumption) (by assumption) (by assumption) (by (try dsimp only); first | assumption | rfl | (simp (decide := true) only [reduceIte]; done) | (simp (decide := true) only [reduceIte]; assumption)) (by (try dsimp only); first | assumption | rfl | (simp (decide := true) only [reduceIte]; done) | (simp (decide := true) only [reduceIte]; assumption))
end


theorem range_size {n : Nat} : Builtin.Range.rangeSize 0 n 1 = (n : Int) := by
  unfold Builtin.Range.rangeSize
  rw [if_pos (by decide)]
  split
  · rw [Int.ediv_one]; omega
  · omega
theorem range_small {n : Nat} (h : n < 1000) : Builtin.Range.small 0 n 1 = true := by
  have f : ∀ x : Int, 0 ≤ x → x ≤ 1000 → Builtin.Range.rangeFitsLong x = true := fun x h0 h1 => by
    unfold Builtin.Range.rangeFitsLong
    simp only [Bool.and_eq_true, decide_eq_true_eq]
    constructor <;> omega
  unfold Builtin.Range.small
  rw [range_size, f 0 (by decide) (by decide), f n (by omega) (by omega), f 1 (by decide) (by decide), if_pos (by decide), f _ (by omega) (by omega)]
  simp
/-- tokens on the ledger, for their words -/
structure TokL (P : Params) (tl : List (Addr × Obj)) (l : List Tk) (W : List Str) : Prop where
  words : l.map (fun k => (k.kind, k.x)) = W.map fun x => (kw x, x)
  line : ∀ (i : Nat) (k : Tk), l[i]? = some k → k.line = (i : Int) + 1
  at_ : ∀ k ∈ l, (k.t, instObj 401 k.d) ∈ tl ∧ (k.d, tkO P k.t1 k.t2 k.t3 k.t4 k.kind k.x k.k1 k.k2 k.pos k.n) ∈ tl ∧ (k.pos, tupO #[.int k.line k.k3, .int 12 k.k4]) ∈ tl
theorem TokL.nil {P : Params} : TokL P [] [] [] := ⟨rfl, fun _ _ h => by simp at h, fun _ h => nomatch h⟩
theorem TokL.snoc {P : Params} {tl tl' : List (Addr × Obj)} {l : List Tk} {W : List Str} {k : Tk} {x : Str} (h : TokL P tl l W) (hs : ∀ p ∈ tl, p ∈ tl') (h1 : k.kind = kw x) (h2 : k.x = x) (h3 : k.line = (W.length : Int) + 1)
    (h4 : (k.t, instObj 401 k.d) ∈ tl' ∧ (k.d, tkO P k.t1 k.t2 k.t3 k.t4 k.kind k.x k.k1 k.k2 k.pos k.n) ∈ tl' ∧ (k.pos, tupO #[.int k.line k.k3, .int 12 k.k4]) ∈ tl') : TokL P tl' (l ++ [k]) (W ++ [x]) := by
  have hl : l.length = W.length := by simpa using congrArg List.length h.words
  refine ⟨by rw [List.map_append, List.map_append, h.words]; simp [h1, h2], fun i k' hk => ?_, fun k' hk => ?_⟩
  · by_cases hi : i < l.length
    · rw [List.getElem?_append_left hi] at hk; exact h.line i k' hk
    · rw [List.getElem?_append_right (by omega)] at hk
      have : i - l.length = 0 := by
        by_cases z : i - l.length = 0
        · exact z
        · rw [List.getElem?_eq_none (by simp; omega)] at hk; cases hk
      rw [this] at hk
      obtain rfl : k = k' := by simpa using hk
      rw [h3]; omega
  · rcases List.mem_append.mp hk with hk | hk
    · obtain ⟨a, b, c⟩ := h.at_ k' hk
      exact ⟨hs _ a, hs _ b, hs _ c⟩
    · obtain rfl := List.mem_singleton.mp hk
      exact h4
inductive LtSt (P : Params) (lw lt I : Addr) (news : List (Addr × Obj)) (W : List Str) (i : Nat) (m : Str → Option Value) (nw : List (Addr × Obj)) : Prop
  | mk (e : _) (tl : _) (l : _) (f1 : nw = (lt, listOf (l.map fun k => Value.ref k.t).toArray e) :: (tl ++ news)) (f2 : m (Str.ofString "found") = some (.ref lt)) (f3 : m (Str.ofString "words") = some (.ref lw)) (f4 : TokL P tl l (W.take i)) (f5 : (∀ p ∈ tl, lt < p.1 ∧ p.1 ≠ I)) : LtSt P lw lt I news W i m nw
inductive LtPost (P : Params) (h₀ : Heap) (L lt : Addr) (news : List (Addr × Obj)) (W : List Str) (s s' : Shared) : Prop
  | mk (m' : _) (h' : _) (tk' : _) (e : _) (tl : _) (l : _) (f1 : s' = { s with heap := h', toks := tk' }) (f2 : Fr h₀ L h' m') (f3 : News h₀ L h' ((lt, listOf (l.map fun k => Value.ref k.t).toArray e) :: (tl ++ news))) (f4 : m' (Str.ofString "found") = some (.ref lt)) (f5 : TokL P tl l W) (f6 : (∀ p ∈ tl, lt < p.1)) : LtPost P h₀ L lt news W s s'

section
variable {w : World} {p : Program} {loose : List Str} {mean : ExcName → Option Value} {mg mb : Str → Option Value}
  {env : Env} {outer : List Env} {gd : Option (List Code)} {A₀ : Around} {base h₀ : Heap} {L : Addr} {m : Str → Option Value} {news : List (Addr × Obj)} {g : Obj → List (Addr × Obj)} {s : Shared} {Q E : Value → Shared → Prop}
  {D U : Nat} {r dr lt nd : Addr} {t1 t2 t3 tk ka : Tok} {q k : Int} {n : Nat} {l : List Tk}

theorem lt_loop {I lw : Addr} {vs : List Value} {e2 : Nat} {W : List Str} {Q : Flow → Shared → Prop} {s₀ : Shared} (B : Below A₀ base outer h₀) (X : (kdef.heap_1 w.params).In h₀) (T : Top p loose mean mg mb h₀) (hlw : (lw, listOf (List.toArray vs) e2) ∈ news) (hlt : ∀ q ∈ news, q.1 < lt) (hI : lt < I)
  (hvs : vs.length = W.length) (hv : ∀ i (h : i < W.length), ∃ u, vs[i]? = some (.str W[i] u)) (hlen : W.length < 100) (hx : ∀ x ∈ W, 0 < x.length ∧ x.length ≤ 1000)
  (hQ : ∀ s', LtPost w.params h₀ L lt news W s₀ s' → Q .next s') : ∀ (k i : Nat) (m : Str → Option Value) (nw : List (Addr × Obj)), i + k = vs.length → LtSt w.params lw lt I news W i m nw →
  RangeRest PG w (ctx 851 4253 (ltEnv L) outer gd) E h₀ (ltEnv L) (Str.ofString "at") ltFor.1.2.2 Q s₀ I 0 vs.length k i m nw := by
  intro k
  induction k with
  | zero =>
    rintro i m nw hi ⟨e, tl, l, rfl, hm, hm1, hT, htl⟩ h tk F N
    have : W.take i = W := by rw [List.take_of_length_le]; omega
    rw [this] at hT
    exact hQ _ ⟨m, h, tk, e, tl, l, rfl, F, N, hm, hT, fun p hp => (htl p hp).1⟩
  | succ k ih =>
    rintro i m nw hi ⟨e, tl, l, rfl, hm, hm1, hT, htl⟩ t h tk F N
    have hiW : i < W.length := by omega
    have e0 : (0 : Int) + (i : Int) = (i : Int) := by omega
    rw [e0] at F
    obtain ⟨u, hu⟩ := hv i hiW
    have hll : l.length = i := by have := congrArg List.length hT.words; simp at this; omega
    have hr : ∀ q ∈ tl ++ news, q.1 ≠ lt := fun q hq => by
      rcases List.mem_append.mp hq with hq | hq
      · exact Nat.ne_of_gt (htl q hq).1
      · exact Nat.ne_of_lt (hlt q hq)
    have hxi := hx W[i] (List.getElem_mem hiW)
    have cut : ltFor.1.2.2 = ltFor.1.2.2.take 1 ++ ltFor.1.2.2.drop 1 := (List.take_append_drop 1 _).symm
    rw [cut]
    refine wpAny_mono (execs_cut (I := fun s' => LtKind h₀ L I lt lw _ _ _ _ _ _ _ _ s') (lt_kind (kd := W[i]) (kdt := 0) (x := W[i]) (xt := u) (j := (i : Int)) (s := { s₀ with heap := h, toks := tk }) B F X T N hr hI (List.mem_append_right _ hlw) (by simpa using hu) (by omega) (by omega) (by omega) (by simp; omega) hxi.1 hxi.2 ((if_neg (by decide)).trans hm) ((if_neg (by decide)).trans hm1) (if_pos rfl)) fun s1 hs1 => ?_) (fun f s2 hf => hf) fun _ _ y => y
    obtain ⟨m1, h1, tk1, kdt, rfl, F1, N1, g1, g2, g3, g4⟩ := hs1
    refine wpAny_mono (lt_app (x := W[i]) (xt := u) (j := (i : Int)) (s := { s₀ with heap := h1, toks := tk1 }) B F1 X T N1 hr hI (List.mem_append_right _ hlw) (by simpa using hu) (by omega) (by omega) (by omega) (by simp; omega) hxi.1 hxi.2 g1 g2 g3 g4) (fun f s2 hf => ?_) fun _ _ y => y
    obtain ⟨rfl, m2, h2, tk2, e2, k', rfl, F2, N2, b1, b2, b3, b4, b5, b6, b7, b8, c1, c2⟩ := hf
    refine ⟨h2, tk2, m2, (lt, listOf ((l ++ [k']).map fun k => Value.ref k.t).toArray e2) :: (((k'.t, instObj 401 k'.d) :: (k'.d, tkO w.params k'.t1 k'.t2 k'.t3 k'.t4 k'.kind k'.x k'.k1 k'.k2 k'.pos k'.n) :: (k'.pos, tupO #[.int k'.line k'.k3, .int 12 k'.k4]) :: tl) ++ news), rfl, F2, ?_, ?_, ?_⟩
    · intro p hp
      refine N2 p ?_
      simp only [List.map_append, List.map_cons, List.map_nil, List.mem_cons, List.cons_append, List.mem_append] at hp ⊢
      rcases hp with q | q | q | q | q | q | q <;> simp [q]
    · intro p hp
      simp only [List.mem_cons, List.cons_append, List.mem_append] at hp
      rcases hp with q | q | q | q | q | q
      · rw [q]; exact Nat.ne_of_lt hI
      · rw [q]; exact Nat.ne_of_gt (Nat.lt_trans (Nat.lt_trans b4 b7) b8)
      · rw [q]; exact Nat.ne_of_gt (Nat.lt_trans b4 b7)
      · rw [q]; exact Nat.ne_of_gt b4
      · exact (htl p q).2
      · exact Nat.ne_of_lt (Nat.lt_trans (hlt p q) hI)
    · refine ih (i + 1) m2 _ (by omega) ⟨e2, _, l ++ [k'], rfl, c1, c2, ?_, ?_⟩
      · have hW : W.take (i + 1) = W.take i ++ [W[i]] := by rw [List.take_add_one, List.getElem?_eq_getElem hiW]; rfl
        rw [hW]
        refine hT.snoc (fun p hp => .tail _ (.tail _ (.tail _ hp))) b1 b2 (by rw [b3, List.length_take]; omega) ⟨.head _, .tail _ (.head _), .tail _ (.tail _ (.head _))⟩
      · intro p hp
        simp only [List.mem_cons] at hp
        rcases hp with q | q | q | q
        · rw [q]; exact ⟨Nat.lt_trans (Nat.lt_trans b5 b7) b8, Nat.ne_of_gt (Nat.lt_trans (Nat.lt_trans b4 b7) b8)⟩
        · rw [q]; exact ⟨Nat.lt_trans b5 b7, Nat.ne_of_gt (Nat.lt_trans b4 b7)⟩
        · rw [q]; exact ⟨b5, Nat.ne_of_gt b4⟩
        · exact htl p q
end


noncomputable abbrev LtRet (P : Params) (h₀ : Heap) (L : Addr) (m : Str → Option Value) (news : List (Addr × Obj)) (W : List Str) (s : Shared) (Q : Value → Shared → Prop) : Prop :=
  ∀ lt e tl l h' tk', Fr h₀ L h' m → News h₀ L h' ((lt, listOf (l.map fun k => Value.ref k.t).toArray e) :: (tl ++ news)) → TokL P tl l W → (∀ p ∈ tl, lt < p.1) → (∀ q ∈ news, q.1 < lt) → Q (.ref lt) { s with heap := h', toks := tk' }

section
variable {w : World} {p : Program} {loose : List Str} {mean : ExcName → Option Value} {mg mb : Str → Option Value}
  {env : Env} {outer : List Env} {gd : Option (List Code)} {A₀ : Around} {base h₀ : Heap} {L : Addr} {m : Str → Option Value} {news : List (Addr × Obj)} {g : Obj → List (Addr × Obj)} {s : Shared} {Q E : Value → Shared → Prop}
  {D U : Nat} {r dr lt nd : Addr} {t1 t2 t3 tk ka : Tok} {q k : Int} {n : Nat} {l : List Tk}
local macro_rules | `(tactic| k_mem) => `(tactic| walk_at "own:m3")
local macro_rules | `(tactic| walk_at "pyIter ref") => `(tactic| (goal_lacks GoM; refine stp ?_))

local macro_rules | `(tactic| walk_at "own:pad1") => `(tactic| skip)
theorem toks_c {lw : Addr} {vs : List Value} {e2 : Nat} {W : List Str} (hDD : D ≤ 850) (hU : U ≤ 4250) (B : Below A₀ base outer h₀) (F : Fr h₀ L s.heap m) (X : (kdef.heap_1 w.params).In h₀) (N : News h₀ L s.heap news)
  (T : Top p loose mean mg mb h₀) (hf : env.frame = some L) (hke : env.scope.kind = .function) (hlw : (lw, listOf (List.toArray vs) e2) ∈ news)
  (hvs : vs.length = W.length) (hv : ∀ i (h : i < W.length), ∃ u, vs[i]? = some (.str W[i] u)) (hlen : W.length < 100) (hx : ∀ x ∈ W, 0 < x.length ∧ x.length ≤ 1000) (ret : LtRet w.params h₀ L m news W s Q) :
  wpAny (model PG w) (ctx D U env outer gd) (call (.ref 420) [.ref lw]) Q E s := by
  refine ctx_mono hDD hU ?_
  have hlen2 : W.length < 1000 := by omega
  have hvl : vs.length < 1000 := by omega
  refine wpAny_call ?_
  k_dflt k_enter
  (repeat' (first | (with_reducible refine unstp ?_; first | (first | ((k_here; (with_reducible show wpAny _ _ (pyIter (Value.ref _)) (fun it s₂ => LoopAtV _ _ _ _ _ _ _ _ _ it s₂) _ _); (rename IsRange _ _ _ _ _ _ _ _ => rgX9z); refine' iter_rangeUnr (n := _) ?hh rgX9z ?hs ?hn ?F ?N ?_; (case hh => rfl); (case F => k_asm); (case N => k_asm); (case hs => exact range_small (by assumption)); (case hn => exact range_size))) | k_dflt ((k_here; (with_reducible show wpAny _ _ (pyIter (Value.ref _)) (fun it s₂ => LoopAtV _ _ _ _ _ _ _ _ _ it s₂) _ _); (rename IsRange _ _ _ _ _ _ _ _ => rgX9z); refine' iter_rangeUnr (n := _) ?hh rgX9z ?hs ?hn ?F ?N ?_; (case hh => rfl); (case F => k_asm); (case N => k_asm); (case hs => exact range_small (by assumption)); (case hn => exact range_size)))) | ((k_here; (with_reducible show wpAny _ _ (call (Value.builtin "len") [Value.ref _]) _ _ _); (with_unfolding_all refine' len_list ?k1 ?k2 ?_; (case k1 => exact News.isList (by k_asm) (by k_mem)); (case k2 => (simp only [List.size_toArray]; omega)); k_whole); (try simp only [List.size_toArray]))) | (refine goM ?_; k_dflt walk1) | (k_dflt (dsimp only); refine stp ?_)) | (k_unfold; (first | with_reducible refine (?_ : wpAny _ _ _ _ _ _) | (try dsimp only))) | (k_end; wrow_close) | walk1 | (dsimp only; walk1) | (leave1; walk_say "STEP leave1"; try dsimp only) | fail "no step"))
  have hI2 := (by assumption : ∀ p ∈ _ :: news, p.1 < _)
  have hl2 := (by assumption : ∀ q ∈ news, q.1 < _)
  refine lt_loop (lw := lw) (news := news) (by assumption) (by assumption) (by assumption) hlw hl2 (hI2 _ (.head _)) hvs hv hlen hx ?_ vs.length 0 _ _ (Nat.zero_add _) ⟨0, [], [], rfl, ?_, ?_, TokL.nil, fun _ h => nomatch h⟩
  · intro s' hs'
    obtain ⟨m2, h2, tk2, e3, tl, l, rfl, F2, N2, c1, hT, htl⟩ := hs'
    (repeat' (first | (with_reducible refine unstp ?_; first | (first | ((k_here; (with_reducible show wpAny _ _ (pyIter (Value.ref _)) (fun it s₂ => LoopAtV _ _ _ _ _ _ _ _ _ it s₂) _ _); (rename IsRange _ _ _ _ _ _ _ _ => rgX9z); refine' iter_rangeUnr (n := _) ?hh rgX9z ?hs ?hn ?F ?N ?_; (case hh => rfl); (case F => k_asm); (case N => k_asm); (case hs => exact range_small (by assumption)); (case hn => exact range_size))) | k_dflt ((k_here; (with_reducible show wpAny _ _ (pyIter (Value.ref _)) (fun it s₂ => LoopAtV _ _ _ _ _ _ _ _ _ it s₂) _ _); (rename IsRange _ _ _ _ _ _ _ _ => rgX9z); refine' iter_rangeUnr (n := _) ?hh rgX9z ?hs ?hn ?F ?N ?_; (case hh => rfl); (case F => k_asm); (case N => k_asm); (case hs => exact range_small (by assumption)); (case hn => exact range_size)))) | ((k_here; (with_reducible show wpAny _ _ (call (Value.builtin "len") [Value.ref _]) _ _ _); (with_unfolding_all refine' len_list ?k1 ?k2 ?_; (case k1 => exact News.isList (by k_asm) (by k_mem)); (case k2 => (simp only [List.size_toArray]; omega)); k_whole); (try simp only [List.size_toArray]))) | (refine goM ?_; k_dflt walk1) | (k_dflt (dsimp only); refine stp ?_)) | (k_unfold; (first | with_reducible refine (?_ : wpAny _ _ _ _ _ _) | (try dsimp only))) | (k_end; wrow_close) | walk1 | (dsimp only; walk1) | (leave1; walk_say "STEP leave1"; try dsimp only) | fail "no step"))
    exact ret _ _ _ _ _ _ (by assumption) (by assumption) hT htl hl2
  · exact if_pos rfl
  · first | rfl | (simp (decide := true) only [reduceIte]; rfl)
end


noncomputable def tdPack : PSigma fun x : List Stmt × Scope => ∃ n a d r t ts bd ps, (PG.main.body[35]? : Option Stmt) = some (Stmt.FunctionDef n a x.1 d r t x.2 ts bd ps) := ⟨(_, _), _, _, _, _, _, _, _, _, rfl⟩
noncomputable abbrev tdEnv (L : Addr) : Env := envOf (Str.ofString "_law_told") tdPack.1.2 L 427 (.ref 426)
structure TdA (P : Params) (h₀ : Heap) (L : Addr) (W : List Str) (news : List (Addr × Obj)) (s s' : Shared) : Prop where
  ex : ∃ m' h' tk' lt e tl l r dr nd t1 t2 t3 tk2 od, s' = { s with heap := h', toks := tk' } ∧ Fr h₀ L h' m' ∧
    News h₀ L h' ((r, instObj 371 dr) :: (dr, rdO P t1 t2 t3 lt 0 tk2 nd) :: (nd, od) :: (lt, listOf (List.toArray (l.map fun k => Value.ref k.t)) e) :: (tl ++ news)) ∧ TokL P tl l W ∧
    (∀ q ∈ news, q.1 < lt) ∧ (∀ p ∈ tl, lt < p.1) ∧ (∀ p ∈ tl ++ news, p.1 < dr) ∧ lt < dr ∧ dr < r ∧ m' (Str.ofString "reader") = some (.ref r)
theorem td_end {P : Params} {h₀ h' : Heap} {L lt r dr nd : Addr} {W : List Str} {news tl : List (Addr × Obj)} {l : List Tk} {e tk' : Nat} {t1 t2 t3 tk2 : Tok} {od : Obj} {s : Shared} {m' : Str → Option Value} (F : Fr h₀ L h' m')
    (N : News h₀ L h' ((nd, od) :: (r, instObj 371 dr) :: (dr, rdO P t1 t2 t3 lt 0 tk2 nd) :: (lt, listOf (List.toArray (l.map fun k => Value.ref k.t)) e) :: (tl ++ news))) (hT : TokL P tl l W) (o1 : ∀ p ∈ tl, lt < p.1) (o2 : ∀ q ∈ news, q.1 < lt)
    (l1 : lt < dr ∧ AllLt dr (tl ++ news)) (l2 : dr < r) (hm : m' (Str.ofString "reader") = some (.ref r)) : TdA P h₀ L W news s { s with heap := h', toks := tk' } :=
  ⟨m', h', tk', lt, e, tl, l, r, dr, nd, t1, t2, t3, tk2, od, rfl, F, fun x hx => N x (by
    simp only [List.mem_cons] at hx ⊢
    rcases hx with q | q | q | q | q <;> simp [q]), hT, o2, o1, allLt_all _ l1.2, l1.1, l2, hm⟩

section
variable {w : World} {p : Program} {loose : List Str} {mean : ExcName → Option Value} {mg mb : Str → Option Value}
  {env : Env} {outer : List Env} {gd : Option (List Code)} {A₀ : Around} {base h₀ : Heap} {L : Addr} {m : Str → Option Value} {news : List (Addr × Obj)} {g : Obj → List (Addr × Obj)} {s : Shared} {Q E : Value → Shared → Prop}
  {D U : Nat} {r dr lt nd : Addr} {t1 t2 t3 tk ka : Tok} {q k : Int} {n : Nat} {l : List Tk}
local macro_rules | `(tactic| walk_at "call ref") => `(tactic| (goal_lacks GoM; refine stp ?_))

theorem td_a {lw : Addr} {vs : List Value} {e2 : Nat} {W : List Str} (B : Below A₀ base outer h₀) (F : Fr h₀ L s.heap m) (X : (kdef.heap_1 w.params).In h₀) (N : News h₀ L s.heap news)
  (T : Top p loose mean mg mb h₀) (hlw : (lw, listOf (List.toArray vs) e2) ∈ news)
  (hvs : vs.length = W.length) (hv : ∀ i (h : i < W.length), ∃ u, vs[i]? = some (.str W[i] u)) (hlen : W.length < 100) (hx : ∀ x ∈ W, 0 < x.length ∧ x.length ≤ 1000) (hm : m (Str.ofString "words") = some (.ref lw)) :
  wpAny (model PG w) (ctx 801 4003 (tdEnv L) outer gd) (execs (tdPack.1.1.take 1) (tdEnv L)) (fun f s' => f = .next ∧ TdA w.params h₀ L W news s s') E s := by
  simp only [tdPack, tdEnv, List.take_succ_cons, List.take_zero]
  (repeat' (first | (with_reducible refine unstp ?_; first | ((k_here; (with_reducible show wpAny _ _ (call (Value.ref 420) [_] []) _ _ _); k_dflt (refine' toks_c ?hD ?hU ?B ?F ?X ?N ?T ?hf ?hke ?hlw ?hvs ?hv ?hlen ?hx ?_; (case hD => exact Nat.le_of_ble_eq_true rfl); (case hU => exact Nat.le_of_ble_eq_true rfl); (case B => k_asm); (case F => k_asm); (case X => k_asm); (case N => k_asm); (case T => k_asm); (case hf => rfl); (case hke => rfl); (case hlw => assumption); (case hvs => assumption); (case hv => assumption); (case hlen => assumption); (case hx => assumption); k_whole); intro lt9z' e9z' tl9z' l9z' h9z' tk9z' F9z' N9z' hT9z' o19z' o29z'; (try dsimp only))) | (refine goM ?_; k_dflt walk1) | (k_dflt (dsimp only); refine stp ?_)) | (k_unfold; (first | with_reducible refine (?_ : wpAny _ _ _ _ _ _) | (try dsimp only))) | (k_end; wrow_close) | walk1 | (dsimp only; walk1) | (leave1; walk_say "STEP leave1"; try dsimp only) | fail "no step"))
  all_goals exact td_end (by assumption) (by assumption) (by assumption) (by assumption) (by assumption) (by assumption) (by assumption) (by (try dsimp only); first | assumption | rfl | (simp (decide := true) only [reduceIte]; done) | (simp (decide := true) only [reduceIte]; assumption))
end


noncomputable def Blk (P : Prop) : Prop := P
theorem blk {P : Prop} (h : Blk P) : P := h
inductive TdB (P : Params) (h₀ : Heap) (L r dr lt nd : Addr) (t1 t2 t3 : Tok) (news : List (Addr × Obj)) (low high : Int) (dep : Option (Str × List Str)) (ks : List (Bool × Str)) (ix : List Str) (q : Int) (s s' : Shared) : Prop
  | mk (m' : _) (h' : _) (tk' : _) (tk2 : _) (nw : _) (x : _) (v : _) (f1 : s' = { s with heap := h', toks := tk' }) (f2 : Fr h₀ L h' m') (f3 : News h₀ L h' ((r, instObj 371 dr) :: (dr, rdO P t1 t2 t3 lt q tk2 nd) :: nw)) (f4 : (∀ y ∈ news, y ∈ nw)) (f5 : DepV nw v dep) (f6 : OccIn P nw x low high v ks ix) (f7 : m' (Str.ofString "reader") = some (.ref r)) (f8 : m' (Str.ofString "found") = some (.ref x)) : TdB P h₀ L r dr lt nd t1 t2 t3 news low high dep ks ix q s s'

section
variable {w : World} {p : Program} {loose : List Str} {mean : ExcName → Option Value} {mg mb : Str → Option Value}
  {env : Env} {outer : List Env} {gd : Option (List Code)} {A₀ : Around} {base h₀ : Heap} {L : Addr} {m : Str → Option Value} {news : List (Addr × Obj)} {g : Obj → List (Addr × Obj)} {s : Shared} {Q E : Value → Shared → Prop}
  {D U : Nat} {r dr lt nd : Addr} {t1 t2 t3 tk ka : Tok} {q k : Int} {n : Nat} {l : List Tk}
local macro_rules | `(tactic| walk_at "call ref") => `(tactic| (goal_lacks GoM; refine stp ?_))

theorem td_b {low high qD : Int} {dep : Option (Str × List Str)} {ks : List (Bool × Str)} {ix : List Str} (B : Below A₀ base outer h₀) (X : (kdef.heap_1 w.params).In h₀) (F : Fr h₀ L s.heap m) (N : News h₀ L s.heap news) (T : Top p loose mean mg mb h₀) (hm : m (Str.ofString "reader") = some (.ref r))
  (hro : ∀ (Q' E' : Value → Shared → Prop),
    (∀ x v h' tk' tk2 nw, Fr h₀ L h' m → News h₀ L h' ((r, instObj 371 dr) :: (dr, rdO w.params t1 t2 t3 lt qD tk2 nd) :: nw) → (∀ y ∈ news, y ∈ nw) → DepV nw v dep → OccIn w.params nw x low high v ks ix → Q' (.ref x) { s with heap := h', toks := tk' }) →
    wpAny (model PG w) (ctx 801 4003 (tdEnv L) outer gd) (call (.ref 92) [.ref r]) Q' E' s) :
  wpAny (model PG w) (ctx 801 4003 (tdEnv L) outer gd) (execs ((tdPack.1.1.drop 1).take 1) (tdEnv L)) (fun f s' => f = .next ∧ TdB w.params h₀ L r dr lt nd t1 t2 t3 news low high dep ks ix qD s s') E s := by
  simp only [tdPack, tdEnv, List.take_succ_cons, List.take_zero, List.drop_succ_cons, List.drop_zero]
  (repeat' (first | (with_reducible refine unstp ?_; first | ((k_here; (with_reducible show wpAny _ _ (call (Value.ref 92) [_] []) _ _ _); refine blk ?_)) | (refine goM ?_; k_dflt walk1) | (k_dflt (dsimp only); refine stp ?_)) | (k_unfold; (first | with_reducible refine (?_ : wpAny _ _ _ _ _ _) | (try dsimp only))) | (k_end; wrow_close) | walk1 | (dsimp only; walk1) | (leave1; walk_say "STEP leave1"; try dsimp only) | fail "no step"))
  unfold Blk
  refine hro _ _ ?_
  intro x v h' tk' tk2 nw F' N' hs' hd' ho'
  (try dsimp only)
  (repeat' (first | (with_reducible refine unstp ?_; first | ((k_here; (with_reducible show wpAny _ _ (call (Value.ref 92) [_] []) _ _ _); refine blk ?_)) | (refine goM ?_; k_dflt walk1) | (k_dflt (dsimp only); refine stp ?_)) | (k_unfold; (first | with_reducible refine (?_ : wpAny _ _ _ _ _ _) | (try dsimp only))) | (k_end; wrow_close) | walk1 | (dsimp only; walk1) | (leave1; walk_say "STEP leave1"; try dsimp only) | fail "no step"))
  all_goals exact ⟨_, _, _, _, _, _, _, rfl, by k_asm, by k_asm, hs', hd', ho', (by (try dsimp only); first | assumption | rfl | (simp (decide := true) only [reduceIte]; done) | (simp (decide := true) only [reduceIte]; assumption)), (by (try dsimp only); first | assumption | rfl | (simp (decide := true) only [reduceIte]; done) | (simp (decide := true) only [reduceIte]; assumption))⟩
end


noncomputable def depD : Option (Str × List Str) → Dat
  | none => .none
  | some (x, qs) => .tuple [.str (Str.ofString "ref"), .str x, .tuple (qs.map .str), .tuple [], .none]
noncomputable def occD (low high : Int) (dep : Option (Str × List Str)) (ks : List (Bool × Str)) (ix : List Str) : Dat :=
  .tuple [.int low, .int high, depD dep, .tuple (ks.map fun p => .tuple [.bool p.1, .str p.2]), .tuple (ix.map .str)]
noncomputable def okRes (low high : Int) (dep : Option (Str × List Str)) (ks : List (Bool × Str)) (ix : List Str) (q : Int) : Dat := .tuple [occD low high dep ks ix, .int q]
theorem strsAll {nw : List (Addr × Obj)} : ∀ (xs : List Str) (us : List Tok), us.length = xs.length → DatAll nw ((xs.zip us).map fun p => Value.str p.1 p.2) (xs.map .str)
  | [], us, _ => by cases us <;> exact .nil
  | x :: xs, [], h => by simp at h
  | x :: xs, u :: us, h => .cons (.str x u) (strsAll xs us (by simpa using h))
theorem tupIn {nw : List (Addr × Obj)} {a : Addr} {vs : List Value} {ds : List Dat} (h : (a, tupO vs.toArray) ∈ nw) (hd : DatAll nw vs ds) : DatIn nw (.ref a) (.tuple ds) := .tuple (n := 0) h hd
theorem depIn {nw : List (Addr × Obj)} {v : Value} : ∀ {dep : Option (Str × List Str)}, DepV nw v dep → DatIn nw v (depD dep)
  | none, h => by rw [show v = .none from h]; exact .none
  | some (x, qs), ⟨D1, D2, D3, u1, u2, us, hu, e, m1, m2, m3⟩ => by
    rw [e]
    exact tupIn m1 (.cons (.str _ _) (.cons (.str _ _) (.cons (tupIn m2 (strsAll qs us hu)) (.cons (tupIn (vs := []) m3 .nil) (.cons .none .nil)))))
theorem keysAll {nw : List (Addr × Obj)} : ∀ (ys : List Value) (ks : List (Bool × Str)), KeysIn nw ys ks → DatAll nw ys (ks.map fun p => .tuple [.bool p.1, .str p.2])
  | [], [], _ => .nil
  | [], _ :: _, h => h.elim
  | _ :: _, [], h => h.elim
  | y :: ys, (b, x) :: ks, ⟨⟨T, u, e, m⟩, h⟩ => by
    rw [e]
    exact .cons (tupIn (vs := [_, _]) m (.cons (.bool b) (.cons (.str x u) .nil))) (keysAll ys ks h)
theorem keysSome {nw : List (Addr × Obj)} {D : Addr} {ys : List Value} {ks : List (Bool × Str)} (h : (D, tupO (List.toArray ys)) ∈ nw) (hk : KeysIn nw ys ks) : DatIn nw (.ref D) (.tuple (ks.map fun p => .tuple [.bool p.1, .str p.2])) := tupIn h (keysAll ys ks hk)
theorem strsIn {nw : List (Addr × Obj)} {Ix : Addr} {xs : List Str} (h : StrsIn nw Ix xs) : DatIn nw (.ref Ix) (.tuple (xs.map .str)) :=
  let ⟨us, hu, hm⟩ := h
  tupIn hm (strsAll xs us hu)
/-- what a told ends with -/
inductive TdRet (h₀ : Heap) (L : Addr) (news : List (Addr × Obj)) (d : Dat) (f : Flow) (s s' : Shared) : Prop
  | mk (a : _) (m' : _) (h' : _) (tk' : _) (nw : _) (f1 : f = .ret (.ref a)) (f2 : s' = { s with heap := h', toks := tk' }) (f3 : Fr h₀ L h' m') (f4 : News h₀ L h' nw) (f5 : (∀ y ∈ news, y ∈ nw)) (f6 : DatIn nw (.ref a) d) : TdRet h₀ L news d f s s'
theorem ret_end {h₀ h' : Heap} {L T1 T2 D Ix : Addr} {m' : Str → Option Value} {big nw : List (Addr × Obj)} {low high q : Int} {u1 u2 u3 : Tok} {v : Value} {dep : Option (Str × List Str)} {ks : List (Bool × Str)} {ix : List Str} {ys : List Value} {s : Shared} {tk' : Nat} (F : Fr h₀ L h' m')
    (N : News h₀ L h' ((T2, tupO #[.ref T1, .int q u3]) :: (T1, tupO #[.int low u1, .int high u2, v, .ref D, .ref Ix]) :: big)) (sub : ∀ y ∈ nw, y ∈ big)
    (hd : DepV nw v dep) (hD : (D, tupO (List.toArray ys)) ∈ nw) (hK : KeysIn nw ys ks) (hI : StrsIn nw Ix ix) : TdRet h₀ L nw (okRes low high dep ks ix q) (.ret (.ref T2)) s { s with heap := h', toks := tk' } := by
  have sub' : ∀ y ∈ nw, y ∈ (T2, tupO #[.ref T1, .int q u3]) :: (T1, tupO #[.int low u1, .int high u2, v, .ref D, .ref Ix]) :: big := fun y hy => .tail _ (.tail _ (sub y hy))
  refine ⟨T2, m', h', tk', _, rfl, rfl, F, N, sub', ?_⟩
  exact tupIn (vs := [_, _]) (.head _) (.cons (tupIn (vs := [_, _, _, _, _]) (.tail _ (.head _)) (.cons (.int low u1) (.cons (.int high u2) (.cons ((depIn hd).mono sub') (.cons ((keysSome hD hK).mono sub') (.cons ((strsIn hI).mono sub') .nil)))))) (.cons (.int q u3) .nil))
theorem td_end2 {h₀ : Heap} {L : Addr} {news nw : List (Addr × Obj)} {d : Dat} {f : Flow} {s s' : Shared} (h : ∀ y ∈ news, y ∈ nw) (x : TdRet h₀ L nw d f s s') : TdRet h₀ L news d f s s' := by
  obtain ⟨a, m', h', tk', n2, rfl, rfl, F, N, sub, hd⟩ := x
  exact ⟨a, m', h', tk', n2, rfl, rfl, F, N, fun y hy => sub y (h y hy), hd⟩
theorem sub2 {a b : Addr × Obj} {nw : List (Addr × Obj)} : ∀ y ∈ nw, y ∈ a :: b :: nw := fun _ h => .tail _ (.tail _ h)

section
variable {w : World} {p : Program} {loose : List Str} {mean : ExcName → Option Value} {mg mb : Str → Option Value}
  {env : Env} {outer : List Env} {gd : Option (List Code)} {A₀ : Around} {base h₀ : Heap} {L : Addr} {m : Str → Option Value} {news : List (Addr × Obj)} {g : Obj → List (Addr × Obj)} {s : Shared} {Q E : Value → Shared → Prop}
  {D U : Nat} {r dr lt nd : Addr} {t1 t2 t3 tk ka : Tok} {q k : Int} {n : Nat} {l : List Tk}
local macro_rules | `(tactic| k_mem) => `(tactic| walk_at "own:m2")
local macro_rules | `(tactic| k_handed) => `(tactic| assumption)

theorem td_c {low high qD : Int} {dep : Option (Str × List Str)} {ks : List (Bool × Str)} {ix : List Str} {s₀ : Shared} (B : Below A₀ base outer h₀) (X : (kdef.heap_1 w.params).In h₀) (T : Top p loose mean mg mb h₀)
  (hs : TdB w.params h₀ L r dr lt nd t1 t2 t3 news low high dep ks ix qD s₀ s) :
  wpAny (model PG w) (ctx 801 4003 (tdEnv L) outer gd) (execs (tdPack.1.1.drop 2) (tdEnv L)) (fun f s' => TdRet h₀ L news (okRes low high dep ks ix qD) f s₀ s') E s := by
  obtain ⟨m, h, tk', tk2, nw, x, v, rfl, F, N, hs1, hd, ⟨d, D, Ix, ys, a1, a2, a3, a4, a5, u1, u2, o1, o2, o3, hK, hI⟩, hm, hm1⟩ := hs
  have hv9 : handedIn v = true := (depIn hd).handed
  simp only [tdPack, tdEnv, List.drop_succ_cons, List.drop_zero]
  (repeat' (first | (with_reducible refine unstp ?_; first | (refine goM ?_; k_dflt walk1) | (k_dflt (dsimp only); refine stp ?_)) | (k_unfold; (first | with_reducible refine (?_ : wpAny _ _ _ _ _ _) | (try dsimp only))) | (k_end; wrow_close) | walk1 | (dsimp only; walk1) | (leave1; walk_say "STEP leave1"; try dsimp only) | fail "no step"))
  all_goals first | exact td_end2 hs1 (ret_end (by k_asm) (by k_asm) sub2 hd o3 hK hI)
end


theorem mro143 (P : Params) : mroIn (kdef.heap_1 P) 143 (.type "BaseException") = some true := by kernel_rfl
theorem hd143 (P : Params) : hasDictIn (kdef.heap_1 P) 143 = true := by kernel_rfl
theorem at143 (P : Params) : findIn (kdef.heap_1 P) (.ref 143) "at" = some none := by kernel_rfl
theorem ga143 (P : Params) : findIn (kdef.heap_1 P) (.ref 143) "__getattribute__" = some (some (.builtin "BaseException.__getattribute__")) := by kernel_rfl
theorem gt143 (P : Params) : findIn (kdef.heap_1 P) (.ref 143) "__getattr__" = some none := by kernel_rfl
theorem base143 (P : Params) : ktsIn (kdef.heap_1 P) 143 "BaseException" = true := by kernel_rfl
noncomputable def errD (i : Int) : Dat := .tuple [.str (Str.ofString "wrong"), .int i]
theorem err_in {D : Addr} {u1 u2 : Tok} {i : Int} {nw : List (Addr × Obj)} : DatIn ((D, ({ cls := .type "tuple", data := .seq #[.str (Str.ofString "wrong") u1, .int i u2] } : Obj)) :: nw) (.ref D) (errD i) :=
  tupIn (vs := [_, _]) (.head _) (.cons (.str _ _) (.cons (.int _ _) .nil))
theorem sub_e {a b c d : Addr × Obj} {rest : List (Addr × Obj)} : ∀ y ∈ rest, y ∈ a :: b :: ([c] ++ d :: rest) := fun _ h => .tail _ (.tail _ (.tail _ (.tail _ h)))
theorem ns143 (P : Params) : nsIn (kdef.heap_1 P) mainGlobals (Str.ofString "GrammarFault") = some (some (.ref 143)) := by kernel_rfl

section
variable {w : World} {p : Program} {loose : List Str} {mean : ExcName → Option Value} {mg mb : Str → Option Value}
  {env : Env} {outer : List Env} {gd : Option (List Code)} {A₀ : Around} {base h₀ : Heap} {L : Addr} {m : Str → Option Value} {news : List (Addr × Obj)} {g : Obj → List (Addr × Obj)} {s : Shared} {Q E : Value → Shared → Prop}
  {D U : Nat} {r dr lt nd : Addr} {t1 t2 t3 tk ka : Tok} {q k : Int} {n : Nat} {l : List Tk}
local macro_rules | `(tactic| walk_at "call ref") => `(tactic| (goal_lacks GoM; refine stp ?_))
local macro_rules | `(tactic| walk_at "getAttr ref") => `(tactic| (goal_lacks GoM; refine stp ?_))

theorem td_e {Q : Flow → Shared → Prop} {envl : Env} {rest all : List (Addr × Obj)} {k' : Tk} (B : Below (ctx 800 4000 envl [] gd) base [envl] h₀) (X : (kdef.heap_1 w.params).In h₀) (F : Fr h₀ L s.heap m) (N : News h₀ L s.heap all) (T : Top p loose mean mg mb h₀) (hm : m (Str.ofString "reader") = some (.ref r))
  (XB : (kdef.heap_1 w.params).In base) (TB9 : Top p loose mean mg mb base) (hpos : (k'.pos, tupO #[.int k'.line k'.k3, .int 12 k'.k4]) ∈ all) (hoff : k'.pos ∉ ((r, instObj 371 dr) :: (dr, rdO w.params t1 t2 t3 lt q tk nd) :: rest).map (·.1)) (hl0 : -1000 ≤ k'.line) (hl1 : k'.line < 1000)
  (hro : ∀ (Q' E' : Value → Shared → Prop),
    (∀ G h' tk' e d a1 a2 wh kw, (∀ b o, s.heap.get? b = some o → b ∉ ((r, instObj 371 dr) :: (dr, rdO w.params t1 t2 t3 lt q tk nd) :: rest).map (·.1) → G.get? b = some o) → Fr h₀ L G m → Rz base G (tdEnv L :: [envl]) e d 143 ((d, excD w.params a1 a2 wh kw k'.pos) :: rest) h' → G.UpToSlots h' → E' (.ref e) { s with heap := h', toks := tk' }) →
    wpAny (model PG w) (ctx 801 4003 (tdEnv L) [envl] gd) (call (.ref 92) [.ref r]) Q' E' s)
  (hQ : ∀ a g' m' h' tk' nw, KtsTurn ([envl].filterMap (·.frame)) h₀ g' → Fr g' L h' m' → News g' L h' nw → (∀ y ∈ rest, y ∈ nw) → DatIn nw (.ref a) (errD (k'.line - 1)) → Q (.ret (.ref a)) { s with heap := h', toks := tk' }) :
  wpAny (model PG w) (ctx 801 4003 (tdEnv L) [envl] gd) (execs ((tdPack.1.1.drop 1).take 1) (tdEnv L)) Q E s := by
  simp only [tdPack, tdEnv, List.take_succ_cons, List.take_zero, List.drop_succ_cons, List.drop_zero]
  (repeat' (first | (with_reducible refine unstp ?_; first | ((k_here; k_dflt (refine' xgetK (C := 143) ?F ?X ?N ?he ?hde ?hcls ?hdict ?hnc ?h1 ?h2 ?h3 ?h4 ?h5 ?h6 ?h7 ?_; (case F => k_asm); (case X => k_asm); (case N => k_asm); (case hcls => assumption); (case hdict => assumption); (case hnc => assumption); (case he => exact .head _); (case hde => exact .tail _ (.tail _ (.head _))); (case h1 => exact mro143 _); (case h2 => exact hd143 _); (case h3 => exact at143 _); (case h4 => k_get); (case h5 => exact ga143 _); (case h6 => exact gt143 _); (case h7 => k_handed); k_whole))) | ((k_here; (with_reducible show wpAny _ _ (call (Value.ref 92) [_] []) _ _ _); refine blk ?_)) | (refine goM ?_; k_dflt walk1) | (k_dflt (dsimp only); refine stp ?_)) | (k_unfold; (first | with_reducible refine (?_ : wpAny _ _ _ _ _ _) | (try dsimp only))) | (k_end; wrow_close) | walk1 | (dsimp only; walk1) | (leave1; walk_say "STEP leave1"; try dsimp only) | fail "no step"))
  unfold Blk
  refine hro _ _ ?_
  intro G h' tk' e d a1 a2 wh kw HK FG R U
  refine rz_caught (more := [(k'.pos, tupO #[.int k'.line k'.k3, .int 12 k'.k4])]) R FG B U XB TB9 ?_ (ns143 _) (base143 _) ?_
  · intro q hq
    obtain rfl := List.mem_singleton.mp hq
    have z := N _ hpos
    refine ⟨HK _ _ z.1 hoff, z.2.2, fun hm => ?_⟩
    rcases kts_mem hm with q | q
    · exact z.2.1 q
    · obtain ⟨o, ho, _⟩ := (B.frames.mem q).2
      rw [z.2.2] at ho; cases ho
  · intro h2 g2 oe tk2 TT F2 hcls hdict hnc N2 B2 X2 T2
    (repeat' (first | (with_reducible refine unstp ?_; first | ((k_here; k_dflt (refine' xgetK (C := 143) ?F ?X ?N ?he ?hde ?hcls ?hdict ?hnc ?h1 ?h2 ?h3 ?h4 ?h5 ?h6 ?h7 ?_; (case F => k_asm); (case X => k_asm); (case N => k_asm); (case hcls => assumption); (case hdict => assumption); (case hnc => assumption); (case he => exact .head _); (case hde => exact .tail _ (.tail _ (.head _))); (case h1 => exact mro143 _); (case h2 => exact hd143 _); (case h3 => exact at143 _); (case h4 => k_get); (case h5 => exact ga143 _); (case h6 => exact gt143 _); (case h7 => k_handed); k_whole))) | ((k_here; (with_reducible show wpAny _ _ (call (Value.ref 92) [_] []) _ _ _); refine blk ?_)) | (refine goM ?_; k_dflt walk1) | (k_dflt (dsimp only); refine stp ?_)) | (k_unfold; (first | with_reducible refine (?_ : wpAny _ _ _ _ _ _) | (try dsimp only))) | (k_end; wrow_close) | walk1 | (dsimp only; walk1) | (leave1; walk_say "STEP leave1"; try dsimp only) | fail "no step"))
    exact hQ _ _ _ _ _ _ TT (by assumption) (by assumption) sub_e (err_in)
end


theorem tb_of {P : Params} {h₀ h g : Heap} {L lt r dr nd : Addr} {news tl : List (Addr × Obj)} {l : List Tk} {W : List Str} {e : Nat} {o1 o2 od : Obj}
    (N : News h₀ L h ((r, o1) :: (dr, o2) :: (nd, od) :: (lt, listOf (List.toArray (l.map fun k => Value.ref k.t)) e) :: (tl ++ news))) (hT : TokL P tl l W) (f1 : ∀ q ∈ news, q.1 < lt) (f2 : ∀ p ∈ tl, lt < p.1) (f3 : ∀ p ∈ tl ++ news, p.1 < dr) (f4 : lt < dr) (f5 : dr < r)
    (hlen : W.length < 100) (hx : ∀ x ∈ W, 0 < x.length ∧ x.length ≤ 1000) (keep : ∀ b o, h.get? b = some o → b ∉ ((r, o1) :: (dr, o2) :: news).map (·.1) → g.get? b = some o) : TB P g lt l ∧ ∀ k ∈ l, k.pos ∉ ((r, o1) :: (dr, o2) :: news).map (·.1) := by
  have offl : lt ∉ ((r, o1) :: (dr, o2) :: news).map (·.1) := by
    intro hm
    simp only [List.map_cons, List.mem_cons, List.mem_map] at hm
    rcases hm with q | q | ⟨p, hp, q⟩
    · exact absurd (Nat.lt_trans f4 f5) (q ▸ Nat.lt_irrefl _)
    · exact absurd f4 (q ▸ Nat.lt_irrefl _)
    · exact absurd (f1 p hp) (q ▸ Nat.lt_irrefl _)
  have offt : ∀ p ∈ tl, p.1 ∉ ((r, o1) :: (dr, o2) :: news).map (·.1) := by
    intro p hp hm
    simp only [List.map_cons, List.mem_cons, List.mem_map] at hm
    have h3 := f3 p (List.mem_append_left _ hp)
    have h2 := f2 p hp
    rcases hm with q | q | ⟨p', hp', q⟩
    · exact absurd (Nat.lt_trans h3 f5) (q ▸ Nat.lt_irrefl _)
    · exact absurd h3 (q ▸ Nat.lt_irrefl _)
    · exact absurd (Nat.lt_trans (f1 p' hp') h2) (q ▸ Nat.lt_irrefl _)
  have G : ∀ p ∈ tl, g.get? p.1 = some p.2 := fun p hp => keep _ _ (N p (.tail _ (.tail _ (.tail _ (.tail _ (List.mem_append_left _ hp)))))).1 (offt p hp)
  have hll : l.length = W.length := by have := congrArg List.length hT.words; simpa using this
  refine ⟨⟨⟨_, keep _ _ (N (lt, listOf (List.toArray (l.map fun k => Value.ref k.t)) e) (.tail _ (.tail _ (.tail _ (.head _))))).1 offl, rfl, e, rfl⟩, fun k hk => ?_, by omega, fun k hk => ?_⟩, fun k hk => offt _ (hT.at_ k hk).2.2⟩
  · obtain ⟨a, b, c⟩ := hT.at_ k hk
    exact ⟨G _ a, G _ b, ⟨_, G _ c, rfl, 0, rfl⟩⟩
  · have : (k.kind, k.x) ∈ W.map fun x => (kw x, x) := by rw [← hT.words]; exact List.mem_map_of_mem hk
    obtain ⟨x, hx1, hx2⟩ := List.mem_map.mp this
    rw [← (Prod.mk.inj hx2).2]
    exact (hx x hx1).2
noncomputable abbrev Like (l : List Tk) (W : List Str) : Prop := l.map (fun k => (k.kind, k.x)) = W.map fun x => (kw x, x)
/-- the words parse -/
noncomputable def RoOk (W : List Str) (low high : Int) (dep : Option (Str × List Str)) (gs : List (List (Bool × Str))) (ix : List Str) (qD : Int) : Prop :=
  ∀ l : List Tk, Like l W → ∃ qA qB qC, SegA l 0 low high qA ∧ SegB l qA dep qB ∧ Grps l qB gs qC ∧ SegD l qC ix qD ∧ (0 ≤ qA ∧ qA < 9100) ∧ (0 ≤ qB ∧ qB < 9100) ∧ (0 ≤ qC ∧ qC < 9200) ∧ (0 ≤ qD ∧ qD < 9200)
/-- the words fail at the token i -/
noncomputable def RoF1 (W : List Str) : Prop := ∀ l : List Tk, Like l W → ∃ k', tokAt l (0 + 0) = some k' ∧ (isKind l (0 + 0) "number" = false ∨ (isKind l (0 + 0) "number" = true ∧ k'.x = Str.ofString "1.5"))
noncomputable def RoF2 (W : List Str) : Prop := ∀ l : List Tk, Like l W → ∃ low k', NumAt l 0 low ∧ isWord l (0 + 1 + 0) "TO" = true ∧ tokAt l (0 + 1 + 1 + 0) = some k' ∧ isKind l (0 + 1 + 1 + 0) "number" = false
theorem like_len {l : List Tk} {W : List Str} (h : Like l W) : l.length = W.length := by have := congrArg List.length h; simpa using this
noncomputable abbrev TdGive (h₀ : Heap) (L : Addr) (m : Str → Option Value) (news : List (Addr × Obj)) (d : Dat) (s : Shared) (Q : Value → Shared → Prop) : Prop :=
  ∀ a h' tk' nw, Fr h₀ L h' m → News h₀ L h' nw → (∀ y ∈ news, y ∈ nw) → DatIn nw (.ref a) d → Q (.ref a) { s with heap := h', toks := tk' }
theorem lvS_ok {h₀ g : Heap} {L L' : Addr} {m m' : Str → Option Value} {nw news : List (Addr × Obj)} {d : Dat} {a : Addr} {h' : Heap} {tk' : Nat} {s : Shared} {Q : Value → Shared → Prop} {E : Value → Shared → Prop} {g' : Heap} (TT : KtsTurn [L] g g') (F : Fr g' L' h' m') (N : News g' L' h' nw) (sub : ∀ y ∈ news, y ∈ nw) (hd : DatIn nw (.ref a) d) (ret : TdGive h₀ L m news d s Q) :
    LvS h₀ L m g (fun r s' => match r with | .ok (.ret v) => Q v s' | .ok _ => False | .error e => E e s') (.ref a) { s with heap := h', toks := tk' } :=
  ⟨g', L', m', nw, TT, F, N, fun F2 N2 => ret a h' tk' nw F2 N2 sub hd⟩

section
variable {w : World} {p : Program} {loose : List Str} {mean : ExcName → Option Value} {mg mb : Str → Option Value}
  {env : Env} {outer : List Env} {gd : Option (List Code)} {A₀ : Around} {base h₀ : Heap} {L : Addr} {m : Str → Option Value} {news : List (Addr × Obj)} {g : Obj → List (Addr × Obj)} {s : Shared} {Q E : Value → Shared → Prop}
  {D U : Nat} {r dr lt nd : Addr} {t1 t2 t3 tk ka : Tok} {q k : Int} {n : Nat} {l : List Tk}

theorem told_enter {envl : Env} {lw : Addr} {vs : List Value} {e2 : Nat} {W : List Str} (hDD : D ≤ 800) (hU : U ≤ 4000) (B : Below A₀ base [] h₀) (F : Fr h₀ L s.heap m) (X : (kdef.heap_1 w.params).In h₀) (N : News h₀ L s.heap news) (T : Top p loose mean mg mb h₀) (hf : envl.frame = some L) (hke : envl.scope.kind = .function)
  (XB : (kdef.heap_1 w.params).In base) (TB9 : Top p loose mean mg mb base) (hlw : (lw, listOf (List.toArray vs) e2) ∈ news)
  (hvs : vs.length = W.length) (hv : ∀ i (h : i < W.length), ∃ u, vs[i]? = some (.str W[i] u)) (hlen : W.length < 100) (hx : ∀ x ∈ W, 0 < x.length ∧ x.length ≤ 1000)
  (body : ∀ g L' h₁ tk' m' , Fr h₀ L g m → Fr g L' h₁ m' → News g L' h₁ news → Below (ctx 800 4000 envl [] gd) base [envl] g → (kdef.heap_1 w.params).In g → Top p loose mean mg mb g → m' (Str.ofString "words") = some (.ref lw) →
    wpAny (model PG w) (ctx 801 4003 (tdEnv L') [envl] gd) (execs tdPack.1.1 (tdEnv L')) (fun fl s' => LvS h₀ L m g (fun r s' => match r with | .ok (.ret v) => Q v s' | .ok _ => False | .error e => E e s') (match fl with | .ret v => v | _ => .none) s')
      (fun e s' => wpAny (model PG w) ((ctx 800 4000 envl [] gd).deeper (tdEnv L')) (leaving (tdEnv L') e) (fun _ s'' => E e s'') (fun e' s'' => E e' s'') s') { s with heap := h₁, toks := tk' }) :
  wpAny (model PG w) (ctx D U envl [] gd) (call (.ref 427) [.ref lw]) Q E s := by
  refine ctx_mono hDD hU ?_
  refine wpAny_call ?_
  (refine' enterS ?k1 ?k2 ?k3 ?k4 ?k5 ?kA ?kF ?kK ?k6 ?k7 ?k8 ?k9 ?kB ?_ ?c2 ?c3 ?c4 ?c5; (case kA => exact rfl); (case kF => first | exact rfl | assumption); (case kK => first | exact rfl | assumption); (case k1 => k_asm); (case k2 => k_asm); (case k3 => k_asm); (case k4 => k_asm); (case k5 => k_asm); (case k6 => k_is); (case k7 => k_is); (case k8 => k_room); (case k9 => first | exact BindsTo.of_eq rfl | exact binds_K (by k_in) rfl (by k_is) rfl rfl rfl); (case c5 => decide); (case kB => exact locs rfl); (case c2 => exact rfl); (case c3 => exact rfl); (case c4 => exact rfl); k_whole)
  intro g L' h₁ FG F' N' B' X' T' l1
  exact body g L' h₁ _ _ FG F' N' B' X' T' rfl
end


theorem execs_ret {M : Model} {A : Around} {E : Value → Shared → Prop} {env : Env} {Q : Flow → Shared → Prop} {a b : List Stmt} {s : Shared}
    (h1 : wpAny M A (execs a env) (fun f s' => match f with | .next => False | f => Q f s') E s) : wpAny M A (execs (a ++ b) env) Q E s := by
  intro Γ p hΓ
  rw [execs_wp]
  refine Sem.wp_mono M Γ _ (fun f p' s' h => ?_) (fun _ _ _ q => q) _ _ (h1 Γ p hΓ)
  cases f <;> first | exact h.elim | exact h
theorem tok_line {P : Params} {tl : List (Addr × Obj)} {l : List Tk} {W : List Str} {q : Int} {k : Tk} (hT : TokL P tl l W) (h0 : 0 ≤ q) (ho : tokAt l (q + 0) = some k) : k.line - 1 = q ∧ k ∈ l ∧ q < W.length := by
  have h1 := hT.line _ _ ho
  have h2 := (List.getElem?_eq_some_iff.mp ho).1
  have h3 := like_len hT.words
  refine ⟨?_, List.mem_of_getElem? ho, ?_⟩
  · rw [h1]; omega
  · omega
theorem tok_there {l : List Tk} {W : List Str} {q : Int} (hL : Like l W) (h0 : 0 ≤ q) (h1 : q < W.length) : ∃ k, tokAt l (q + 0) = some k := by
  have h3 := like_len hL
  have : (q + 0).toNat < l.length := by omega
  exact ⟨l[(q + 0).toNat], by unfold tokAt; exact List.getElem?_eq_getElem this⟩

section
variable {w : World} {p : Program} {loose : List Str} {mean : ExcName → Option Value} {mg mb : Str → Option Value}
  {env : Env} {outer : List Env} {gd : Option (List Code)} {A₀ : Around} {base h₀ : Heap} {L : Addr} {m : Str → Option Value} {news : List (Addr × Obj)} {g : Obj → List (Addr × Obj)} {s : Shared} {Q E : Value → Shared → Prop}
  {D U : Nat} {r dr lt nd : Addr} {t1 t2 t3 tk ka : Tok} {q k : Int} {n : Nat} {l : List Tk}

theorem told_ok {low high qD : Int} {dep : Option (Str × List Str)} {gs : List (List (Bool × Str))} {ix : List Str} {envl : Env} {lw : Addr} {vs : List Value} {e2 : Nat} {W : List Str} (hDD : D ≤ 800) (hU : U ≤ 4000) (B : Below A₀ base [] h₀) (F : Fr h₀ L s.heap m) (X : (kdef.heap_1 w.params).In h₀) (N : News h₀ L s.heap news) (T : Top p loose mean mg mb h₀) (hf : envl.frame = some L) (hke : envl.scope.kind = .function)
  (XB : (kdef.heap_1 w.params).In base) (TB9 : Top p loose mean mg mb base) (hlw : (lw, listOf (List.toArray vs) e2) ∈ news)
  (hvs : vs.length = W.length) (hv : ∀ i (h : i < W.length), ∃ u, vs[i]? = some (.str W[i] u)) (hlen : W.length < 100) (hx : ∀ x ∈ W, 0 < x.length ∧ x.length ≤ 1000) (hok : RoOk W low high dep gs ix qD) (hks : gs.flatten.length < 100) (hh : ¬ high < low) (hh0 : high ≠ 0) (heq : dep = none → high = low)
  (ret : TdGive h₀ L m news (okRes low high dep gs.flatten ix qD) s Q) :
  wpAny (model PG w) (ctx D U envl [] gd) (call (.ref 427) [.ref lw]) Q E s := by
  refine told_enter hDD hU B F X N T hf hke XB TB9 hlw hvs hv hlen hx ?_
  intro g L' h₁ tk' m' FG F' N' B' X' T' hm
  have e : tdPack.1.1 = tdPack.1.1.take 1 ++ ((tdPack.1.1.drop 1).take 1 ++ tdPack.1.1.drop 2) := rfl
  rw [e]
  refine execs_cut (td_a B' F' X' N' T' hlw hvs hv hlen hx hm) fun s1 hs1 => ?_
  obtain ⟨m1, h1, tk1, lt, e1, tl, l, r, dr, nd, t1, t2, t3, tk2, od, rfl, F1, N1, hT, f1, f2, f3, f4, f5, hm1⟩ := hs1.ex
  have hN2 : News g L' h1 ((r, instObj 371 dr) :: (dr, rdO w.params t1 t2 t3 lt 0 tk2 nd) :: news) := fun y hy => N1 y (by
    simp only [List.mem_cons, List.mem_append] at hy ⊢
    rcases hy with q | q | q <;> simp [q])
  have tbl : ∀ g2, (∀ b o, h1.get? b = some o → b ∉ ((r, instObj 371 dr) :: (dr, rdO w.params t1 t2 t3 lt 0 tk2 nd) :: news).map (·.1) → g2.get? b = some o) → TB w.params g2 lt l := fun g2 k => (tb_of N1 hT f1 f2 f3 f4 f5 hlen hx k).1
  have offp : ∀ k ∈ l, k.pos ∉ ((r, instObj 371 dr) :: (dr, rdO w.params t1 t2 t3 lt 0 tk2 nd) :: news).map (·.1) := (tb_of N1 hT f1 f2 f3 f4 f5 hlen hx (g := h1) (fun _ _ e _ => e)).2
  have hrest : ∀ q ∈ news, q.1 ≠ dr := fun q hq => Nat.ne_of_lt (f3 q (List.mem_append_right _ hq))
  have hne : r ≠ dr := Nat.ne_of_gt f5
  obtain ⟨qA, qB, qC, hA, hB, hG, hD, ⟨a0, a2⟩, ⟨b0, b2⟩, ⟨c0, c2⟩, ⟨d0, d2⟩⟩ := hok l hT.words
  refine execs_cut (td_b (news := news) (low := low) (high := high) (dep := dep) (ks := gs.flatten) (ix := ix) (qD := qD) B' X' F1 (fun y hy => hN2 y (.tail _ (.tail _ hy))) T' hm1 (fun Q' E' rt => ro_ok (D := 801) (U := 4003) (env := tdEnv L') (outer := [envl]) (by decide) (by decide) B' F1 X' hN2 T' rfl rfl hrest hne tbl (by decide) (by decide) hA hB hG hks hD hh hh0 heq a0 a2 b0 b2 c0 c2 d0 d2 rt)) fun s2 hs2 => ?_
  refine wpAny_mono (td_c B' X' T' hs2) (fun f s' hr => ?_) (fun _ _ y => y)
  obtain ⟨a, m3, h3, tk3, nw, rfl, rfl, F3, N3, sub, hd⟩ := hr
  exact lvS_ok KtsTurn.refl F3 N3 sub hd ret
theorem told_fe {low high qD : Int} {dep : Option (Str × List Str)} {gs : List (List (Bool × Str))} {ix : List Str} {envl : Env} {lw : Addr} {vs : List Value} {e2 : Nat} {W : List Str} (hDD : D ≤ 800) (hU : U ≤ 4000) (B : Below A₀ base [] h₀) (F : Fr h₀ L s.heap m) (X : (kdef.heap_1 w.params).In h₀) (N : News h₀ L s.heap news) (T : Top p loose mean mg mb h₀) (hf : envl.frame = some L) (hke : envl.scope.kind = .function)
  (XB : (kdef.heap_1 w.params).In base) (TB9 : Top p loose mean mg mb base) (hlw : (lw, listOf (List.toArray vs) e2) ∈ news)
  (hvs : vs.length = W.length) (hv : ∀ i (h : i < W.length), ∃ u, vs[i]? = some (.str W[i] u)) (hlen : W.length < 100) (hx : ∀ x ∈ W, 0 < x.length ∧ x.length ≤ 1000) (hok : RoOk W low high dep gs ix qD) (hks : gs.flatten.length < 100) (hw : high < low ∨ high = 0 ∨ (dep = none ∧ high ≠ low)) (hq : qD < W.length)
  (ret : TdGive h₀ L m news (errD qD) s Q) :
  wpAny (model PG w) (ctx D U envl [] gd) (call (.ref 427) [.ref lw]) Q E s := by
  refine told_enter hDD hU B F X N T hf hke XB TB9 hlw hvs hv hlen hx ?_
  intro g L' h₁ tk' m' FG F' N' B' X' T' hm
  have e : tdPack.1.1 = tdPack.1.1.take 1 ++ ((tdPack.1.1.drop 1).take 1 ++ tdPack.1.1.drop 2) := rfl
  rw [e]
  refine execs_cut (td_a B' F' X' N' T' hlw hvs hv hlen hx hm) fun s1 hs1 => ?_
  obtain ⟨m1, h1, tk1, lt, e1, tl, l, r, dr, nd, t1, t2, t3, tk2, od, rfl, F1, N1, hT, f1, f2, f3, f4, f5, hm1⟩ := hs1.ex
  have hN2 : News g L' h1 ((r, instObj 371 dr) :: (dr, rdO w.params t1 t2 t3 lt 0 tk2 nd) :: news) := fun y hy => N1 y (by
    simp only [List.mem_cons, List.mem_append] at hy ⊢
    rcases hy with q | q | q <;> simp [q])
  have tbl : ∀ g2, (∀ b o, h1.get? b = some o → b ∉ ((r, instObj 371 dr) :: (dr, rdO w.params t1 t2 t3 lt 0 tk2 nd) :: news).map (·.1) → g2.get? b = some o) → TB w.params g2 lt l := fun g2 k => (tb_of N1 hT f1 f2 f3 f4 f5 hlen hx k).1
  have offp : ∀ k ∈ l, k.pos ∉ ((r, instObj 371 dr) :: (dr, rdO w.params t1 t2 t3 lt 0 tk2 nd) :: news).map (·.1) := (tb_of N1 hT f1 f2 f3 f4 f5 hlen hx (g := h1) (fun _ _ e _ => e)).2
  have hrest : ∀ q ∈ news, q.1 ≠ dr := fun q hq => Nat.ne_of_lt (f3 q (List.mem_append_right _ hq))
  have hne : r ≠ dr := Nat.ne_of_gt f5
  obtain ⟨qA, qB, qC, hA, hB, hG, hD, ⟨a0, a2⟩, ⟨b0, b2⟩, ⟨c0, c2⟩, ⟨d0, d2⟩⟩ := hok l hT.words
  obtain ⟨k', ho⟩ := tok_there hT.words d0 hq
  have hkl := (List.getElem?_eq_some_iff.mp ho).1
  obtain ⟨ln, hk, hlt⟩ := tok_line hT d0 ho
  have hpos := (hT.at_ _ hk).2.2
  have fe : [envl].filterMap (·.frame) = [L] := by simp [hf]
  refine execs_ret (td_e (k' := k') (q := 0) B' X' F1 N1 T' hm1 XB TB9 (.tail _ (.tail _ (.tail _ (.tail _ (List.mem_append_left _ hpos))))) (offp _ hk) (by omega) (by omega) (fun Q' E' err => ro_fe (D := 801) (U := 4003) (env := tdEnv L') (outer := [envl]) (by decide) (by decide) B' F1 X' hN2 T' rfl rfl hrest hne tbl (by decide) (by decide) hA hB hG hks hD hw ho a0 a2 b0 b2 c0 c2 d0 d2 err) ?_)
  intro a g' m3 h3 tk3 nw TT F3 N3 sub hd
  rw [fe] at TT
  rw [ln] at hd
  exact lvS_ok TT F3 N3 sub hd ret

theorem told_f1 {envl : Env} {lw : Addr} {vs : List Value} {e2 : Nat} {W : List Str} (hDD : D ≤ 800) (hU : U ≤ 4000) (B : Below A₀ base [] h₀) (F : Fr h₀ L s.heap m) (X : (kdef.heap_1 w.params).In h₀) (N : News h₀ L s.heap news) (T : Top p loose mean mg mb h₀) (hf : envl.frame = some L) (hke : envl.scope.kind = .function)
  (XB : (kdef.heap_1 w.params).In base) (TB9 : Top p loose mean mg mb base) (hlw : (lw, listOf (List.toArray vs) e2) ∈ news)
  (hvs : vs.length = W.length) (hv : ∀ i (h : i < W.length), ∃ u, vs[i]? = some (.str W[i] u)) (hlen : W.length < 100) (hx : ∀ x ∈ W, 0 < x.length ∧ x.length ≤ 1000) (hf1 : RoF1 W) (ret : TdGive h₀ L m news (errD 0) s Q) :
  wpAny (model PG w) (ctx D U envl [] gd) (call (.ref 427) [.ref lw]) Q E s := by
  refine told_enter hDD hU B F X N T hf hke XB TB9 hlw hvs hv hlen hx ?_
  intro g L' h₁ tk' m' FG F' N' B' X' T' hm
  have e : tdPack.1.1 = tdPack.1.1.take 1 ++ ((tdPack.1.1.drop 1).take 1 ++ tdPack.1.1.drop 2) := rfl
  rw [e]
  refine execs_cut (td_a B' F' X' N' T' hlw hvs hv hlen hx hm) fun s1 hs1 => ?_
  obtain ⟨m1, h1, tk1, lt, e1, tl, l, r, dr, nd, t1, t2, t3, tk2, od, rfl, F1, N1, hT, f1, f2, f3, f4, f5, hm1⟩ := hs1.ex
  have hN2 : News g L' h1 ((r, instObj 371 dr) :: (dr, rdO w.params t1 t2 t3 lt 0 tk2 nd) :: news) := fun y hy => N1 y (by
    simp only [List.mem_cons, List.mem_append] at hy ⊢
    rcases hy with q | q | q <;> simp [q])
  have tbl : ∀ g2, (∀ b o, h1.get? b = some o → b ∉ ((r, instObj 371 dr) :: (dr, rdO w.params t1 t2 t3 lt 0 tk2 nd) :: news).map (·.1) → g2.get? b = some o) → TB w.params g2 lt l := fun g2 k => (tb_of N1 hT f1 f2 f3 f4 f5 hlen hx k).1
  have offp : ∀ k ∈ l, k.pos ∉ ((r, instObj 371 dr) :: (dr, rdO w.params t1 t2 t3 lt 0 tk2 nd) :: news).map (·.1) := (tb_of N1 hT f1 f2 f3 f4 f5 hlen hx (g := h1) (fun _ _ e _ => e)).2
  have hrest : ∀ q ∈ news, q.1 ≠ dr := fun q hq => Nat.ne_of_lt (f3 q (List.mem_append_right _ hq))
  have hne : r ≠ dr := Nat.ne_of_gt f5
  obtain ⟨k', ho, hk1⟩ := hf1 l hT.words
  have hkl := (List.getElem?_eq_some_iff.mp ho).1
  obtain ⟨ln, hk, hlt⟩ := tok_line hT (q := 0) (by decide) ho
  have hpos := (hT.at_ _ hk).2.2
  have fe : [envl].filterMap (·.frame) = [L] := by simp [hf]
  refine execs_ret (td_e (k' := k') (q := 0) B' X' F1 N1 T' hm1 XB TB9 (.tail _ (.tail _ (.tail _ (.tail _ (List.mem_append_left _ hpos))))) (offp _ hk) (by omega) (by omega) (fun Q' E' err => ro_f1 (D := 801) (U := 4003) (env := tdEnv L') (outer := [envl]) (by decide) (by decide) B' F1 X' hN2 T' rfl rfl hrest hne tbl (by decide) (by decide) ho hk1 err) ?_)
  intro a g' m3 h3 tk3 nw TT F3 N3 sub hd
  rw [fe] at TT
  rw [ln] at hd
  exact lvS_ok TT F3 N3 sub hd ret

theorem told_f2 {envl : Env} {lw : Addr} {vs : List Value} {e2 : Nat} {W : List Str} (hDD : D ≤ 800) (hU : U ≤ 4000) (B : Below A₀ base [] h₀) (F : Fr h₀ L s.heap m) (X : (kdef.heap_1 w.params).In h₀) (N : News h₀ L s.heap news) (T : Top p loose mean mg mb h₀) (hf : envl.frame = some L) (hke : envl.scope.kind = .function)
  (XB : (kdef.heap_1 w.params).In base) (TB9 : Top p loose mean mg mb base) (hlw : (lw, listOf (List.toArray vs) e2) ∈ news)
  (hvs : vs.length = W.length) (hv : ∀ i (h : i < W.length), ∃ u, vs[i]? = some (.str W[i] u)) (hlen : W.length < 100) (hx : ∀ x ∈ W, 0 < x.length ∧ x.length ≤ 1000) (hf2 : RoF2 W) (ret : TdGive h₀ L m news (errD 2) s Q) :
  wpAny (model PG w) (ctx D U envl [] gd) (call (.ref 427) [.ref lw]) Q E s := by
  refine told_enter hDD hU B F X N T hf hke XB TB9 hlw hvs hv hlen hx ?_
  intro g L' h₁ tk' m' FG F' N' B' X' T' hm
  have e : tdPack.1.1 = tdPack.1.1.take 1 ++ ((tdPack.1.1.drop 1).take 1 ++ tdPack.1.1.drop 2) := rfl
  rw [e]
  refine execs_cut (td_a B' F' X' N' T' hlw hvs hv hlen hx hm) fun s1 hs1 => ?_
  obtain ⟨m1, h1, tk1, lt, e1, tl, l, r, dr, nd, t1, t2, t3, tk2, od, rfl, F1, N1, hT, f1, f2, f3, f4, f5, hm1⟩ := hs1.ex
  have hN2 : News g L' h1 ((r, instObj 371 dr) :: (dr, rdO w.params t1 t2 t3 lt 0 tk2 nd) :: news) := fun y hy => N1 y (by
    simp only [List.mem_cons, List.mem_append] at hy ⊢
    rcases hy with q | q | q <;> simp [q])
  have tbl : ∀ g2, (∀ b o, h1.get? b = some o → b ∉ ((r, instObj 371 dr) :: (dr, rdO w.params t1 t2 t3 lt 0 tk2 nd) :: news).map (·.1) → g2.get? b = some o) → TB w.params g2 lt l := fun g2 k => (tb_of N1 hT f1 f2 f3 f4 f5 hlen hx k).1
  have offp : ∀ k ∈ l, k.pos ∉ ((r, instObj 371 dr) :: (dr, rdO w.params t1 t2 t3 lt 0 tk2 nd) :: news).map (·.1) := (tb_of N1 hT f1 f2 f3 f4 f5 hlen hx (g := h1) (fun _ _ e _ => e)).2
  have hrest : ∀ q ∈ news, q.1 ≠ dr := fun q hq => Nat.ne_of_lt (f3 q (List.mem_append_right _ hq))
  have hne : r ≠ dr := Nat.ne_of_gt f5
  obtain ⟨low, k', hA, hto, ho, hk1⟩ := hf2 l hT.words
  have hkl := (List.getElem?_eq_some_iff.mp ho).1
  obtain ⟨ln, hk, hlt⟩ := tok_line hT (q := 2) (by decide) ho
  have hpos := (hT.at_ _ hk).2.2
  have fe : [envl].filterMap (·.frame) = [L] := by simp [hf]
  refine execs_ret (td_e (k' := k') (q := 0) B' X' F1 N1 T' hm1 XB TB9 (.tail _ (.tail _ (.tail _ (.tail _ (List.mem_append_left _ hpos))))) (offp _ hk) (by omega) (by omega) (fun Q' E' err => ro_f2 (D := 801) (U := 4003) (env := tdEnv L') (outer := [envl]) (by decide) (by decide) B' F1 X' hN2 T' rfl rfl hrest hne tbl (by decide) (by decide) hA hto ho hk1 err) ?_)
  intro a g' m3 h3 tk3 nw TT F3 N3 sub hd
  rw [fe] at TT
  rw [ln] at hd
  exact lvS_ok TT F3 N3 sub hd ret
end

end Mine
end
section
open PySem PySem.W PyProof.Rows PySem.Calls
set_option Elab.async false
set_option maxRecDepth 100000
set_option maxHeartbeats 1000000
namespace Mine
noncomputable def At (l : List Tk) (j : Int) (x : Str) : Prop := ∃ t, tokAt l j = some t ∧ t.kind = kw x ∧ t.x = x
theorem at_pre {l : List Tk} {pre suf : List Str} {x : Str} {q j : Int} (i : Nat) (h : Like l (pre ++ suf)) (hq : q = pre.length) (hi : suf[i]? = some x) (hj : j = q + i) : At l j x := by
  have e : (l.map fun k => (k.kind, k.x))[pre.length + i]? = some (kw x, x) := by
    rw [h, List.getElem?_map, List.getElem?_append_right (by omega), Nat.add_sub_cancel_left, hi]; rfl
  rw [List.getElem?_map] at e
  obtain ⟨t, ht, e⟩ := Option.map_eq_some_iff.mp e
  refine ⟨t, ?_, (Prod.mk.inj e).1, (Prod.mk.inj e).2⟩
  unfold tokAt
  rw [show j.toNat = pre.length + i from by omega]
  exact ht
theorem At.isWord {l : List Tk} {j : Int} {x wd : Str} {b : Bool} (a : At l j x) (h : (kw x == Str.ofString "word" && x == wd) = b) : isWord l j wd = b := by
  obtain ⟨t, ht, h1, h2⟩ := a
  unfold Mine.isWord
  rw [ht]
  dsimp only
  rw [h1, h2]
  exact h
theorem At.isKind {l : List Tk} {j : Int} {x kd : Str} {b : Bool} (a : At l j x) (h : (kw x == kd) = b) : isKind l j kd = b := by
  obtain ⟨t, ht, h1, h2⟩ := a
  unfold Mine.isKind
  rw [ht]
  dsimp only
  rw [h1]
  exact h
theorem At.isSign {l : List Tk} {j : Int} {x sg : Str} {b : Bool} (a : At l j x) (h : (kw x == Str.ofString "sign" && x == sg) = b) : isSign l j sg = b := by
  obtain ⟨t, ht, h1, h2⟩ := a
  unfold Mine.isSign
  rw [ht]
  dsimp only
  rw [h1, h2]
  exact h
theorem At.isName {l : List Tk} {j : Int} {x : Str} {b : Bool} (a : At l j x) (h : (kw x == Str.ofString "word" && !resv x) = b) : isName l j = b := by
  obtain ⟨t, ht, h1, h2⟩ := a
  unfold Mine.isName
  rw [ht]
  dsimp only
  rw [h1, h2]
  exact h
theorem dig_kw : ∀ p ∈ digits, (kw p.1 == Str.ofString "number") = true := by decide +kernel
theorem At.num {l : List Tk} {j q : Int} {x : Str} {u : Int} (a : At l j x) (hj : j = q + 0) (hx : (x, u) ∈ digits) : NumAt l q u := by
  have hk : (kw x == Str.ofString "number") = true := dig_kw (x, u) hx
  subst hj
  have h0 := a.isKind hk
  obtain ⟨t, ht, h1, h2⟩ := a
  subst h2
  exact ⟨h0, t, ht, hx⟩
-- the words
noncomputable def WA (d1 d2 : Str) (two times : Bool) : List Str := d1 :: ((if two then [Str.ofString "TO", d2] else []) ++ (if times then [Str.ofString "TIMES"] else []))
theorem segA {l : List Tk} {d1 d2 x : Str} {two times : Bool} {post : List Str} {low high : Int} (h : Like l ([] ++ (WA d1 d2 two times ++ x :: post))) (h1 : (d1, low) ∈ digits) (h2 : (d2, high) ∈ digits) (he : two = false → high = low)
    (x1 : (kw x == Str.ofString "word" && x == Str.ofString "TO") = false) (x2 : (kw x == Str.ofString "word" && x == Str.ofString "TIMES") = false) : SegA l 0 low high (0 + ((WA d1 d2 two times).length : Int)) := by
  have wTO : (kw (Str.ofString "TO") == Str.ofString "word" && Str.ofString "TO" == Str.ofString "TO") = true := by decide +kernel
  have wT : (kw (Str.ofString "TIMES") == Str.ofString "word" && Str.ofString "TIMES" == Str.ofString "TIMES") = true := by decide +kernel
  have wTn : (kw (Str.ofString "TIMES") == Str.ofString "word" && Str.ofString "TIMES" == Str.ofString "TO") = false := by decide +kernel
  cases two with
  | false =>
    obtain rfl := he rfl
    cases times with
    | false =>
      have a0 : At l (0 + 0) d1 := at_pre 0 h rfl rfl (by decide)
      have a1 : At l (0 + 1 + 0) x := at_pre 1 h rfl rfl (by decide)
      exact ⟨a0.num rfl h1, .inl ⟨a1.isWord x1, rfl, .inl ⟨a1.isWord x2, rfl⟩⟩⟩
    | true =>
      have a0 : At l (0 + 0) d1 := at_pre 0 h rfl rfl (by decide)
      have a1 : At l (0 + 1 + 0) (Str.ofString "TIMES") := at_pre 1 h rfl rfl (by decide)
      exact ⟨a0.num rfl h1, .inl ⟨a1.isWord wTn, rfl, .inr ⟨a1.isWord wT, rfl⟩⟩⟩
  | true =>
    cases times with
    | false =>
      have a0 : At l (0 + 0) d1 := at_pre 0 h rfl rfl (by decide)
      have a1 : At l (0 + 1 + 0) (Str.ofString "TO") := at_pre 1 h rfl rfl (by decide)
      have a2 : At l (0 + 1 + 1 + 0) d2 := at_pre 2 h rfl rfl (by decide)
      have a3 : At l (0 + 1 + 1 + 1 + 0) x := at_pre 3 h rfl rfl (by decide)
      exact ⟨a0.num rfl h1, .inr ⟨a1.isWord wTO, a2.num rfl h2, .inl ⟨a3.isWord x2, rfl⟩⟩⟩
    | true =>
      have a0 : At l (0 + 0) d1 := at_pre 0 h rfl rfl (by decide)
      have a1 : At l (0 + 1 + 0) (Str.ofString "TO") := at_pre 1 h rfl rfl (by decide)
      have a2 : At l (0 + 1 + 1 + 0) d2 := at_pre 2 h rfl rfl (by decide)
      have a3 : At l (0 + 1 + 1 + 1 + 0) (Str.ofString "TIMES") := at_pre 3 h rfl rfl (by decide)
      exact ⟨a0.num rfl h1, .inr ⟨a1.isWord wTO, a2.num rfl h2, .inr ⟨a3.isWord wT, rfl⟩⟩⟩
noncomputable def WB : Nat → Bool → List Str
  | 0, _ => []
  | n + 1, on => Str.ofString "DEPENDING" :: ((if on then [Str.ofString "ON"] else []) ++ Str.ofString "D" :: ([Str.ofString "OF", Str.ofString "G", Str.ofString "IN", Str.ofString "H"].take (2 * n)))
noncomputable def depOf : Nat → Option (Str × List Str)
  | 0 => none
  | n + 1 => some (Str.ofString "D", [Str.ofString "G", Str.ofString "H"].take n)
theorem nm_of {x : Str} (h1 : (kw x == Str.ofString "word") = true) (h2 : resv x = false) : (kw x == Str.ofString "word" && !resv x) = true := by rw [h1, h2]; rfl
theorem nm_D : (kw (Str.ofString "D") == Str.ofString "word" && !resv (Str.ofString "D")) = true := nm_of (by decide +kernel) res_D
theorem nm_G : (kw (Str.ofString "G") == Str.ofString "word" && !resv (Str.ofString "G")) = true := nm_of (by decide +kernel) res_G
theorem nm_H : (kw (Str.ofString "H") == Str.ofString "word" && !resv (Str.ofString "H")) = true := nm_of (by decide +kernel) res_H
theorem nm_K : (kw (Str.ofString "K") == Str.ofString "word" && !resv (Str.ofString "K")) = true := nm_of (by decide +kernel) res_K
theorem nm_L : (kw (Str.ofString "L") == Str.ofString "word" && !resv (Str.ofString "L")) = true := nm_of (by decide +kernel) res_L
theorem nm_M : (kw (Str.ofString "M-1") == Str.ofString "word" && !resv (Str.ofString "M-1")) = true := nm_of (by decide +kernel) res_M_1
theorem nm_N : (kw (Str.ofString "N") == Str.ofString "word" && !resv (Str.ofString "N")) = true := nm_of (by decide +kernel) res_N
theorem nm_I : (kw (Str.ofString "I") == Str.ofString "word" && !resv (Str.ofString "I")) = true := nm_of (by decide +kernel) res_I
theorem nm_J : (kw (Str.ofString "J-2") == Str.ofString "word" && !resv (Str.ofString "J-2")) = true := nm_of (by decide +kernel) res_J_2
structure NxB (x : Str) : Prop where
  dep : (kw x == Str.ofString "word" && x == Str.ofString "DEPENDING") = false
  of_ : (kw x == Str.ofString "word" && x == Str.ofString "OF") = false
  in_ : (kw x == Str.ofString "word" && x == Str.ofString "IN") = false
  br : (kw x == Str.ofString "sign" && x == Str.ofString "(") = false
theorem segB {l : List Tk} {pre post : List Str} {way : Nat} {on : Bool} {x : Str} {q : Int} (h : Like l (pre ++ (WB way on ++ x :: post))) (hq : q = pre.length) (hw : way ≤ 3) (nx : NxB x) : SegB l q (depOf way) (q + ((WB way on).length : Int)) := by
  have w1 : (kw (Str.ofString "DEPENDING") == Str.ofString "word" && Str.ofString "DEPENDING" == Str.ofString "DEPENDING") = true := by decide +kernel
  have w2 : (kw (Str.ofString "ON") == Str.ofString "word" && Str.ofString "ON" == Str.ofString "ON") = true := by decide +kernel
  have w3 : (kw (Str.ofString "D") == Str.ofString "word" && Str.ofString "D" == Str.ofString "ON") = false := by decide +kernel
  have w4 : (kw (Str.ofString "OF") == Str.ofString "word" && Str.ofString "OF" == Str.ofString "OF") = true := by decide +kernel
  have w5 : (kw (Str.ofString "IN") == Str.ofString "word" && Str.ofString "IN" == Str.ofString "OF") = false := by decide +kernel
  have w6 : (kw (Str.ofString "IN") == Str.ofString "word" && Str.ofString "IN" == Str.ofString "IN") = true := by decide +kernel
  match way, hw with
  | 0, _ =>
    have a0 : At l (q + 0) x := at_pre 0 h hq rfl (by omega)
    exact .inl ⟨a0.isWord nx.dep, rfl, by simp [WB]⟩
  | 1, _ =>
    have a0 : At l (q + 0) (Str.ofString "DEPENDING") := at_pre 0 h hq rfl (by omega)
    refine .inr ⟨a0.isWord w1, Str.ofString "D", [], ?_⟩
    cases on with
    | false =>
      have a1 : At l (q + 1 + 0) (Str.ofString "D") := at_pre 1 h hq rfl (by omega)
      have a2 : At l (q + 1 + 1 + 0) x := at_pre 2 h hq rfl (by omega)
      obtain ⟨t, ht, _, tx⟩ := id a1
      have e : q + ((WB 1 false).length : Int) = q + 1 + 1 := by show q + 2 = _; omega
      rw [e]
      exact ⟨q + 1, .inl ⟨a1.isWord w3, rfl⟩, ⟨a1.isName nm_D, t, ht, tx, .inl ⟨rfl, rfl⟩, a2.isWord nx.of_, a2.isWord nx.in_, a2.isSign nx.br⟩, rfl⟩
    | true =>
      have a1 : At l (q + 1 + 0) (Str.ofString "ON") := at_pre 1 h hq rfl (by omega)
      have a2 : At l (q + 1 + 1 + 0) (Str.ofString "D") := at_pre 2 h hq rfl (by omega)
      have a3 : At l (q + 1 + 1 + 1 + 0) x := at_pre 3 h hq rfl (by omega)
      obtain ⟨t, ht, _, tx⟩ := id a2
      have e : q + ((WB 1 true).length : Int) = q + 1 + 1 + 1 := by show q + 3 = _; omega
      rw [e]
      exact ⟨q + 1 + 1, .inr ⟨a1.isWord w2, rfl⟩, ⟨a2.isName nm_D, t, ht, tx, .inl ⟨rfl, rfl⟩, a3.isWord nx.of_, a3.isWord nx.in_, a3.isSign nx.br⟩, rfl⟩
  | 2, _ =>
    have a0 : At l (q + 0) (Str.ofString "DEPENDING") := at_pre 0 h hq rfl (by omega)
    refine .inr ⟨a0.isWord w1, Str.ofString "D", [Str.ofString "G"], ?_⟩
    cases on with
    | false =>
      have a1 : At l (q + 1 + 0) (Str.ofString "D") := at_pre 1 h hq rfl (by omega)
      have a2 : At l (q + 1 + 1 + 0) (Str.ofString "OF") := at_pre 2 h hq rfl (by omega)
      have a3 : At l (q + 1 + 1 + 1 + 0) (Str.ofString "G") := at_pre 3 h hq rfl (by omega)
      have a4 : At l (q + 1 + 1 + 1 + 1 + 0) x := at_pre 4 h hq rfl (by omega)
      obtain ⟨t, ht, _, tx⟩ := id a1
      obtain ⟨b, hb, _, bx⟩ := id a3
      have e : q + ((WB 2 false).length : Int) = q + 1 + 1 + 1 + 1 := by show q + 4 = _; omega
      rw [e]
      exact ⟨q + 1, .inl ⟨a1.isWord w3, rfl⟩, ⟨a1.isName nm_D, t, ht, tx, .inr ⟨a2.isWord w4, a3.isName nm_G, b, hb, .inl ⟨by rw [bx], rfl⟩⟩, a4.isWord nx.of_, a4.isWord nx.in_, a4.isSign nx.br⟩, rfl⟩
    | true =>
      have a1 : At l (q + 1 + 0) (Str.ofString "ON") := at_pre 1 h hq rfl (by omega)
      have a2 : At l (q + 1 + 1 + 0) (Str.ofString "D") := at_pre 2 h hq rfl (by omega)
      have a3 : At l (q + 1 + 1 + 1 + 0) (Str.ofString "OF") := at_pre 3 h hq rfl (by omega)
      have a4 : At l (q + 1 + 1 + 1 + 1 + 0) (Str.ofString "G") := at_pre 4 h hq rfl (by omega)
      have a5 : At l (q + 1 + 1 + 1 + 1 + 1 + 0) x := at_pre 5 h hq rfl (by omega)
      obtain ⟨t, ht, _, tx⟩ := id a2
      obtain ⟨b, hb, _, bx⟩ := id a4
      have e : q + ((WB 2 true).length : Int) = q + 1 + 1 + 1 + 1 + 1 := by show q + 5 = _; omega
      rw [e]
      exact ⟨q + 1 + 1, .inr ⟨a1.isWord w2, rfl⟩, ⟨a2.isName nm_D, t, ht, tx, .inr ⟨a3.isWord w4, a4.isName nm_G, b, hb, .inl ⟨by rw [bx], rfl⟩⟩, a5.isWord nx.of_, a5.isWord nx.in_, a5.isSign nx.br⟩, rfl⟩
  | 3, _ =>
    have a0 : At l (q + 0) (Str.ofString "DEPENDING") := at_pre 0 h hq rfl (by omega)
    refine .inr ⟨a0.isWord w1, Str.ofString "D", [Str.ofString "G", Str.ofString "H"], ?_⟩
    cases on with
    | false =>
      have a1 : At l (q + 1 + 0) (Str.ofString "D") := at_pre 1 h hq rfl (by omega)
      have a2 : At l (q + 1 + 1 + 0) (Str.ofString "OF") := at_pre 2 h hq rfl (by omega)
      have a3 : At l (q + 1 + 1 + 1 + 0) (Str.ofString "G") := at_pre 3 h hq rfl (by omega)
      have a4 : At l (q + 1 + 1 + 1 + 1 + 0) (Str.ofString "IN") := at_pre 4 h hq rfl (by omega)
      have a5 : At l (q + 1 + 1 + 1 + 1 + 1 + 0) (Str.ofString "H") := at_pre 5 h hq rfl (by omega)
      have a6 : At l (q + 1 + 1 + 1 + 1 + 1 + 1 + 0) x := at_pre 6 h hq rfl (by omega)
      obtain ⟨t, ht, _, tx⟩ := id a1
      obtain ⟨b, hb, _, bx⟩ := id a3
      obtain ⟨c, hc, _, cx⟩ := id a5
      have e : q + ((WB 3 false).length : Int) = q + 1 + 1 + 1 + 1 + 1 + 1 := by show q + 6 = _; omega
      rw [e]
      exact ⟨q + 1, .inl ⟨a1.isWord w3, rfl⟩, ⟨a1.isName nm_D, t, ht, tx, .inr ⟨a2.isWord w4, a3.isName nm_G, b, hb, .inr ⟨a4.isWord w5, a4.isWord w6, a5.isName nm_H, c, hc, by rw [bx, cx], rfl⟩⟩, a6.isWord nx.of_, a6.isWord nx.in_, a6.isSign nx.br⟩, rfl⟩
    | true =>
      have a1 : At l (q + 1 + 0) (Str.ofString "ON") := at_pre 1 h hq rfl (by omega)
      have a2 : At l (q + 1 + 1 + 0) (Str.ofString "D") := at_pre 2 h hq rfl (by omega)
      have a3 : At l (q + 1 + 1 + 1 + 0) (Str.ofString "OF") := at_pre 3 h hq rfl (by omega)
      have a4 : At l (q + 1 + 1 + 1 + 1 + 0) (Str.ofString "G") := at_pre 4 h hq rfl (by omega)
      have a5 : At l (q + 1 + 1 + 1 + 1 + 1 + 0) (Str.ofString "IN") := at_pre 5 h hq rfl (by omega)
      have a6 : At l (q + 1 + 1 + 1 + 1 + 1 + 1 + 0) (Str.ofString "H") := at_pre 6 h hq rfl (by omega)
      have a7 : At l (q + 1 + 1 + 1 + 1 + 1 + 1 + 1 + 0) x := at_pre 7 h hq rfl (by omega)
      obtain ⟨t, ht, _, tx⟩ := id a2
      obtain ⟨b, hb, _, bx⟩ := id a4
      obtain ⟨c, hc, _, cx⟩ := id a6
      have e : q + ((WB 3 true).length : Int) = q + 1 + 1 + 1 + 1 + 1 + 1 + 1 := by show q + 7 = _; omega
      rw [e]
      exact ⟨q + 1 + 1, .inr ⟨a1.isWord w2, rfl⟩, ⟨a2.isName nm_D, t, ht, tx, .inr ⟨a3.isWord w4, a4.isName nm_G, b, hb, .inr ⟨a5.isWord w5, a5.isWord w6, a6.isName nm_H, c, hc, by rw [bx, cx], rfl⟩⟩, a7.isWord nx.of_, a7.isWord nx.in_, a7.isSign nx.br⟩, rfl⟩
end Mine

end
section
open PySem PySem.W PyProof.Rows PySem.Calls
set_option Elab.async false
set_option maxRecDepth 100000
set_option maxHeartbeats 1000000
namespace Mine
noncomputable def tOf : Nat → List Str
  | 0 => [Str.ofString "ASCENDING", Str.ofString "K"]
  | 1 => [Str.ofString "DESCENDING", Str.ofString "KEY", Str.ofString "IS", Str.ofString "L", Str.ofString "M-1"]
  | 2 => [Str.ofString "ASCENDING", Str.ofString "KEY", Str.ofString "N"]
  | _ => [Str.ofString "DESCENDING", Str.ofString "IS", Str.ofString "K"]
noncomputable def gOf : Nat → List (Bool × Str)
  | 0 => [(true, Str.ofString "K")]
  | 1 => [(false, Str.ofString "L"), (false, Str.ofString "M-1")]
  | 2 => [(true, Str.ofString "N")]
  | _ => [(false, Str.ofString "K")]
theorem grp {l : List Tk} {pre post : List Str} {i : Nat} {y : Str} {q : Int} (h : Like l (pre ++ (tOf i ++ y :: post))) (hq : q = pre.length) (hy : (kw y == Str.ofString "word" && !resv y) = false) :
    (isWord l (q + 0) (Str.ofString "ASCENDING") || isWord l (q + 0) (Str.ofString "DESCENDING")) = true ∧ GrpAt l q (gOf i) (q + ((tOf i).length : Int)) := by
  have wA : (kw (Str.ofString "ASCENDING") == Str.ofString "word" && Str.ofString "ASCENDING" == Str.ofString "ASCENDING") = true := by decide +kernel
  have wD : (kw (Str.ofString "DESCENDING") == Str.ofString "word" && Str.ofString "DESCENDING" == Str.ofString "DESCENDING") = true := by decide +kernel
  have wK : (kw (Str.ofString "KEY") == Str.ofString "word" && Str.ofString "KEY" == Str.ofString "KEY") = true := by decide +kernel
  have wI : (kw (Str.ofString "IS") == Str.ofString "word" && Str.ofString "IS" == Str.ofString "IS") = true := by decide +kernel
  have wIK : (kw (Str.ofString "IS") == Str.ofString "word" && Str.ofString "IS" == Str.ofString "KEY") = false := by decide +kernel
  have kK : (kw (Str.ofString "K") == Str.ofString "word" && Str.ofString "K" == Str.ofString "KEY") = false := by decide +kernel
  have kI : (kw (Str.ofString "K") == Str.ofString "word" && Str.ofString "K" == Str.ofString "IS") = false := by decide +kernel
  have nI : (kw (Str.ofString "N") == Str.ofString "word" && Str.ofString "N" == Str.ofString "IS") = false := by decide +kernel
  match i with
  | 0 =>
    have a0 : At l (q + 0) (Str.ofString "ASCENDING") := at_pre 0 h hq rfl (by omega)
    have a1 : At l (q + 1 + 0) (Str.ofString "K") := at_pre 1 h hq rfl (by omega)
    have a2 : At l (q + 1 + 1 + 0) y := at_pre 2 h hq rfl (by omega)
    obtain ⟨t, ht, _, tx⟩ := id a0
    obtain ⟨b, hb, _, bx⟩ := id a1
    have e : q + ((tOf 0).length : Int) = q + 1 + 1 := by show q + 2 = _; omega
    rw [e, a0.isWord wA]
    refine ⟨rfl, t, q + 1, q + 1, [b], ht, .inl ⟨a1.isWord kK, rfl⟩, .inl ⟨a1.isWord kI, rfl⟩, ⟨a1.isName nm_K, b, hb, .inl ⟨a2.isName hy, rfl, rfl⟩⟩, ?_⟩
    simp only [List.map_cons, List.map_nil, tx, bx]
    rfl
  | 1 =>
    have a0 : At l (q + 0) (Str.ofString "DESCENDING") := at_pre 0 h hq rfl (by omega)
    have a1 : At l (q + 1 + 0) (Str.ofString "KEY") := at_pre 1 h hq rfl (by omega)
    have a2 : At l (q + 1 + 1 + 0) (Str.ofString "IS") := at_pre 2 h hq rfl (by omega)
    have a3 : At l (q + 1 + 1 + 1 + 0) (Str.ofString "L") := at_pre 3 h hq rfl (by omega)
    have a4 : At l (q + 1 + 1 + 1 + 1 + 0) (Str.ofString "M-1") := at_pre 4 h hq rfl (by omega)
    have a5 : At l (q + 1 + 1 + 1 + 1 + 1 + 0) y := at_pre 5 h hq rfl (by omega)
    obtain ⟨t, ht, _, tx⟩ := id a0
    obtain ⟨b, hb, _, bx⟩ := id a3
    obtain ⟨c, hc, _, cx⟩ := id a4
    have e : q + ((tOf 1).length : Int) = q + 1 + 1 + 1 + 1 + 1 := by show q + 5 = _; omega
    rw [e, a0.isWord wD, Bool.or_true]
    refine ⟨rfl, t, q + 1 + 1, q + 1 + 1 + 1, [b, c], ht, .inr ⟨a1.isWord wK, rfl⟩, .inr ⟨a2.isWord wI, rfl⟩, ⟨a3.isName nm_L, b, hb, .inr ⟨a4.isName nm_M, c, hc, a5.isName hy, rfl, rfl⟩⟩, ?_⟩
    simp only [List.map_cons, List.map_nil, tx, bx, cx]
    rfl
  | 2 =>
    have a0 : At l (q + 0) (Str.ofString "ASCENDING") := at_pre 0 h hq rfl (by omega)
    have a1 : At l (q + 1 + 0) (Str.ofString "KEY") := at_pre 1 h hq rfl (by omega)
    have a2 : At l (q + 1 + 1 + 0) (Str.ofString "N") := at_pre 2 h hq rfl (by omega)
    have a3 : At l (q + 1 + 1 + 1 + 0) y := at_pre 3 h hq rfl (by omega)
    obtain ⟨t, ht, _, tx⟩ := id a0
    obtain ⟨b, hb, _, bx⟩ := id a2
    have e : q + ((tOf 2).length : Int) = q + 1 + 1 + 1 := by show q + 3 = _; omega
    rw [e, a0.isWord wA]
    refine ⟨rfl, t, q + 1 + 1, q + 1 + 1, [b], ht, .inr ⟨a1.isWord wK, rfl⟩, .inl ⟨a2.isWord nI, rfl⟩, ⟨a2.isName nm_N, b, hb, .inl ⟨a3.isName hy, rfl, rfl⟩⟩, ?_⟩
    simp only [List.map_cons, List.map_nil, tx, bx]
    rfl
  | n + 3 =>
    have a0 : At l (q + 0) (Str.ofString "DESCENDING") := at_pre 0 h hq rfl (by omega)
    have a1 : At l (q + 1 + 0) (Str.ofString "IS") := at_pre 1 h hq rfl (by omega)
    have a2 : At l (q + 1 + 1 + 0) (Str.ofString "K") := at_pre 2 h hq rfl (by omega)
    have a3 : At l (q + 1 + 1 + 1 + 0) y := at_pre 3 h hq rfl (by omega)
    obtain ⟨t, ht, _, tx⟩ := id a0
    obtain ⟨b, hb, _, bx⟩ := id a2
    have e : q + ((tOf (n + 3)).length : Int) = q + 1 + 1 + 1 := by show q + 3 = _; omega
    rw [e, a0.isWord wD, Bool.or_true]
    refine ⟨rfl, t, q + 1, q + 1 + 1, [b], ht, .inl ⟨a1.isWord wIK, rfl⟩, .inr ⟨a1.isWord wI, rfl⟩, ⟨a2.isName nm_K, b, hb, .inl ⟨a3.isName hy, rfl, rfl⟩⟩, ?_⟩
    simp only [List.map_cons, List.map_nil, tx, bx]
    rfl
theorem tOf_head (i : Nat) : ∃ y r, tOf i = y :: r ∧ (y = Str.ofString "ASCENDING" ∨ y = Str.ofString "DESCENDING") := by
  match i with
  | 0 => exact ⟨_, _, rfl, .inl rfl⟩
  | 1 => exact ⟨_, _, rfl, .inr rfl⟩
  | 2 => exact ⟨_, _, rfl, .inl rfl⟩
  | n + 3 => exact ⟨_, _, rfl, .inr rfl⟩
theorem tOf_len (i : Nat) : (tOf i).length ≤ 5 := by
  match i with
  | 0 => decide
  | 1 => decide
  | 2 => decide
  | n + 3 => show 3 ≤ 5; decide
theorem no_of {x : Str} (h : resv x = true) : (kw x == Str.ofString "word" && !resv x) = false := by rw [h]; simp
structure NxC (y : Str) : Prop where
  asc : (kw y == Str.ofString "word" && y == Str.ofString "ASCENDING") = false
  desc : (kw y == Str.ofString "word" && y == Str.ofString "DESCENDING") = false
  name : (kw y == Str.ofString "word" && !resv y) = false
theorem grps {l : List Tk} {x : Str} {post : List Str} (nx : NxC x) : ∀ (ts : List Nat) (pre : List Str) (q : Int), Like l (pre ++ (ts.flatMap tOf ++ x :: post)) → q = pre.length → pre.length + 5 * ts.length < 9000 →
    Grps l q (ts.map gOf) (q + ((ts.flatMap tOf).length : Int))
  | [], pre, q, h, hq, hb => by
    have a0 : At l (q + 0) x := at_pre 0 h hq rfl (by omega)
    exact ⟨by omega, by simp at hb; omega, a0.isWord nx.asc, a0.isWord nx.desc, by simp⟩
  | t :: ts, pre, q, h, hq, hb => by
    have nxt : ∃ y r, ts.flatMap tOf ++ x :: post = y :: r ∧ (kw y == Str.ofString "word" && !resv y) = false := by
      cases ts with
      | nil => exact ⟨x, post, rfl, nx.name⟩
      | cons t' ts' =>
        obtain ⟨y, r, e, hy⟩ := tOf_head t'
        refine ⟨y, r ++ ts'.flatMap tOf ++ x :: post, ?_, ?_⟩
        · simp [e]
        · rcases hy with rfl | rfl
          · exact no_of res_ASCENDING
          · exact no_of res_DESCENDING
    obtain ⟨y, r, e, hy⟩ := nxt
    have h1 : Like l (pre ++ (tOf t ++ y :: r)) := by
      rw [← e]
      simpa [List.append_assoc] using h
    have h2 : Like l ((pre ++ tOf t) ++ (ts.flatMap tOf ++ x :: post)) := by simpa [List.append_assoc] using h
    obtain ⟨g1, g2⟩ := grp h1 hq hy
    have hl := tOf_len t
    have ih := grps nx ts (pre ++ tOf t) (q + ((tOf t).length : Int)) h2 (by simp; omega) (by simp at hb ⊢; omega)
    refine ⟨by omega, by simp at hb; omega, g1, _, g2, ?_⟩
    have e2 : q + (((t :: ts).flatMap tOf).length : Int) = q + ((tOf t).length : Int) + ((ts.flatMap tOf).length : Int) := by simp [Int.add_assoc]
    rw [e2]
    exact ih
noncomputable def WD : Nat → Bool → List Str
  | 0, _ => []
  | n + 1, by_ => Str.ofString "INDEXED" :: ((if by_ then [Str.ofString "BY"] else []) ++ [Str.ofString "I", Str.ofString "J-2"].take (n + 1))
noncomputable def ixOf (k : Nat) : List Str := [Str.ofString "I", Str.ofString "J-2"].take k
structure NxD (y : Str) : Prop where
  ind : (kw y == Str.ofString "word" && y == Str.ofString "INDEXED") = false
  name : (kw y == Str.ofString "word" && !resv y) = false
theorem segD {l : List Tk} {pre post : List Str} {k : Nat} {by_ : Bool} {x : Str} {q : Int} (h : Like l (pre ++ (WD k by_ ++ x :: post))) (hq : q = pre.length) (hk : k ≤ 2) (nx : NxD x) : SegD l q (ixOf k) (q + ((WD k by_).length : Int)) := by
  have w1 : (kw (Str.ofString "INDEXED") == Str.ofString "word" && Str.ofString "INDEXED" == Str.ofString "INDEXED") = true := by decide +kernel
  have w2 : (kw (Str.ofString "BY") == Str.ofString "word" && Str.ofString "BY" == Str.ofString "BY") = true := by decide +kernel
  have w3 : (kw (Str.ofString "I") == Str.ofString "word" && Str.ofString "I" == Str.ofString "BY") = false := by decide +kernel
  match k, hk with
  | 0, _ =>
    have a0 : At l (q + 0) x := at_pre 0 h hq rfl (by omega)
    exact .inl ⟨a0.isWord nx.ind, rfl, by simp [WD]⟩
  | 1, _ =>
    have a0 : At l (q + 0) (Str.ofString "INDEXED") := at_pre 0 h hq rfl (by omega)
    refine .inr ⟨a0.isWord w1, ?_⟩
    cases by_ with
    | false =>
      have a1 : At l (q + 1 + 0) (Str.ofString "I") := at_pre 1 h hq rfl (by omega)
      have a2 : At l (q + 1 + 1 + 0) x := at_pre 2 h hq rfl (by omega)
      obtain ⟨t, ht, _, tx⟩ := id a1
      have e : q + ((WD 1 false).length : Int) = q + 1 + 1 := by show q + 2 = _; omega
      rw [e]
      exact ⟨q + 1, [t], .inl ⟨a1.isWord w3, rfl⟩, ⟨a1.isName nm_I, t, ht, .inl ⟨a2.isName nx.name, rfl, rfl⟩⟩, by simp only [List.map_cons, List.map_nil, tx]; rfl⟩
    | true =>
      have a1 : At l (q + 1 + 0) (Str.ofString "BY") := at_pre 1 h hq rfl (by omega)
      have a2 : At l (q + 1 + 1 + 0) (Str.ofString "I") := at_pre 2 h hq rfl (by omega)
      have a3 : At l (q + 1 + 1 + 1 + 0) x := at_pre 3 h hq rfl (by omega)
      obtain ⟨t, ht, _, tx⟩ := id a2
      have e : q + ((WD 1 true).length : Int) = q + 1 + 1 + 1 := by show q + 3 = _; omega
      rw [e]
      exact ⟨q + 1 + 1, [t], .inr ⟨a1.isWord w2, rfl⟩, ⟨a2.isName nm_I, t, ht, .inl ⟨a3.isName nx.name, rfl, rfl⟩⟩, by simp only [List.map_cons, List.map_nil, tx]; rfl⟩
  | 2, _ =>
    have a0 : At l (q + 0) (Str.ofString "INDEXED") := at_pre 0 h hq rfl (by omega)
    refine .inr ⟨a0.isWord w1, ?_⟩
    cases by_ with
    | false =>
      have a1 : At l (q + 1 + 0) (Str.ofString "I") := at_pre 1 h hq rfl (by omega)
      have a2 : At l (q + 1 + 1 + 0) (Str.ofString "J-2") := at_pre 2 h hq rfl (by omega)
      have a3 : At l (q + 1 + 1 + 1 + 0) x := at_pre 3 h hq rfl (by omega)
      obtain ⟨t, ht, _, tx⟩ := id a1
      obtain ⟨b, hb, _, bx⟩ := id a2
      have e : q + ((WD 2 false).length : Int) = q + 1 + 1 + 1 := by show q + 3 = _; omega
      rw [e]
      exact ⟨q + 1, [t, b], .inl ⟨a1.isWord w3, rfl⟩, ⟨a1.isName nm_I, t, ht, .inr ⟨a2.isName nm_J, b, hb, a3.isName nx.name, rfl, rfl⟩⟩, by simp only [List.map_cons, List.map_nil, tx, bx]; rfl⟩
    | true =>
      have a1 : At l (q + 1 + 0) (Str.ofString "BY") := at_pre 1 h hq rfl (by omega)
      have a2 : At l (q + 1 + 1 + 0) (Str.ofString "I") := at_pre 2 h hq rfl (by omega)
      have a3 : At l (q + 1 + 1 + 1 + 0) (Str.ofString "J-2") := at_pre 3 h hq rfl (by omega)
      have a4 : At l (q + 1 + 1 + 1 + 1 + 0) x := at_pre 4 h hq rfl (by omega)
      obtain ⟨t, ht, _, tx⟩ := id a2
      obtain ⟨b, hb, _, bx⟩ := id a3
      have e : q + ((WD 2 true).length : Int) = q + 1 + 1 + 1 + 1 := by show q + 4 = _; omega
      rw [e]
      exact ⟨q + 1 + 1, [t, b], .inr ⟨a1.isWord w2, rfl⟩, ⟨a2.isName nm_I, t, ht, .inr ⟨a3.isName nm_J, b, hb, a4.isName nx.name, rfl, rfl⟩⟩, by simp only [List.map_cons, List.map_nil, tx, bx]; rfl⟩
-- what stands behind each part
noncomputable def Bh (x : Str) : Prop := x = Str.ofString "VALUE" ∨ x = Str.ofString "." ∨ x = Str.ofString "PIC"
theorem nm_dot : (kw (Str.ofString ".") == Str.ofString "word" && !resv (Str.ofString ".")) = false := by
  have : (kw (Str.ofString ".") == Str.ofString "word") = false := by decide +kernel
  rw [this]; rfl
theorem bh_D {x : Str} (h : Bh x) : NxD x := by
  rcases h with rfl | rfl | rfl
  · exact ⟨by decide +kernel, no_of res_VALUE⟩
  · exact ⟨by decide +kernel, nm_dot⟩
  · exact ⟨by decide +kernel, no_of res_PIC⟩
theorem bh_C {x : Str} (h : Bh x ∨ x = Str.ofString "INDEXED") : NxC x := by
  rcases h with (rfl | rfl | rfl) | rfl
  · exact ⟨by decide +kernel, by decide +kernel, no_of res_VALUE⟩
  · exact ⟨by decide +kernel, by decide +kernel, nm_dot⟩
  · exact ⟨by decide +kernel, by decide +kernel, no_of res_PIC⟩
  · exact ⟨by decide +kernel, by decide +kernel, no_of res_INDEXED⟩
theorem bh_B {x : Str} (h : (Bh x ∨ x = Str.ofString "INDEXED") ∨ x = Str.ofString "ASCENDING" ∨ x = Str.ofString "DESCENDING") : NxB x := by
  rcases h with ((rfl | rfl | rfl) | rfl) | rfl | rfl <;> exact ⟨by decide +kernel, by decide +kernel, by decide +kernel, by decide +kernel⟩
theorem bh_A {x : Str} (h : ((Bh x ∨ x = Str.ofString "INDEXED") ∨ x = Str.ofString "ASCENDING" ∨ x = Str.ofString "DESCENDING") ∨ x = Str.ofString "DEPENDING") :
    (kw x == Str.ofString "word" && x == Str.ofString "TO") = false ∧ (kw x == Str.ofString "word" && x == Str.ofString "TIMES") = false := by
  rcases h with (((rfl | rfl | rfl) | rfl) | rfl | rfl) | rfl <;> exact ⟨by decide +kernel, by decide +kernel⟩
theorem nxC {k : Nat} {by_ : Bool} {bh : Str} (h : Bh bh) : ∃ x r, WD k by_ ++ [bh] = x :: r ∧ (Bh x ∨ x = Str.ofString "INDEXED") := by
  cases k with
  | zero => exact ⟨bh, [], rfl, .inl h⟩
  | succ n => exact ⟨_, _, rfl, .inr rfl⟩
theorem nxB {ts : List Nat} {k : Nat} {by_ : Bool} {bh : Str} (h : Bh bh) : ∃ x r, ts.flatMap tOf ++ (WD k by_ ++ [bh]) = x :: r ∧ ((Bh x ∨ x = Str.ofString "INDEXED") ∨ x = Str.ofString "ASCENDING" ∨ x = Str.ofString "DESCENDING") := by
  cases ts with
  | nil =>
    obtain ⟨x, r, e, hx⟩ := nxC (k := k) (by_ := by_) h
    exact ⟨x, r, by simpa using e, .inl hx⟩
  | cons t ts =>
    obtain ⟨y, r, e, hy⟩ := tOf_head t
    exact ⟨y, r ++ (ts.flatMap tOf ++ (WD k by_ ++ [bh])), by simp [e], .inr hy⟩
theorem nxA {way : Nat} {on : Bool} {ts : List Nat} {k : Nat} {by_ : Bool} {bh : Str} (h : Bh bh) : ∃ x r, WB way on ++ (ts.flatMap tOf ++ (WD k by_ ++ [bh])) = x :: r ∧ (((Bh x ∨ x = Str.ofString "INDEXED") ∨ x = Str.ofString "ASCENDING" ∨ x = Str.ofString "DESCENDING") ∨ x = Str.ofString "DEPENDING") := by
  cases way with
  | zero =>
    obtain ⟨x, r, e, hx⟩ := nxB (ts := ts) (k := k) (by_ := by_) h
    exact ⟨x, r, by simpa [WB] using e, .inl hx⟩
  | succ n => exact ⟨_, _, rfl, .inr rfl⟩
/-- the words of the law, without what stands behind -/
noncomputable def WW (d1 d2 : Str) (two times : Bool) (way : Nat) (on : Bool) (ts : List Nat) (k : Nat) (by_ : Bool) : List Str := WA d1 d2 two times ++ (WB way on ++ (ts.flatMap tOf ++ WD k by_))
theorem lenA {d1 d2 : Str} {two times : Bool} : (WA d1 d2 two times).length ≤ 4 := by cases two <;> cases times <;> simp [WA]
theorem lenB {way : Nat} {on : Bool} : (WB way on).length ≤ 7 := by
  cases way with
  | zero => simp [WB]
  | succ n =>
    have : ([Str.ofString "OF", Str.ofString "G", Str.ofString "IN", Str.ofString "H"].take (2 * n)).length ≤ 4 := by rw [List.length_take]; exact Nat.min_le_right _ _
    cases on <;> simp only [WB, List.length_cons, List.length_append, List.length_nil, if_true, Bool.false_eq_true, if_false] <;> omega
theorem lenC {ts : List Nat} : (ts.flatMap tOf).length ≤ 5 * ts.length := by
  induction ts with
  | nil => simp
  | cons t ts ih => have := tOf_len t; rw [List.flatMap_cons, List.length_append, List.length_cons]; omega
theorem lenD {k : Nat} {by_ : Bool} : (WD k by_).length ≤ 4 := by
  cases k with
  | zero => simp [WD]
  | succ n =>
    have : ([Str.ofString "I", Str.ofString "J-2"].take (n + 1)).length ≤ 2 := by rw [List.length_take]; exact Nat.min_le_right _ _
    cases by_ <;> simp only [WD, List.length_cons, List.length_append, List.length_nil, if_true, Bool.false_eq_true, if_false] <;> omega
theorem parse {d1 d2 : Str} {two times : Bool} {way : Nat} {on : Bool} {ts : List Nat} {k : Nat} {by_ : Bool} {bh : Str} {low high : Int} (h1 : (d1, low) ∈ digits) (h2 : (d2, high) ∈ digits) (he : two = false → high = low) (hw : way ≤ 3) (hts : ts.length ≤ 2) (hk : k ≤ 2) (hb : Bh bh) :
    RoOk (WW d1 d2 two times way on ts k by_ ++ [bh]) low high (depOf way) (ts.map gOf) (ixOf k) ((WW d1 d2 two times way on ts k by_).length : Int) := by
  intro l hl
  have lA := @lenA d1 d2 two times
  have lB := @lenB way on
  have lC := @lenC ts
  have lD := @lenD k by_
  obtain ⟨xA, rA, eA, hA⟩ := nxA (way := way) (on := on) (ts := ts) (k := k) (by_ := by_) hb
  obtain ⟨xB, rB, eB, hB⟩ := nxB (ts := ts) (k := k) (by_ := by_) hb
  obtain ⟨xC, rC, eC, hC⟩ := nxC (k := k) (by_ := by_) hb
  have hA1 : Like l ([] ++ (WA d1 d2 two times ++ xA :: rA)) := by rw [← eA]; simpa [WW, List.append_assoc] using hl
  have hB1 : Like l (WA d1 d2 two times ++ (WB way on ++ xB :: rB)) := by rw [← eB]; simpa [WW, List.append_assoc] using hl
  have hC1 : Like l ((WA d1 d2 two times ++ WB way on) ++ (ts.flatMap tOf ++ xC :: rC)) := by rw [← eC]; simpa [WW, List.append_assoc] using hl
  have hD1 : Like l (((WA d1 d2 two times ++ WB way on) ++ ts.flatMap tOf) ++ (WD k by_ ++ bh :: [])) := by simpa [WW, List.append_assoc] using hl
  have sA := segA hA1 h1 h2 he (bh_A hA).1 (bh_A hA).2
  have sB := segB hB1 (q := 0 + ((WA d1 d2 two times).length : Int)) (by omega) hw (bh_B hB)
  have sC := grps (bh_C hC) ts _ (0 + ((WA d1 d2 two times).length : Int) + ((WB way on).length : Int)) hC1 (by simp) (by simp; omega)
  have sD := segD hD1 (q := 0 + ((WA d1 d2 two times).length : Int) + ((WB way on).length : Int) + ((ts.flatMap tOf).length : Int)) (by simp only [List.length_append]; omega) hk (bh_D hb)
  have eD : 0 + ((WA d1 d2 two times).length : Int) + ((WB way on).length : Int) + ((ts.flatMap tOf).length : Int) + ((WD k by_).length : Int) = ((WW d1 d2 two times way on ts k by_).length : Int) := by
    simp only [WW, List.length_append]; omega
  rw [eD] at sD
  have lW : (WW d1 d2 two times way on ts k by_).length ≤ 25 := by simp only [WW, List.length_append]; omega
  exact ⟨_, _, _, sA, sB, sC, sD, ⟨by omega, by omega⟩, ⟨by omega, by omega⟩, ⟨by omega, by omega⟩, ⟨by omega, by omega⟩⟩
theorem fail1 {W : List Str} : RoF1 (Str.ofString "1.5" :: W) := by
  intro l hl
  have a0 : At l (0 + 0) (Str.ofString "1.5") := at_pre (pre := []) 0 hl rfl rfl (by decide)
  obtain ⟨t, ht, _, tx⟩ := id a0
  exact ⟨t, ht, .inr ⟨a0.isKind (by decide +kernel), tx⟩⟩
theorem fail1t {W : List Str} : RoF1 (Str.ofString "TIMES" :: W) := by
  intro l hl
  have a0 : At l (0 + 0) (Str.ofString "TIMES") := at_pre (pre := []) 0 hl rfl rfl (by decide)
  obtain ⟨t, ht, _, tx⟩ := id a0
  exact ⟨t, ht, .inl (a0.isKind (by decide +kernel))⟩
theorem fail2 : RoF2 [Str.ofString "3", Str.ofString "TO", Str.ofString "X"] := by
  intro l hl
  have a0 : At l (0 + 0) (Str.ofString "3") := at_pre (pre := []) 0 hl rfl rfl (by decide)
  have a1 : At l (0 + 1 + 0) (Str.ofString "TO") := at_pre (pre := []) 1 hl rfl rfl (by decide)
  have a2 : At l (0 + 1 + 1 + 0) (Str.ofString "X") := at_pre (pre := []) 2 hl rfl rfl (by decide)
  obtain ⟨t, ht, _, tx⟩ := id a2
  exact ⟨3, t, a0.num rfl (by simp [digits]), a1.isWord (by decide +kernel), ht, a2.isKind (by decide +kernel)⟩
theorem past {l : List Tk} {W : List Str} {j : Int} (hl : Like l W) (hj : j = (W.length : Int)) : tokAt l j = none := by
  unfold tokAt
  rw [List.getElem?_eq_none]
  have := like_len hl
  omega
theorem four : RoOk [Str.ofString "4", Str.ofString "TIMES"] 4 4 none [] [] 2 := by
  intro l hl
  have a0 : At l (0 + 0) (Str.ofString "4") := at_pre (pre := []) 0 hl rfl rfl (by decide)
  have a1 : At l (0 + 1 + 0) (Str.ofString "TIMES") := at_pre (pre := []) 1 hl rfl rfl (by decide)
  have p2 : tokAt l (2 + 0) = none := past hl rfl
  have w : ∀ wd, isWord l (2 + 0) wd = false := fun wd => by unfold isWord; rw [p2]
  exact ⟨2, 2, 2, ⟨a0.num rfl (by simp [digits]), .inl ⟨a1.isWord (by decide +kernel), rfl, .inr ⟨a1.isWord (by decide +kernel), rfl⟩⟩⟩, .inl ⟨w _, rfl, rfl⟩, ⟨by decide, by decide, w _, w _, rfl⟩, .inl ⟨w _, rfl, rfl⟩, ⟨by decide, by decide⟩, ⟨by decide, by decide⟩, ⟨by decide, by decide⟩, ⟨by decide, by decide⟩⟩
end Mine

end
section
open PySem PySem.W PyProof.Rows PySem.Calls
set_option Elab.async false
set_option maxRecDepth 100000
set_option maxHeartbeats 4000000
namespace Mine
local macro_rules | `(tactic| walk_at "eval Name") => `(tactic| (k_here; name_kind "cell"; k_dflt (refine' nameX_C ?N ?c ?m ?d ?_ ?a ?b; (case a => exact rfl); (case b => kernel_rfl!); (case N => k_asm); (case c => exact rfl); (case m => k_mem); (case d => k_asm); k_whole)))
local macro_rules | `(tactic| walk_at "eval Name") => `(tactic| (k_here; name_kind "globalImplicit"; k_dflt (first | (refine' nameX_K ?F ?X ?T ?e ?_ ?a ?b; (case F => k_asm); (case X => k_asm); (case T => k_asm); (case a => exact rfl); (case b => kernel_rfl!); (case e => k_is); k_whole) | (refine' nameX_B ?F ?X ?T ?e ?v ?n ?_ ?a ?b; (case F => k_asm); (case X => k_asm); (case T => k_asm); (case a => exact rfl); (case b => kernel_rfl!); (case e => k_is); (case v => boot_fast); (case n => decide); k_whole))))
local macro_rules | `(tactic| walk_at "eval Name") => `(tactic| (k_here; name_kind "local"; k_dflt (refine' nameX_L ?F ?v ?_ ?a ?b; (case F => k_asm); (case a => exact rfl); (case b => kernel_rfl!); (case v => first | assumption | exact rfl | (simp (decide := true) only [reduceIte]; assumption)); k_whole)))
local macro_rules | `(tactic| walk_at "execs cons") => `(tactic| (k_here; (with_reducible refine wpAny_execs_cons ?_); (try dsimp only); (try k_fold)))
local macro_rules | `(tactic| k_mem) => `(tactic| assumption)
local macro_rules | `(tactic| walk_at "own:m1") => `(tactic| first | with_reducible assumption | exact .head _ | (refine .tail _ ?_; walk_at "own:m1"))
local macro_rules | `(tactic| walk_at "own:m2") => `(tactic| first | assumption | exact .head _ | (refine .tail _ ?_; walk_at "own:m2"))
local macro_rules | `(tactic| walk_at "own:m3") => `(tactic| first | exact .head _ | (refine .tail _ ?_; walk_at "own:m3") | assumption)
local macro_rules | `(tactic| k_inst) => `(tactic| exact tok_inst (by assumption) (by assumption) (by assumption))
local macro_rules | `(tactic| k_enter) => `(tactic| (refine' code_def ?k1 ?k2 ?k3 ?k4 ?k5 ?kA ?kF ?kK ?k6 ?k7 ?k8 ?k9 ?kB ?_ ?c2 ?c3 ?c4 ?c5; (case kA => exact rfl); (case kF => first | exact rfl | assumption); (case kK => first | exact rfl | assumption); (case k1 => k_asm); (case k2 => k_asm); (case k3 => k_asm); (case k4 => k_asm); (case k5 => k_asm); (case k6 => k_is); (case k7 => k_is); (case k8 => k_room); (case k9 => first | exact BindsTo.of_eq rfl | exact binds_K (by k_in) rfl (by k_is) rfl rfl rfl); (case c5 => decide); (case kB => exact locs rfl); (case c2 => exact rfl); (case c3 => exact rfl); (case c4 => exact rfl); k_whole; intro g' L' h' FG' F' N' B' X' T'; (try dsimp only); refine toksG ?_; intro tkG'; (try (have TB' := TB.keeps (by assumption) (Fr.keep (by assumption)); have TL' := TB'.lst)); (try k_fold)))
local macro_rules | `(tactic| walk_at "subscriptTail") => `(tactic| (goal_lacks GoM; refine stp ?_))
local macro_rules | `(tactic| k_all) => `(tactic| assumption)
local macro_rules | `(tactic| walk_at "call builtin:len") => `(tactic| (goal_lacks GoM; refine stp ?_))

noncomputable def ldPack : PSigma fun x : List Stmt × Scope => ∃ n a d r t ts bd ps, (PG.main.body[33]? : Option Stmt) = some (Stmt.FunctionDef n a x.1 d r t x.2 ts bd ps) := ⟨(_, _), _, _, _, _, _, _, _, _, rfl⟩

theorem draw_upd {h₀ h : Heap} {L tp cl : Addr} {o oc : Obj} {news : List (Addr × Obj)} {g : Obj → List (Addr × Obj)} (N : News h₀ L h news) (U : UpdF tp o news g) (hc : (cl, oc) ∈ news) :
    ∃ rest, News h₀ L h ((tp, o) :: (cl, oc) :: rest) ∧ (∀ q ∈ rest, q.1 ≠ tp) ∧ ∀ o', ∀ x ∈ g o', x ∈ (tp, o') :: (cl, oc) :: rest := by
  obtain ⟨pre, post, e1, e2, a, b⟩ := U.split
  subst e1
  refine ⟨pre ++ post, fun x hx => ?_, fun q hq => ?_, fun o' x hx => ?_⟩
  · rcases List.mem_cons.mp hx with q | hx
    · exact N x (by rw [q]; simp)
    · rcases List.mem_cons.mp hx with q | hx
      · rw [q]; exact N _ hc
      · refine N x ?_
        rcases List.mem_append.mp hx with h | h
        · exact List.mem_append_left _ h
        · exact List.mem_append_right _ (.tail _ h)
  · rcases List.mem_append.mp hq with h | h
    · exact a q h
    · exact b q h
  · rw [e2] at hx
    rcases List.mem_append.mp hx with h | h
    · exact .tail _ (.tail _ (List.mem_append_left _ h))
    · rcases List.mem_cons.mp h with q | h
      · rw [q]; exact .head _
      · exact .tail _ (.tail _ (List.mem_append_right _ h))
theorem fmod_in {x m : Int} (h : 0 < m) : 0 ≤ x.fmod m ∧ x.fmod m < m := by
  rw [Int.fmod_eq_emod_of_nonneg _ (Int.le_of_lt h)]
  exact ⟨Int.emod_nonneg _ (by omega), Int.emod_lt_of_pos _ h⟩

section
variable {w : World} {p : Program} {loose : List Str} {mean : ExcName → Option Value} {mg mb : Str → Option Value}
  {env : Env} {outer : List Env} {gd : Option (List Code)} {A₀ : Around} {base h₀ : Heap} {L : Addr} {m : Str → Option Value} {news : List (Addr × Obj)} {g : Obj → List (Addr × Obj)} {s : Shared} {Q E : Value → Shared → Prop}
  {D U : Nat} {r dr lt nd : Addr} {t1 t2 t3 tk ka : Tok} {q k : Int} {n : Nat} {l : List Tk}

theorem draw_c {tp cl : Addr} {cvs : List Value} {ns : List Int} {e e3 : Nat} {a many : Int} {ta tm : Tok} (hDD : D ≤ 850) (hU : U ≤ 4250) (B : Below A₀ base outer h₀) (F : Fr h₀ L s.heap m) (X : (kdef.heap_1 w.params).In h₀) (N : News h₀ L s.heap news)
  (T : Top p loose mean mg mb h₀) (hf : env.frame = some L) (hke : env.scope.kind = .function) (hu : UpdF tp (listOf #[.ref cl, .int a ta] e) news g) (hc : (cl, listOf (List.toArray cvs) e3) ∈ news) (hne : tp ≠ cl) (hi : IntsAre cvs ns) (hl0 : 0 < ns.length) (hl1 : ns.length ≤ 40) (ha0 : 0 ≤ a) (ha1 : a < 100) (hm0 : 0 < many) (hm1 : many < 10)
  (ret : ∀ v u h' tk' tb e', 0 ≤ v → v < many → Fr h₀ L h' m → News h₀ L h' (g (listOf #[.ref cl, .int (a + 1) tb] e')) → Q (.int v u) { s with heap := h', toks := tk' }) :
  wpAny (model PG w) (ctx D U env outer gd) (call (.ref 413) [.ref tp, .int many tm]) Q E s := by
  refine ctx_mono hDD hU ?_
  have hne1 := neN hne
  have hcl := hi.length
  obtain ⟨rest, N1, hrest, hback⟩ := draw_upd N hu hc
  clear N hu hc
  refine wpAny_call ?_
  k_dflt k_enter
  (repeat' (first | (with_reducible refine unstp ?_; first | ((k_here; (with_reducible show wpAny _ _ (call (Value.builtin "len") [Value.ref _]) _ _ _); (with_unfolding_all refine' len_list ?k1 ?k2 ?_; (case k1 => is_list); (case k2 => first | (simp only [List.size_toArray, List.length_map]; omega) | decide); k_whole); (try simp only [List.size_toArray, List.length_map]))) | (refine goM ?_; k_dflt walk1) | (k_dflt (dsimp only); refine stp ?_)) | (k_unfold; (first | with_reducible refine (?_ : wpAny _ _ _ _ _ _) | (try dsimp only))) | (k_end; wrow_close) | walk1 | (dsimp only; walk1) | (leave1; walk_say "STEP leave1"; try dsimp only) | fail "no step"))
  all_goals first | exact ret _ _ _ _ _ _ (fmod_in hm0).1 (fmod_in hm0).2 (by k_asm) (nb0 (by k_asm) (hback _))
end


noncomputable def lawPack : PSigma fun x : List Stmt × Scope => ∃ n a d r t ts bd ps, (PG.main.body[36]? : Option Stmt) = some (Stmt.FunctionDef n a x.1 d r t x.2 ts bd ps) := ⟨(_, _), _, _, _, _, _, _, _, _, rfl⟩
noncomputable abbrev lawEnv (L fa : Addr) (cd : Value) : Env := envOfC (Str.ofString "law") lawPack.1.2 L fa cd
/-- the tape -/
structure TapeAt (tp cl : Addr) (a : Int) (ns : List Int) (rest : List (Addr × Obj)) : Prop where
  ex : ∃ cvs e3, (cl, listOf (List.toArray cvs) e3) ∈ rest ∧ IntsAre cvs ns
  off : ∀ q ∈ rest, q.1 ≠ tp
  l0 : 0 < ns.length
  l1 : ns.length ≤ 40
  a0 : 0 ≤ a
inductive St (h₀ : Heap) (L : Addr) (keep : List (Addr × Obj)) (bd : Int) (P : (Str → Option Value) → List (Addr × Obj) → Prop) (s s' : Shared) : Prop
  | mk (m' : _) (h' : _) (tk' : _) (ta : _) (e : _) (rest : _) (tp : _) (cl : _) (ns : _) (a : _) (f1 : s' = { s with heap := h', toks := tk' }) (f2 : Fr h₀ L h' m') (f3 : News h₀ L h' ((tp, listOf #[.ref cl, .int a ta] e) :: rest)) (f4 : TapeAt tp cl a ns rest) (f5 : a ≤ bd) (f6 : (∀ y ∈ keep, y ∈ rest)) (f7 : m' (Str.ofString "tape") = some (.ref tp)) (f8 : P m' rest) : St h₀ L keep bd P s s'
theorem St.elim {h₀ : Heap} {L : Addr} {keep : List (Addr × Obj)} {bd : Int} {P : (Str → Option Value) → List (Addr × Obj) → Prop} {s s' : Shared} {C : Shared → Prop} (h : St h₀ L keep bd P s s')
    (k : ∀ m' h' tk' ta e rest tp cl ns a, Fr h₀ L h' m' → News h₀ L h' ((tp, listOf #[.ref cl, .int a ta] e) :: rest) → TapeAt tp cl a ns rest → a ≤ bd → (∀ y ∈ keep, y ∈ rest) → m' (Str.ofString "tape") = some (.ref tp) → P m' rest → C { s with heap := h', toks := tk' }) : C s' := by
  obtain ⟨m', h', tk', ta, e, rest, tp, cl, ns, a, rfl, F, N, ht, hab, hk, hm, hP⟩ := h
  exact k _ _ _ _ _ _ _ _ _ _ F N ht hab hk hm hP
theorem off_of {d : Addr} {l : List (Addr × Obj)} (h : AllLt d l) : ∀ q ∈ l, q.1 ≠ d := fun q hq => Nat.ne_of_lt (allLt_all _ h q hq)
theorem s1_a {h₀ h' : Heap} {L tp cl D : Addr} {m' : Str → Option Value} {news : List (Addr × Obj)} {ws : List Value} {ns : List Int} {e c tk' : Nat} {ta : Tok} {od : Obj} {s : Shared} (F : Fr h₀ L h' m') (N : News h₀ L h' ((tp, listOf #[.ref cl, .int 0 ta] e) :: (cl, listOf (List.toArray ws) c) :: (D, od) :: news))
    (hI : IntsAre ws (ns.take 40)) (h0 : 0 < (ns.take 40).length) (l1 : cl < tp ∧ D < tp ∧ AllLt tp news) (hm : m' (Str.ofString "tape") = some (.ref tp)) : St h₀ L news 0 (fun _ _ => True) s { s with heap := h', toks := tk' } :=
  ⟨m', h', tk', ta, e, _, tp, cl, _, 0, rfl, F, N, ⟨⟨ws, c, .head _, hI⟩, off_of (l := (cl, listOf (List.toArray ws) c) :: (D, od) :: news) l1, h0, by rw [List.length_take]; exact Nat.min_le_left _ _, by decide⟩, Int.le_refl _, fun y hy => .tail _ (.tail _ hy), hm, trivial⟩
theorem s1_b {h₀ h' : Heap} {L tp cl D D2 : Addr} {m' : Str → Option Value} {news : List (Addr × Obj)} {e c tk' : Nat} {ta u : Tok} {od od2 : Obj} {s : Shared} (F : Fr h₀ L h' m') (N : News h₀ L h' ((tp, listOf #[.ref cl, .int 0 ta] e) :: (cl, listOf #[.int 3 u] c) :: (D, od) :: (D2, od2) :: news))
    (l1 : cl < tp ∧ D < tp ∧ D2 < tp ∧ AllLt tp news) (hm : m' (Str.ofString "tape") = some (.ref tp)) : St h₀ L news 0 (fun _ _ => True) s { s with heap := h', toks := tk' } :=
  ⟨m', h', tk', ta, e, _, tp, cl, [3], 0, rfl, F, N, ⟨⟨[.int 3 u], c, .head _, IntsAre.cons _ _ .nil⟩, off_of (l := (cl, listOf #[.int 3 u] c) :: (D, od) :: (D2, od2) :: news) l1, by decide, by decide, by decide⟩, Int.le_refl _, fun y hy => .tail _ (.tail _ (.tail _ hy)), hm, trivial⟩

section
variable {w : World} {p : Program} {loose : List Str} {mean : ExcName → Option Value} {mg mb : Str → Option Value}
  {env : Env} {outer : List Env} {gd : Option (List Code)} {A₀ : Around} {base h₀ : Heap} {L : Addr} {m : Str → Option Value} {news : List (Addr × Obj)} {g : Obj → List (Addr × Obj)} {s : Shared} {Q E : Value → Shared → Prop}
  {D U : Nat} {r dr lt nd : Addr} {t1 t2 t3 tk ka : Tok} {q k : Int} {n : Nat} {l : List Tk}

theorem l_0 {fa : Addr} {cd : Value} {sc : Addr} {vs : List Value} {ns : List Int} (B : Below A₀ base outer h₀) (F : Fr h₀ L s.heap m) (X : (kdef.heap_1 w.params).In h₀) (N : News h₀ L s.heap news) (T : Top p loose mean mg mb h₀)
  (hsc : h₀.IsList sc vs.toArray) (hi : IntsAre vs ns) (hlen : ns.length ≤ 63) (hm : m (Str.ofString "script") = some (.ref sc)) :
  wpAny (model PG w) (ctx 700 3500 (lawEnv L fa cd) outer gd) (execs (lawPack.1.1.take 1) (lawEnv L fa cd)) (fun f s' => f = .next ∧ St h₀ L news 0 (fun _ _ => True) s s') E s := by
  simp only [lawPack, List.take_succ_cons, List.take_zero, List.drop_succ_cons, List.drop_zero, lawEnv]
  (repeat' (first | (with_reducible refine unstp ?_; first | (refine goM ?_; k_dflt walk1) | (k_dflt (dsimp only); refine stp ?_)) | (k_unfold; (first | with_reducible refine (?_ : wpAny _ _ _ _ _ _) | (try dsimp only))) | (k_end; wrow_close) | walk1 | (dsimp only; walk1) | (leave1; walk_say "STEP leave1"; try dsimp only) | fail "no step"))
  all_goals first | exact s1_a (by k_asm) (by k_asm) (by assumption) (by assumption) (by assumption) (if_pos rfl) | exact s1_b (by k_asm) (by k_asm) (by assumption) (if_pos rfl)
end


theorem TapeAt.ne {tp cl : Addr} {a : Int} {ns : List Int} {rest : List (Addr × Obj)} (t : TapeAt tp cl a ns rest) : tp ≠ cl := by
  obtain ⟨cvs, e3, h, _⟩ := t.ex
  exact fun q => t.off _ h q.symm
inductive P3 (two : Bool) (low high : Int) (m : Str → Option Value) (x_ : List (Addr × Obj)) : Prop
  | mk (u1 : _) (u2 : _) (f1 : m (Str.ofString "has_two") = some (.bool two)) (f2 : m (Str.ofString "low") = some (.int low u1)) (f3 : m (Str.ofString "high") = some (.int high u2)) (f4 : 0 ≤ low) (f5 : low ≤ 3) (f6 : 0 ≤ high) (f7 : high ≤ 5) (f8 : (two = false → high = low)) : P3 two low high m x_
inductive P3e (m : Str → Option Value) (nw : List (Addr × Obj)) : Prop
  | mk (two : _) (low : _) (high : _) (f1 : P3 two low high m nw) : P3e m nw
theorem p3_a {m : Str → Option Value} {nw : List (Addr × Obj)} {t v w : Int} {u1 u2 : Tok} (h1 : m (Str.ofString "has_two") = some (.bool (decide (0 < t)))) (h2 : m (Str.ofString "low") = some (.int v u1))
    (h3 : m (Str.ofString "high") = some (.int (if v + w - 1 > 0 then v + w - 1 else 0) u2)) (ht : 0 < t) (v0 : 0 ≤ v) (v1 : v < 4) (w0 : 0 ≤ w) (w1 : w < 4) : P3e m nw :=
  ⟨_, _, _, u1, u2, h1, h2, h3, v0, by omega, by split <;> omega, by split <;> omega, fun h => absurd ht (of_decide_eq_false h)⟩
theorem p3_b {m : Str → Option Value} {nw : List (Addr × Obj)} {t v : Int} {u1 u2 : Tok} (h1 : m (Str.ofString "has_two") = some (.bool (decide (0 < t)))) (h2 : m (Str.ofString "low") = some (.int v u1))
    (h3 : m (Str.ofString "high") = some (.int (if v > 0 then v else 0) u2)) (v0 : 0 ≤ v) (v1 : v < 4) : P3e m nw :=
  ⟨_, _, _, u1, u2, h1, h2, h3, v0, by omega, by split <;> omega, by split <;> omega, fun _ => by split <;> omega⟩
theorem st_end {h₀ h' : Heap} {L tp cl : Addr} {m' : Str → Option Value} {keep big rest : List (Addr × Obj)} {ns : List Int} {a bd : Int} {e tk' : Nat} {ta : Tok} {P : (Str → Option Value) → List (Addr × Obj) → Prop} {s : Shared} (F : Fr h₀ L h' m') (N : News h₀ L h' big)
    (sub : ∀ x ∈ (tp, listOf #[.ref cl, .int a ta] e) :: rest, x ∈ big) (ht : TapeAt tp cl a ns rest) (hab : a ≤ bd) (hkeep : ∀ y ∈ keep, y ∈ rest) (hm : m' (Str.ofString "tape") = some (.ref tp)) (hP : P m' rest) : St h₀ L keep bd P s { s with heap := h', toks := tk' } :=
  ⟨m', h', tk', ta, e, rest, tp, cl, ns, a, rfl, F, fun x hx => N x (sub x hx), ht, hab, hkeep, hm, hP⟩

section
variable {w : World} {p : Program} {loose : List Str} {mean : ExcName → Option Value} {mg mb : Str → Option Value}
  {env : Env} {outer : List Env} {gd : Option (List Code)} {A₀ : Around} {base h₀ : Heap} {L : Addr} {m : Str → Option Value} {news : List (Addr × Obj)} {g : Obj → List (Addr × Obj)} {s : Shared} {Q E : Value → Shared → Prop}
  {D U : Nat} {r dr lt nd : Addr} {t1 t2 t3 tk ka : Tok} {q k : Int} {n : Nat} {l : List Tk}
local macro_rules | `(tactic| k_mem) => `(tactic| walk_at "own:m3")
local macro_rules | `(tactic| walk_at "call ref") => `(tactic| (goal_lacks GoM; refine stp ?_))

theorem l_1 {fa : Addr} {cd : Value} {keep : List (Addr × Obj)} {s₀ : Shared} (B : Below A₀ base outer h₀) (X : (kdef.heap_1 w.params).In h₀) (T : Top p loose mean mg mb h₀) (hs : St h₀ L keep 0 (fun _ _ => True) s₀ s) :
  wpAny (model PG w) (ctx 700 3500 (lawEnv L fa cd) outer gd) (execs ((lawPack.1.1.drop 1).take 3) (lawEnv L fa cd)) (fun f s' => f = .next ∧ St h₀ L keep 3 P3e s₀ s') E s := by
  refine St.elim hs ?_
  intro m h tk' ta e rest tp cl ns a F N ht hab hkeep hmt hP
  clear hs
  have hne := ht.ne
  have hne1 := neN hne
  obtain ⟨⟨cvs, e3, hcl, hi⟩, hrest, hl0, hl1, ha0⟩ := ht
  simp only [lawPack, List.take_succ_cons, List.take_zero, List.drop_succ_cons, List.drop_zero, lawEnv]
  (repeat' (first | (with_reducible refine unstp ?_; first | ((k_here; (with_reducible show wpAny _ _ (call (Value.ref 413) [_, _] []) _ _ _); k_dflt (refine' draw_c ?hD ?hU ?B ?F ?X ?N ?T ?hf ?hke ?hu ?hc ?hne ?hi ?hl0 ?hl1 ?ha0 ?ha1 ?hm0 ?hm1 ?_; (case hD => exact Nat.le_of_ble_eq_true rfl); (case hU => exact Nat.le_of_ble_eq_true rfl); (case B => k_asm); (case F => k_asm); (case X => k_asm); (case N => k_asm); (case T => k_asm); (case hf => rfl); (case hke => rfl); (case hu => k_updF); (case hc => k_mem); (case hne => assumption); (case hi => assumption); (case hl0 => assumption); (case hl1 => assumption); (case ha0 => omega); (case ha1 => omega); (case hm0 => decide); (case hm1 => decide); k_whole); intro v9z' u9z' h9z' tk9z' tb9z' e9z' hv09z' hv19z' F9z' N9z'; (try dsimp only at N9z'))) | (refine goM ?_; k_dflt walk1) | (k_dflt (dsimp only); refine stp ?_)) | (k_unfold; (first | with_reducible refine (?_ : wpAny _ _ _ _ _ _) | (try dsimp only))) | (k_end; wrow_close) | walk1 | (dsimp only; walk1) | (leave1; walk_say "STEP leave1"; try dsimp only) | fail "no step"))
  · exact st_end (by k_asm) (by k_asm) (fun x hx => .tail _ hx) ⟨⟨cvs, e3, hcl, hi⟩, hrest, hl0, hl1, by omega⟩ (by omega) hkeep (by (try dsimp only); first | assumption | rfl | (simp (decide := true) only [reduceIte]; done) | (simp (decide := true) only [reduceIte]; assumption)) (p3_a (by (try dsimp only); first | assumption | rfl | (simp (decide := true) only [reduceIte]; done) | (simp (decide := true) only [reduceIte]; assumption)) (by (try dsimp only); first | assumption | rfl | (simp (decide := true) only [reduceIte]; done) | (simp (decide := true) only [reduceIte]; assumption)) (by (try dsimp only); first | assumption | rfl | (simp (decide := true) only [reduceIte]; done) | (simp (decide := true) only [reduceIte]; assumption)) (by assumption) (by assumption) (by assumption) (by assumption) (by assumption))
  · exact st_end (by k_asm) (by k_asm) (fun x hx => .tail _ hx) ⟨⟨cvs, e3, hcl, hi⟩, hrest, hl0, hl1, by omega⟩ (by omega) hkeep (by (try dsimp only); first | assumption | rfl | (simp (decide := true) only [reduceIte]; done) | (simp (decide := true) only [reduceIte]; assumption)) (p3_b (by (try dsimp only); first | assumption | rfl | (simp (decide := true) only [reduceIte]; done) | (simp (decide := true) only [reduceIte]; assumption)) (by (try dsimp only); first | assumption | rfl | (simp (decide := true) only [reduceIte]; done) | (simp (decide := true) only [reduceIte]; assumption)) (by (try dsimp only); first | assumption | rfl | (simp (decide := true) only [reduceIte]; done) | (simp (decide := true) only [reduceIte]; assumption)) (by assumption) (by assumption))
end


inductive SV : List Value → List Str → Prop
  | nil : SV [] []
  | cons {vs : List Value} {W : List Str} (x : Str) (u : Tok) : SV vs W → SV (.str x u :: vs) (x :: W)
theorem SV.append {a b : List Value} {V W : List Str} (h : SV a V) (k : SV b W) : SV (a ++ b) (V ++ W) := by
  induction h with
  | nil => exact k
  | cons x u _ ih => exact .cons x u ih
theorem SV.len {a : List Value} {V : List Str} (h : SV a V) : a.length = V.length := by
  induction h with
  | nil => rfl
  | cons x u _ ih => simp [ih]
theorem SV.get {a : List Value} {V : List Str} (h : SV a V) : ∀ i (hi : i < V.length), ∃ u, a[i]? = some (.str V[i] u) := by
  induction h with
  | nil => intro i hi; simp at hi
  | cons x u _ ih =>
    intro i hi
    cases i with
    | zero => exact ⟨u, rfl⟩
    | succ i => simpa using ih i (by simpa using hi)
noncomputable def dg (n : Int) : Str := Str.ofString (toString n)
theorem dg_in {n : Int} (h0 : 0 ≤ n) (h5 : n ≤ 5) : (dg n, n) ∈ digits := by
  have : n = 0 ∨ n = 1 ∨ n = 2 ∨ n = 3 ∨ n = 4 ∨ n = 5 := by omega
  rcases this with rfl | rfl | rfl | rfl | rfl | rfl <;> decide +kernel
inductive PW (W : List Str) (m : Str → Option Value) (nw : List (Addr × Obj)) : Prop
  | mk (w : _) (wv : _) (ew : _) (f1 : m (Str.ofString "words") = some (.ref w)) (f2 : (w, listOf (List.toArray wv) ew) ∈ nw) (f3 : SV wv W) : PW W m nw
inductive P4e (m : Str → Option Value) (nw : List (Addr × Obj)) : Prop
  | mk (two : _) (low : _) (high : _) (times : _) (f1 : P3 two low high m nw) (f2 : PW (WA (dg low) (dg high) two times) m nw) : P4e m nw
theorem sub_3 {a b c d : Addr × Obj} {rest : List (Addr × Obj)} : ∀ x ∈ d :: a :: rest, x ∈ a :: b :: c :: d :: rest := fun x hx => by
  simp only [List.mem_cons] at hx ⊢
  rcases hx with q | q | q <;> simp [q]
theorem sub_2 {a b d : Addr × Obj} {rest : List (Addr × Obj)} : ∀ x ∈ d :: a :: rest, x ∈ a :: b :: d :: rest := fun x hx => by
  simp only [List.mem_cons] at hx ⊢
  rcases hx with q | q | q <;> simp [q]
theorem sub_k {a : Addr × Obj} {keep rest : List (Addr × Obj)} (h : ∀ y ∈ keep, y ∈ rest) : ∀ y ∈ keep, y ∈ a :: rest := fun y hy => .tail _ (h y hy)
theorem TapeAt.more {tp cl D : Addr} {b : Int} {o : Obj} {ns : List Int} {rest : List (Addr × Obj)} {cvs : List Value} {e3 : Nat} (hcl : (cl, listOf (List.toArray cvs) e3) ∈ rest) (hi : IntsAre cvs ns) (hrest : ∀ q ∈ rest, q.1 ≠ tp) (hl0 : 0 < ns.length) (hl1 : ns.length ≤ 40) (hD : tp < D) (hb : 0 ≤ b) : TapeAt tp cl b ns ((D, o) :: rest) :=
  ⟨⟨cvs, e3, .tail _ hcl, hi⟩, fun q hq => by
    rcases List.mem_cons.mp hq with z | hq
    · rw [z]; exact Nat.ne_of_gt hD
    · exact hrest q hq, hl0, hl1, hb⟩

section
variable {w : World} {p : Program} {loose : List Str} {mean : ExcName → Option Value} {mg mb : Str → Option Value}
  {env : Env} {outer : List Env} {gd : Option (List Code)} {A₀ : Around} {base h₀ : Heap} {L : Addr} {m : Str → Option Value} {news : List (Addr × Obj)} {g : Obj → List (Addr × Obj)} {s : Shared} {Q E : Value → Shared → Prop}
  {D U : Nat} {r dr lt nd : Addr} {t1 t2 t3 tk ka : Tok} {q k : Int} {n : Nat} {l : List Tk}
local macro_rules | `(tactic| k_mem) => `(tactic| walk_at "own:m3")
local macro_rules | `(tactic| walk_at "call ref") => `(tactic| (goal_lacks GoM; refine stp ?_))

theorem l_2 {fa : Addr} {cd : Value} {keep : List (Addr × Obj)} {s₀ : Shared} (B : Below A₀ base outer h₀) (X : (kdef.heap_1 w.params).In h₀) (T : Top p loose mean mg mb h₀) (hs : St h₀ L keep 3 P3e s₀ s) :
  wpAny (model PG w) (ctx 700 3500 (lawEnv L fa cd) outer gd) (execs ((lawPack.1.1.drop 4).take 2) (lawEnv L fa cd)) (fun f s' => f = .next ∧ St h₀ L keep 4 P4e s₀ s') E s := by
  refine St.elim hs ?_
  intro m h tk' ta e rest tp cl ns a F N ht hab hkeep hmt hP
  clear hs
  have hne := ht.ne
  have hne1 := neN hne
  obtain ⟨⟨cvs, e3, hcl, hi⟩, hrest, hl0, hl1, ha0⟩ := ht
  obtain ⟨two, low, high, u1, u2, hm1, hm2, hm3, p1, p2, p3, p4, p5⟩ := hP
  simp only [lawPack, List.take_succ_cons, List.take_zero, List.drop_succ_cons, List.drop_zero, lawEnv]
  cases two with
  | true =>
    (repeat' (first | (with_reducible refine unstp ?_; first | ((k_here; (with_reducible show wpAny _ _ (call (Value.ref 413) [_, _] []) _ _ _); k_dflt (refine' draw_c ?hD ?hU ?B ?F ?X ?N ?T ?hf ?hke ?hu ?hc ?hne ?hi ?hl0 ?hl1 ?ha0 ?ha1 ?hm0 ?hm1 ?_; (case hD => exact Nat.le_of_ble_eq_true rfl); (case hU => exact Nat.le_of_ble_eq_true rfl); (case B => k_asm); (case F => k_asm); (case X => k_asm); (case N => k_asm); (case T => k_asm); (case hf => rfl); (case hke => rfl); (case hu => k_updF); (case hc => k_mem); (case hne => assumption); (case hi => assumption); (case hl0 => assumption); (case hl1 => assumption); (case ha0 => omega); (case ha1 => omega); (case hm0 => decide); (case hm1 => decide); k_whole); intro v9z' u9z' h9z' tk9z' tb9z' e9z' hv09z' hv19z' F9z' N9z'; (try dsimp only at N9z'))) | (refine goM ?_; k_dflt walk1) | (k_dflt (dsimp only); refine stp ?_)) | (k_unfold; (first | with_reducible refine (?_ : wpAny _ _ _ _ _ _) | (try dsimp only))) | (k_end; wrow_close) | walk1 | (dsimp only; walk1) | (leave1; walk_say "STEP leave1"; try dsimp only) | fail "no step"))
    · exact st_end (by k_asm) (by k_asm) sub_3 (TapeAt.more hcl hi hrest hl0 hl1 (ltN (by omega)) (by omega)) (by omega) (sub_k hkeep) (by (try dsimp only); first | assumption | rfl | (simp (decide := true) only [reduceIte]; done) | (simp (decide := true) only [reduceIte]; assumption)) ⟨true, low, high, true, ⟨u1, u2, (by (try dsimp only); first | assumption | rfl | (simp (decide := true) only [reduceIte]; done) | (simp (decide := true) only [reduceIte]; assumption)), (by (try dsimp only); first | assumption | rfl | (simp (decide := true) only [reduceIte]; done) | (simp (decide := true) only [reduceIte]; assumption)), (by (try dsimp only); first | assumption | rfl | (simp (decide := true) only [reduceIte]; done) | (simp (decide := true) only [reduceIte]; assumption)), p1, p2, p3, p4, p5⟩, _, [.str _ _, .str _ _, .str _ _, .str _ _], _, (by (try dsimp only); first | assumption | rfl | (simp (decide := true) only [reduceIte]; done) | (simp (decide := true) only [reduceIte]; assumption)), .head _, (.cons _ _ (.cons _ _ (.cons _ _ (.cons _ _ .nil))))⟩
    · exact st_end (by k_asm) (by k_asm) sub_3 (TapeAt.more hcl hi hrest hl0 hl1 (ltN (by omega)) (by omega)) (by omega) (sub_k hkeep) (by (try dsimp only); first | assumption | rfl | (simp (decide := true) only [reduceIte]; done) | (simp (decide := true) only [reduceIte]; assumption)) ⟨true, low, high, false, ⟨u1, u2, (by (try dsimp only); first | assumption | rfl | (simp (decide := true) only [reduceIte]; done) | (simp (decide := true) only [reduceIte]; assumption)), (by (try dsimp only); first | assumption | rfl | (simp (decide := true) only [reduceIte]; done) | (simp (decide := true) only [reduceIte]; assumption)), (by (try dsimp only); first | assumption | rfl | (simp (decide := true) only [reduceIte]; done) | (simp (decide := true) only [reduceIte]; assumption)), p1, p2, p3, p4, p5⟩, _, [.str _ _, .str _ _, .str _ _], _, (by (try dsimp only); first | assumption | rfl | (simp (decide := true) only [reduceIte]; done) | (simp (decide := true) only [reduceIte]; assumption)), .head _, (.cons _ _ (.cons _ _ (.cons _ _ .nil)))⟩
  | false =>
    (repeat' (first | (with_reducible refine unstp ?_; first | ((k_here; (with_reducible show wpAny _ _ (call (Value.ref 413) [_, _] []) _ _ _); k_dflt (refine' draw_c ?hD ?hU ?B ?F ?X ?N ?T ?hf ?hke ?hu ?hc ?hne ?hi ?hl0 ?hl1 ?ha0 ?ha1 ?hm0 ?hm1 ?_; (case hD => exact Nat.le_of_ble_eq_true rfl); (case hU => exact Nat.le_of_ble_eq_true rfl); (case B => k_asm); (case F => k_asm); (case X => k_asm); (case N => k_asm); (case T => k_asm); (case hf => rfl); (case hke => rfl); (case hu => k_updF); (case hc => k_mem); (case hne => assumption); (case hi => assumption); (case hl0 => assumption); (case hl1 => assumption); (case ha0 => omega); (case ha1 => omega); (case hm0 => decide); (case hm1 => decide); k_whole); intro v9z' u9z' h9z' tk9z' tb9z' e9z' hv09z' hv19z' F9z' N9z'; (try dsimp only at N9z'))) | (refine goM ?_; k_dflt walk1) | (k_dflt (dsimp only); refine stp ?_)) | (k_unfold; (first | with_reducible refine (?_ : wpAny _ _ _ _ _ _) | (try dsimp only))) | (k_end; wrow_close) | walk1 | (dsimp only; walk1) | (leave1; walk_say "STEP leave1"; try dsimp only) | fail "no step"))
    · exact st_end (by k_asm) (by k_asm) sub_3 (TapeAt.more hcl hi hrest hl0 hl1 (ltN (by omega)) (by omega)) (by omega) (sub_k hkeep) (by (try dsimp only); first | assumption | rfl | (simp (decide := true) only [reduceIte]; done) | (simp (decide := true) only [reduceIte]; assumption)) ⟨false, low, high, true, ⟨u1, u2, (by (try dsimp only); first | assumption | rfl | (simp (decide := true) only [reduceIte]; done) | (simp (decide := true) only [reduceIte]; assumption)), (by (try dsimp only); first | assumption | rfl | (simp (decide := true) only [reduceIte]; done) | (simp (decide := true) only [reduceIte]; assumption)), (by (try dsimp only); first | assumption | rfl | (simp (decide := true) only [reduceIte]; done) | (simp (decide := true) only [reduceIte]; assumption)), p1, p2, p3, p4, p5⟩, _, [.str _ _, .str _ _], _, (by (try dsimp only); first | assumption | rfl | (simp (decide := true) only [reduceIte]; done) | (simp (decide := true) only [reduceIte]; assumption)), .head _, (.cons _ _ (.cons _ _ .nil))⟩
    · exact st_end (by k_asm) (by k_asm) sub_3 (TapeAt.more hcl hi hrest hl0 hl1 (ltN (by omega)) (by omega)) (by omega) (sub_k hkeep) (by (try dsimp only); first | assumption | rfl | (simp (decide := true) only [reduceIte]; done) | (simp (decide := true) only [reduceIte]; assumption)) ⟨false, low, high, false, ⟨u1, u2, (by (try dsimp only); first | assumption | rfl | (simp (decide := true) only [reduceIte]; done) | (simp (decide := true) only [reduceIte]; assumption)), (by (try dsimp only); first | assumption | rfl | (simp (decide := true) only [reduceIte]; done) | (simp (decide := true) only [reduceIte]; assumption)), (by (try dsimp only); first | assumption | rfl | (simp (decide := true) only [reduceIte]; done) | (simp (decide := true) only [reduceIte]; assumption)), p1, p2, p3, p4, p5⟩, _, [.str _ _], _, (by (try dsimp only); first | assumption | rfl | (simp (decide := true) only [reduceIte]; done) | (simp (decide := true) only [reduceIte]; assumption)), .head _, (.cons _ _ .nil)⟩
end


theorem news_dup {h₀ h : Heap} {L : Addr} {a b : Addr × Obj} {rest : List (Addr × Obj)} (N : News h₀ L h (a :: rest)) (hb : b ∈ rest) : News h₀ L h (a :: b :: rest) := fun x hx => N x (by
  rcases List.mem_cons.mp hx with q | hx
  · rw [q]; exact .head _
  · rcases List.mem_cons.mp hx with q | hx
    · rw [q]; exact .tail _ hb
    · exact .tail _ hx)

section
variable {w : World} {p : Program} {loose : List Str} {mean : ExcName → Option Value} {mg mb : Str → Option Value}
  {env : Env} {outer : List Env} {gd : Option (List Code)} {A₀ : Around} {base h₀ : Heap} {L : Addr} {m : Str → Option Value} {news : List (Addr × Obj)} {g : Obj → List (Addr × Obj)} {s : Shared} {Q E : Value → Shared → Prop}
  {D U : Nat} {r dr lt nd : Addr} {t1 t2 t3 tk ka : Tok} {q k : Int} {n : Nat} {l : List Tk}

theorem draw_is4 {tp cl : Addr} {cvs : List Value} {ns : List Int} {e e3 : Nat} {a : Int} {ta tm : Tok} (hDD : D ≤ 850) (hU : U ≤ 4250) (B : Below A₀ base outer h₀) (F : Fr h₀ L s.heap m) (X : (kdef.heap_1 w.params).In h₀) (N : News h₀ L s.heap news)
  (T : Top p loose mean mg mb h₀) (hf : env.frame = some L) (hke : env.scope.kind = .function) (hu : UpdF tp (listOf #[.ref cl, .int a ta] e) news g) (hc : (cl, listOf (List.toArray cvs) e3) ∈ news) (hne : tp ≠ cl) (hi : IntsAre cvs ns) (hl0 : 0 < ns.length) (hl1 : ns.length ≤ 40) (ha0 : 0 ≤ a) (ha1 : a < 100)
  (r0 : ∀ u h' tk' tb e', Fr h₀ L h' m → News h₀ L h' (g (listOf #[.ref cl, .int (a + 1) tb] e')) → Q (.int 0 u) { s with heap := h', toks := tk' })
  (r1 : ∀ u h' tk' tb e', Fr h₀ L h' m → News h₀ L h' (g (listOf #[.ref cl, .int (a + 1) tb] e')) → Q (.int 1 u) { s with heap := h', toks := tk' })
  (r2 : ∀ u h' tk' tb e', Fr h₀ L h' m → News h₀ L h' (g (listOf #[.ref cl, .int (a + 1) tb] e')) → Q (.int 2 u) { s with heap := h', toks := tk' })
  (r3 : ∀ u h' tk' tb e', Fr h₀ L h' m → News h₀ L h' (g (listOf #[.ref cl, .int (a + 1) tb] e')) → Q (.int 3 u) { s with heap := h', toks := tk' }) :
  wpAny (model PG w) (ctx D U env outer gd) (call (.ref 413) [.ref tp, .int 4 tm]) Q E s := by
  refine draw_c hDD hU B F X N T hf hke hu hc hne hi hl0 hl1 ha0 ha1 (by decide) (by decide) fun v u h' tk' tb e' h0 h1 F' N' => ?_
  have hv : v = 0 ∨ v = 1 ∨ v = 2 ∨ v = 3 := by omega
  rcases hv with rfl | rfl | rfl | rfl
  · exact r0 u h' tk' tb e' F' N'
  · exact r1 u h' tk' tb e' F' N'
  · exact r2 u h' tk' tb e' F' N'
  · exact r3 u h' tk' tb e' F' N'

theorem draw_is3 {tp cl : Addr} {cvs : List Value} {ns : List Int} {e e3 : Nat} {a : Int} {ta tm : Tok} (hDD : D ≤ 850) (hU : U ≤ 4250) (B : Below A₀ base outer h₀) (F : Fr h₀ L s.heap m) (X : (kdef.heap_1 w.params).In h₀) (N : News h₀ L s.heap news)
  (T : Top p loose mean mg mb h₀) (hf : env.frame = some L) (hke : env.scope.kind = .function) (hu : UpdF tp (listOf #[.ref cl, .int a ta] e) news g) (hc : (cl, listOf (List.toArray cvs) e3) ∈ news) (hne : tp ≠ cl) (hi : IntsAre cvs ns) (hl0 : 0 < ns.length) (hl1 : ns.length ≤ 40) (ha0 : 0 ≤ a) (ha1 : a < 100)
  (r0 : ∀ u h' tk' tb e', Fr h₀ L h' m → News h₀ L h' (g (listOf #[.ref cl, .int (a + 1) tb] e')) → Q (.int 0 u) { s with heap := h', toks := tk' })
  (r1 : ∀ u h' tk' tb e', Fr h₀ L h' m → News h₀ L h' (g (listOf #[.ref cl, .int (a + 1) tb] e')) → Q (.int 1 u) { s with heap := h', toks := tk' })
  (r2 : ∀ u h' tk' tb e', Fr h₀ L h' m → News h₀ L h' (g (listOf #[.ref cl, .int (a + 1) tb] e')) → Q (.int 2 u) { s with heap := h', toks := tk' }) :
  wpAny (model PG w) (ctx D U env outer gd) (call (.ref 413) [.ref tp, .int 3 tm]) Q E s := by
  refine draw_c hDD hU B F X N T hf hke hu hc hne hi hl0 hl1 ha0 ha1 (by decide) (by decide) fun v u h' tk' tb e' h0 h1 F' N' => ?_
  have hv : v = 0 ∨ v = 1 ∨ v = 2 := by omega
  rcases hv with rfl | rfl | rfl
  · exact r0 u h' tk' tb e' F' N'
  · exact r1 u h' tk' tb e' F' N'
  · exact r2 u h' tk' tb e' F' N'

theorem draw_is2 {tp cl : Addr} {cvs : List Value} {ns : List Int} {e e3 : Nat} {a : Int} {ta tm : Tok} (hDD : D ≤ 850) (hU : U ≤ 4250) (B : Below A₀ base outer h₀) (F : Fr h₀ L s.heap m) (X : (kdef.heap_1 w.params).In h₀) (N : News h₀ L s.heap news)
  (T : Top p loose mean mg mb h₀) (hf : env.frame = some L) (hke : env.scope.kind = .function) (hu : UpdF tp (listOf #[.ref cl, .int a ta] e) news g) (hc : (cl, listOf (List.toArray cvs) e3) ∈ news) (hne : tp ≠ cl) (hi : IntsAre cvs ns) (hl0 : 0 < ns.length) (hl1 : ns.length ≤ 40) (ha0 : 0 ≤ a) (ha1 : a < 100)
  (r0 : ∀ u h' tk' tb e', Fr h₀ L h' m → News h₀ L h' (g (listOf #[.ref cl, .int (a + 1) tb] e')) → Q (.int 0 u) { s with heap := h', toks := tk' })
  (r1 : ∀ u h' tk' tb e', Fr h₀ L h' m → News h₀ L h' (g (listOf #[.ref cl, .int (a + 1) tb] e')) → Q (.int 1 u) { s with heap := h', toks := tk' }) :
  wpAny (model PG w) (ctx D U env outer gd) (call (.ref 413) [.ref tp, .int 2 tm]) Q E s := by
  refine draw_c hDD hU B F X N T hf hke hu hc hne hi hl0 hl1 ha0 ha1 (by decide) (by decide) fun v u h' tk' tb e' h0 h1 F' N' => ?_
  have hv : v = 0 ∨ v = 1 := by omega
  rcases hv with rfl | rfl
  · exact r0 u h' tk' tb e' F' N'
  · exact r1 u h' tk' tb e' F' N'
end

theorem add_sv {prog : Program} {w : World} {A : Around} {E : Value → Shared → Prop} {s : Shared} {h₀ : Heap} {L : Addr} {m : Str → Option Value} {news : List (Addr × Obj)} {l b : Addr} {xs ys : List Value} {e1 e2 : Nat} {V W : List Str} {Q : Value → Shared → Prop} (F : Fr h₀ L s.heap m) (N : News h₀ L s.heap news)
    (hl : (l, listOf (List.toArray xs) e1) ∈ news) (hb : (b, listOf (List.toArray ys) e2) ∈ news) (sx : SV xs V) (sy : SV ys W) (hz : V.length + W.length ≤ 1000)
    (h : ∀ D vs h', Fr h₀ L h' m → News h₀ L h' ((D, listOf (List.toArray vs) 0) :: news) → (∀ p ∈ news, p.1 < D) → SV vs (V ++ W) → Q (.ref D) { s with heap := h' }) : wpAny (model prog w) A (binaryOp .Add (.ref l) (.ref b)) Q E s := by
  have z1 := sx.len
  have z2 := sy.len
  refine add_lists (vs := xs) (ws := ys) (hsz := by rw [sizeLine_eq]; omega) F N (News.isList N hl) (News.isList N hb) fun h' F' N' => ?_
  exact h _ _ h' F' N' (fun p hp => Heap.lt_size (N p hp).1) (sx.append sy)
theorem SV.cast {vs : List Value} {V W : List Str} (h : SV vs V) (e : V = W) : SV vs W := e ▸ h


noncomputable def Pway (way : Int) (m : Str → Option Value) (nw : List (Addr × Obj)) : Prop := (∃ u, m (Str.ofString "way") = some (.int way u)) ∧ m (Str.ofString "depending") = some .none ∧ P4e m nw
inductive P45 (m : Str → Option Value) (nw : List (Addr × Obj)) : Prop
  | mk (way : _) (f1 : 0 ≤ way) (f2 : way < 4) (f3 : Pway way m nw) : P45 m nw
theorem PW.mono {W : List Str} {m m' : Str → Option Value} {nw nw' : List (Addr × Obj)} (h : PW W m nw) (hm : m' (Str.ofString "words") = m (Str.ofString "words")) (hs : ∀ y ∈ nw, y ∈ nw') : PW W m' nw' := by
  obtain ⟨w, wv, ew, h1, h2, h3⟩ := h
  exact ⟨w, wv, ew, hm.trans h1, hs _ h2, h3⟩

section
variable {w : World} {p : Program} {loose : List Str} {mean : ExcName → Option Value} {mg mb : Str → Option Value}
  {env : Env} {outer : List Env} {gd : Option (List Code)} {A₀ : Around} {base h₀ : Heap} {L : Addr} {m : Str → Option Value} {news : List (Addr × Obj)} {g : Obj → List (Addr × Obj)} {s : Shared} {Q E : Value → Shared → Prop}
  {D U : Nat} {r dr lt nd : Addr} {t1 t2 t3 tk ka : Tok} {q k : Int} {n : Nat} {l : List Tk}
local macro_rules | `(tactic| k_mem) => `(tactic| walk_at "own:m3")
local macro_rules | `(tactic| walk_at "call ref") => `(tactic| (goal_lacks GoM; refine stp ?_))

theorem l_3 {fa : Addr} {cd : Value} {keep : List (Addr × Obj)} {s₀ : Shared} (B : Below A₀ base outer h₀) (X : (kdef.heap_1 w.params).In h₀) (T : Top p loose mean mg mb h₀) (hs : St h₀ L keep 4 P4e s₀ s) :
  wpAny (model PG w) (ctx 700 3500 (lawEnv L fa cd) outer gd) (execs ((lawPack.1.1.drop 6).take 1) (lawEnv L fa cd)) (fun f s' => f = .next ∧ St h₀ L keep 5 P45 s₀ s') E s := by
  refine St.elim hs ?_
  intro m h tk' ta e rest tp cl ns a F N ht hab hkeep hmt hP
  clear hs
  have hne := ht.ne
  have hne1 := neN hne
  obtain ⟨⟨cvs, e3, hcl, hi⟩, hrest, hl0, hl1, ha0⟩ := ht
  obtain ⟨two, low, high, times, ⟨u1, u2, hm1, hm2, hm3, p1, p2, p3, p4, p5⟩, w9, wv, ew, hmw, hwm, hsv⟩ := hP
  simp only [lawPack, List.take_succ_cons, List.take_zero, List.drop_succ_cons, List.drop_zero, lawEnv]
  (repeat' (first | (with_reducible refine unstp ?_; first | ((k_here; (with_reducible show wpAny _ _ (call (Value.ref 413) [_, _] []) _ _ _); k_dflt (refine' draw_c ?hD ?hU ?B ?F ?X ?N ?T ?hf ?hke ?hu ?hc ?hne ?hi ?hl0 ?hl1 ?ha0 ?ha1 ?hm0 ?hm1 ?_; (case hD => exact Nat.le_of_ble_eq_true rfl); (case hU => exact Nat.le_of_ble_eq_true rfl); (case B => k_asm); (case F => k_asm); (case X => k_asm); (case N => k_asm); (case T => k_asm); (case hf => rfl); (case hke => rfl); (case hu => k_updF); (case hc => k_mem); (case hne => assumption); (case hi => assumption); (case hl0 => assumption); (case hl1 => assumption); (case ha0 => omega); (case ha1 => omega); (case hm0 => decide); (case hm1 => decide); k_whole); intro v9z' u9z' h9z' tk9z' tb9z' e9z' hv09z' hv19z' F9z' N9z'; (try dsimp only at N9z'))) | (refine goM ?_; k_dflt walk1) | (k_dflt (dsimp only); refine stp ?_)) | (k_unfold; (first | with_reducible refine (?_ : wpAny _ _ _ _ _ _) | (try dsimp only))) | (k_end; wrow_close) | walk1 | (dsimp only; walk1) | (leave1; walk_say "STEP leave1"; try dsimp only) | fail "no step"))
  exact st_end (by k_asm) (by k_asm) (fun x hx => .tail _ hx) ⟨⟨cvs, e3, hcl, hi⟩, hrest, hl0, hl1, by omega⟩ (by omega) hkeep (by (try dsimp only); first | assumption | rfl | (simp (decide := true) only [reduceIte]; done) | (simp (decide := true) only [reduceIte]; assumption)) ⟨_, by assumption, by assumption, ⟨_, (by (try dsimp only); first | assumption | rfl | (simp (decide := true) only [reduceIte]; done) | (simp (decide := true) only [reduceIte]; assumption))⟩, (by (try dsimp only); first | assumption | rfl | (simp (decide := true) only [reduceIte]; done) | (simp (decide := true) only [reduceIte]; assumption)), two, low, high, times, ⟨u1, u2, (by (try dsimp only); first | assumption | rfl | (simp (decide := true) only [reduceIte]; done) | (simp (decide := true) only [reduceIte]; assumption)), (by (try dsimp only); first | assumption | rfl | (simp (decide := true) only [reduceIte]; done) | (simp (decide := true) only [reduceIte]; assumption)), (by (try dsimp only); first | assumption | rfl | (simp (decide := true) only [reduceIte]; done) | (simp (decide := true) only [reduceIte]; assumption)), p1, p2, p3, p4, p5⟩, w9, wv, ew, (by (try dsimp only); first | assumption | rfl | (simp (decide := true) only [reduceIte]; done) | (simp (decide := true) only [reduceIte]; assumption)), hwm, hsv⟩
end


inductive P5 (way : Nat) (m : Str → Option Value) (nw : List (Addr × Obj)) : Prop
  | mk (two : _) (low : _) (high : _) (times : _) (on : _) (v : _) (f1 : P3 two low high m nw) (f2 : m (Str.ofString "depending") = some v) (f3 : DatIn nw v (depD (depOf way))) (f4 : PW (WA (dg low) (dg high) two times ++ WB way on) m nw) : P5 way m nw

theorem depK {nw : List (Addr × Obj)} {D1 D2 D3 : Addr} {u1 u2 : Tok} {vs : List Value} {qs : List Str} {n1 n2 n3 : Nat} (m1 : (D1, ({ cls := .type "tuple", data := .seq #[.str (Str.ofString "ref") u1, .str (Str.ofString "D") u2, .ref D2, .ref D3, .none] n1 } : Obj)) ∈ nw)
    (m2 : (D2, ({ cls := .type "tuple", data := .seq vs.toArray n2 } : Obj)) ∈ nw) (m3 : (D3, ({ cls := .type "tuple", data := .seq #[] n3 } : Obj)) ∈ nw) (h : DatAll nw vs (qs.map .str)) : DatIn nw (.ref D1) (depD (some (Str.ofString "D", qs))) :=
  .tuple (n := n1) m1 (.cons (.str _ _) (.cons (.str _ _) (.cons (.tuple (n := n2) m2 h) (.cons (.tuple (vs := []) (n := n3) m3 .nil) (.cons .none .nil)))))
theorem sub_w {a0 a1 a2 a3 a4 a5 a6 a7 a8 a9 a10 a11 a12 t w : Addr × Obj} {rest : List (Addr × Obj)} : ∀ x ∈ t :: a0 :: a9 :: a10 :: a11 :: rest, x ∈ a0 :: a1 :: a2 :: a3 :: a4 :: a5 :: a6 :: a7 :: a8 :: a9 :: a10 :: a11 :: a12 :: t :: w :: rest := fun x hx => by
  simp only [List.mem_cons] at hx ⊢
  rcases hx with q | q | q | q | q | q <;> simp [q]
theorem sub_v {a0 a1 a2 a3 a4 a5 a6 a7 a8 a9 a10 a11 t w : Addr × Obj} {rest : List (Addr × Obj)} : ∀ x ∈ t :: a0 :: a9 :: a10 :: a11 :: rest, x ∈ a0 :: a1 :: a2 :: a3 :: a4 :: a5 :: a6 :: a7 :: a8 :: a9 :: a10 :: a11 :: t :: w :: rest := fun x hx => by
  simp only [List.mem_cons] at hx ⊢
  rcases hx with q | q | q | q | q | q <;> simp [q]
theorem TapeAt.more4 {tp cl D1 D2 D3 D4 : Addr} {b : Int} {o1 o2 o3 o4 : Obj} {ns : List Int} {rest : List (Addr × Obj)} {cvs : List Value} {e3 : Nat} (hcl : (cl, listOf (List.toArray cvs) e3) ∈ rest) (hi : IntsAre cvs ns) (hrest : ∀ q ∈ rest, q.1 ≠ tp) (hl0 : 0 < ns.length) (hl1 : ns.length ≤ 40) (h1 : tp < D1) (h2 : tp < D2) (h3 : tp < D3) (h4 : tp < D4) (hb : 0 ≤ b) : TapeAt tp cl b ns ((D1, o1) :: (D2, o2) :: (D3, o3) :: (D4, o4) :: rest) :=
  ⟨⟨cvs, e3, .tail _ (.tail _ (.tail _ (.tail _ hcl))), hi⟩, fun q hq => by
    rcases List.mem_cons.mp hq with z | hq
    · rw [z]; exact Nat.ne_of_gt h1
    · rcases List.mem_cons.mp hq with z | hq
      · rw [z]; exact Nat.ne_of_gt h2
      · rcases List.mem_cons.mp hq with z | hq
        · rw [z]; exact Nat.ne_of_gt h3
        · rcases List.mem_cons.mp hq with z | hq
          · rw [z]; exact Nat.ne_of_gt h4
          · exact hrest q hq, hl0, hl1, hb⟩

section
variable {w : World} {p : Program} {loose : List Str} {mean : ExcName → Option Value} {mg mb : Str → Option Value}
  {env : Env} {outer : List Env} {gd : Option (List Code)} {A₀ : Around} {base h₀ : Heap} {L : Addr} {m : Str → Option Value} {news : List (Addr × Obj)} {g : Obj → List (Addr × Obj)} {s : Shared} {Q E : Value → Shared → Prop}
  {D U : Nat} {r dr lt nd : Addr} {t1 t2 t3 tk ka : Tok} {q k : Int} {n : Nat} {l : List Tk}
local macro_rules | `(tactic| k_mem) => `(tactic| walk_at "own:m1")
local macro_rules | `(tactic| walk_at "call ref") => `(tactic| (goal_lacks GoM; refine stp ?_))
local macro_rules | `(tactic| walk_at "subscriptTail Tuple") => `(tactic| (goal_lacks GoM; refine stp ?_))
local macro_rules | `(tactic| walk_at "subscriptTail List") => `(tactic| (goal_lacks GoM; refine stp ?_))
local macro_rules | `(tactic| walk_at "subscriptTail Name Slice ref ref") => `(tactic| (goal_lacks GoM; refine stp ?_))
local macro_rules | `(tactic| walk_at "binaryOp Add ref ref") => `(tactic| (goal_lacks GoM; refine stp ?_))

theorem l_4_0 {fa : Addr} {cd : Value} {keep : List (Addr × Obj)} {s₀ : Shared} (B : Below A₀ base outer h₀) (X : (kdef.heap_1 w.params).In h₀) (T : Top p loose mean mg mb h₀) (hs : St h₀ L keep 5 (Pway 0) s₀ s) :
  wpAny (model PG w) (ctx 700 3500 (lawEnv L fa cd) outer gd) (execs ((lawPack.1.1.drop 7).take 1) (lawEnv L fa cd)) (fun f s' => f = .next ∧ St h₀ L keep 6 (P5 0) s₀ s') E s := by
  refine St.elim hs ?_
  intro m h tk' ta e rest tp cl ns a F N ht hab hkeep hmt hP
  clear hs
  have hne := ht.ne
  have hne1 := neN hne
  obtain ⟨⟨cvs, e3, hcl, hi⟩, hrest, hl0, hl1, ha0⟩ := ht
  obtain ⟨⟨uw, hmy⟩, hmd, two, low, high, times, ⟨u1, u2, hm1, hm2, hm3, p1, p2, p3, p4, p5⟩, w9, wv, ew, hmw, hwm, hsv⟩ := hP
  simp only [lawPack, List.take_succ_cons, List.take_zero, List.drop_succ_cons, List.drop_zero, lawEnv]
  (repeat' (first | (with_reducible refine unstp ?_; first | ((k_here; (with_reducible show wpAny _ _ (binaryOp _ (Value.ref _) (Value.ref _)) _ _ _); k_dflt (refine' add_sv ?F ?N ?hl ?hb ?sx ?sy ?hz ?_; (case F => k_asm); (case N => k_asm); (case hl => k_mem); (case hb => k_mem); (case sx => first | assumption | exact SV.nil | exact SV.cons _ _ SV.nil | exact SV.cons _ _ (SV.cons _ _ SV.nil) | exact SV.cons _ _ (SV.cons _ _ (SV.cons _ _ SV.nil)) | exact SV.cons _ _ (SV.cons _ _ (SV.cons _ _ (SV.cons _ _ SV.nil)))); (case sy => first | assumption | exact SV.nil | exact SV.cons _ _ SV.nil | exact SV.cons _ _ (SV.cons _ _ SV.nil) | exact SV.cons _ _ (SV.cons _ _ (SV.cons _ _ SV.nil)) | exact SV.cons _ _ (SV.cons _ _ (SV.cons _ _ (SV.cons _ _ SV.nil)))); (case hz => ((try simp only [List.length_append, List.length_cons, List.length_nil]); first | (refine Nat.le_trans ?p9 ?q9; (case p9 => repeat' (with_reducible (first | assumption | refine Nat.add_le_add ?_ ?_ | exact Nat.le_refl _))); (case q9 => exact Nat.le_of_ble_eq_true rfl)) | omega)); k_whole); intro D9z' vs9z' h9z' F9z' N9z' l19z hsv9z'; (try dsimp only); (try k_lt l19z))) | ((k_here; (with_reducible show wpAny _ _ (subscriptTail (PySem.Expr.Name _ _) (PySem.Expr.Slice none _ none _) (Value.ref _) (Value.ref _)) _ _ _); k_dflt (refine' tup_upto (b := 0) ?F ?N ?t ?hy ?hb ?e ?hz ?_ ?hs ?hg; (case F => k_asm); (case N => k_asm); (case t => exact News.isTup (by k_asm) (by k_mem)); (case hy => decide); (case hb => exact Nat.le_of_ble_eq_true rfl); (case e => exact rfl); (case hz => exact Nat.le_of_ble_eq_true rfl); (case hs => with_unfolding_all rfl); (case hg => intro _; with_unfolding_all rfl); k_whole); intro D9z' h9z' F9z' N9z' l19z; (try dsimp only); (try k_lt l19z))) | ((k_here; (with_reducible show wpAny _ _ (subscriptTail (PySem.Expr.List _ _) (PySem.Expr.Slice _ _ _ _) _ _) _ _ _); k_dflt (refine kba_turn (value' := PySem.Expr.Name (PySem.Str.ofString "_") ⟨0, 0, 0, 0⟩) (fun _ => rfl) ?_))) | ((k_here; (with_reducible show wpAny _ _ (subscriptTail (PySem.Expr.Tuple _ _ _) (PySem.Expr.Slice _ _ _ _) _ _) _ _ _); k_dflt (refine kba_turn (value' := PySem.Expr.Name (PySem.Str.ofString "_") ⟨0, 0, 0, 0⟩) (fun _ => rfl) ?_))) | ((k_here; (with_reducible show wpAny _ _ (call (Value.ref 413) [_, Value.int 2 _] []) _ _ _); k_dflt (refine' draw_is2 ?hD ?hU ?B ?F ?X ?N ?T ?hf ?hke ?hu ?hc ?hne ?hi ?hl0 ?hl1 ?ha0 ?ha1 ?_ ?_; (case hD => exact Nat.le_of_ble_eq_true rfl); (case hU => exact Nat.le_of_ble_eq_true rfl); (case B => k_asm); (case F => k_asm); (case X => k_asm); (case N => k_asm); (case T => k_asm); (case hf => rfl); (case hke => rfl); (case hu => k_updF); (case hc => k_mem); (case hne => assumption); (case hi => assumption); (case hl0 => assumption); (case hl1 => assumption); (case ha0 => omega); (case ha1 => omega); k_whole) <;> (intro u9z' h9z' tk9z' tb9z' e9z' F9z' N9z'; (try dsimp only at N9z'); (try dsimp only)))) | (refine goM ?_; k_dflt walk1) | (k_dflt (dsimp only); refine stp ?_)) | (k_unfold; (first | with_reducible refine (?_ : wpAny _ _ _ _ _ _) | (try dsimp only))) | (k_end; wrow_close) | walk1 | (dsimp only; walk1) | (leave1; walk_say "STEP leave1"; try dsimp only) | fail "no step"))
  exact st_end (by k_asm) (by k_asm) (fun x hx => hx) ⟨⟨cvs, e3, hcl, hi⟩, hrest, hl0, hl1, by omega⟩ (by omega) hkeep (by (try dsimp only); first | assumption | rfl | (simp (decide := true) only [reduceIte]; done) | (simp (decide := true) only [reduceIte]; assumption)) ⟨two, low, high, times, false, _, ⟨u1, u2, (by (try dsimp only); first | assumption | rfl | (simp (decide := true) only [reduceIte]; done) | (simp (decide := true) only [reduceIte]; assumption)), (by (try dsimp only); first | assumption | rfl | (simp (decide := true) only [reduceIte]; done) | (simp (decide := true) only [reduceIte]; assumption)), (by (try dsimp only); first | assumption | rfl | (simp (decide := true) only [reduceIte]; done) | (simp (decide := true) only [reduceIte]; assumption)), p1, p2, p3, p4, p5⟩, (by (try dsimp only); first | assumption | rfl | (simp (decide := true) only [reduceIte]; done) | (simp (decide := true) only [reduceIte]; assumption)), .none, w9, wv, ew, (by (try dsimp only); first | assumption | rfl | (simp (decide := true) only [reduceIte]; done) | (simp (decide := true) only [reduceIte]; assumption)), hwm, SV.cast hsv (List.append_nil _).symm⟩

theorem l_4_1 {fa : Addr} {cd : Value} {keep : List (Addr × Obj)} {s₀ : Shared} (B : Below A₀ base outer h₀) (X : (kdef.heap_1 w.params).In h₀) (T : Top p loose mean mg mb h₀) (hs : St h₀ L keep 5 (Pway 1) s₀ s) :
  wpAny (model PG w) (ctx 700 3500 (lawEnv L fa cd) outer gd) (execs ((lawPack.1.1.drop 7).take 1) (lawEnv L fa cd)) (fun f s' => f = .next ∧ St h₀ L keep 6 (P5 1) s₀ s') E s := by
  refine St.elim hs ?_
  intro m h tk' ta e rest tp cl ns a F N ht hab hkeep hmt hP
  clear hs
  have hne := ht.ne
  have hne1 := neN hne
  obtain ⟨⟨cvs, e3, hcl, hi⟩, hrest, hl0, hl1, ha0⟩ := ht
  obtain ⟨⟨uw, hmy⟩, hmd, two, low, high, times, ⟨u1, u2, hm1, hm2, hm3, p1, p2, p3, p4, p5⟩, w9, wv, ew, hmw, hwm, hsv⟩ := hP
  have hwn := neN (hrest _ hwm)
  have hwl := hsv.len
  have lA := @lenA (dg low) (dg high) two times
  have N := news_dup N hwm
  simp only [lawPack, List.take_succ_cons, List.take_zero, List.drop_succ_cons, List.drop_zero, lawEnv]
  (repeat' (first | (with_reducible refine unstp ?_; first | ((k_here; (with_reducible show wpAny _ _ (binaryOp _ (Value.ref _) (Value.ref _)) _ _ _); k_dflt (refine' add_sv ?F ?N ?hl ?hb ?sx ?sy ?hz ?_; (case F => k_asm); (case N => k_asm); (case hl => k_mem); (case hb => k_mem); (case sx => first | assumption | exact SV.nil | exact SV.cons _ _ SV.nil | exact SV.cons _ _ (SV.cons _ _ SV.nil) | exact SV.cons _ _ (SV.cons _ _ (SV.cons _ _ SV.nil)) | exact SV.cons _ _ (SV.cons _ _ (SV.cons _ _ (SV.cons _ _ SV.nil)))); (case sy => first | assumption | exact SV.nil | exact SV.cons _ _ SV.nil | exact SV.cons _ _ (SV.cons _ _ SV.nil) | exact SV.cons _ _ (SV.cons _ _ (SV.cons _ _ SV.nil)) | exact SV.cons _ _ (SV.cons _ _ (SV.cons _ _ (SV.cons _ _ SV.nil)))); (case hz => ((try simp only [List.length_append, List.length_cons, List.length_nil]); first | (refine Nat.le_trans ?p9 ?q9; (case p9 => repeat' (with_reducible (first | assumption | refine Nat.add_le_add ?_ ?_ | exact Nat.le_refl _))); (case q9 => exact Nat.le_of_ble_eq_true rfl)) | omega)); k_whole); intro D9z' vs9z' h9z' F9z' N9z' l19z hsv9z'; (try dsimp only); (try k_lt l19z))) | ((k_here; (with_reducible show wpAny _ _ (subscriptTail (PySem.Expr.Name _ _) (PySem.Expr.Slice none _ none _) (Value.ref _) (Value.ref _)) _ _ _); k_dflt (refine' tup_upto (b := 0) ?F ?N ?t ?hy ?hb ?e ?hz ?_ ?hs ?hg; (case F => k_asm); (case N => k_asm); (case t => exact News.isTup (by k_asm) (by k_mem)); (case hy => decide); (case hb => exact Nat.le_of_ble_eq_true rfl); (case e => exact rfl); (case hz => exact Nat.le_of_ble_eq_true rfl); (case hs => with_unfolding_all rfl); (case hg => intro _; with_unfolding_all rfl); k_whole); intro D9z' h9z' F9z' N9z' l19z; (try dsimp only); (try k_lt l19z))) | ((k_here; (with_reducible show wpAny _ _ (subscriptTail (PySem.Expr.List _ _) (PySem.Expr.Slice _ _ _ _) _ _) _ _ _); k_dflt (refine kba_turn (value' := PySem.Expr.Name (PySem.Str.ofString "_") ⟨0, 0, 0, 0⟩) (fun _ => rfl) ?_))) | ((k_here; (with_reducible show wpAny _ _ (subscriptTail (PySem.Expr.Tuple _ _ _) (PySem.Expr.Slice _ _ _ _) _ _) _ _ _); k_dflt (refine kba_turn (value' := PySem.Expr.Name (PySem.Str.ofString "_") ⟨0, 0, 0, 0⟩) (fun _ => rfl) ?_))) | ((k_here; (with_reducible show wpAny _ _ (call (Value.ref 413) [_, Value.int 2 _] []) _ _ _); k_dflt (refine' draw_is2 ?hD ?hU ?B ?F ?X ?N ?T ?hf ?hke ?hu ?hc ?hne ?hi ?hl0 ?hl1 ?ha0 ?ha1 ?_ ?_; (case hD => exact Nat.le_of_ble_eq_true rfl); (case hU => exact Nat.le_of_ble_eq_true rfl); (case B => k_asm); (case F => k_asm); (case X => k_asm); (case N => k_asm); (case T => k_asm); (case hf => rfl); (case hke => rfl); (case hu => k_updF); (case hc => k_mem); (case hne => assumption); (case hi => assumption); (case hl0 => assumption); (case hl1 => assumption); (case ha0 => omega); (case ha1 => omega); k_whole) <;> (intro u9z' h9z' tk9z' tb9z' e9z' F9z' N9z'; (try dsimp only at N9z'); (try dsimp only)))) | (refine goM ?_; k_dflt walk1) | (k_dflt (dsimp only); refine stp ?_)) | (k_unfold; (first | with_reducible refine (?_ : wpAny _ _ _ _ _ _) | (try dsimp only))) | (k_end; wrow_close) | walk1 | (dsimp only; walk1) | (leave1; walk_say "STEP leave1"; try dsimp only) | fail "no step"))
  · exact st_end (by k_asm) (by k_asm) sub_w (TapeAt.more4 hcl hi hrest hl0 hl1 (ltN (by omega)) (ltN (by omega)) (ltN (by omega)) (ltN (by omega)) (by omega)) (by omega) (fun y hy => .tail _ (.tail _ (.tail _ (.tail _ (hkeep y hy))))) (by (try dsimp only); first | assumption | rfl | (simp (decide := true) only [reduceIte]; done) | (simp (decide := true) only [reduceIte]; assumption)) ⟨two, low, high, times, true, _, ⟨u1, u2, (by (try dsimp only); first | assumption | rfl | (simp (decide := true) only [reduceIte]; done) | (simp (decide := true) only [reduceIte]; assumption)), (by (try dsimp only); first | assumption | rfl | (simp (decide := true) only [reduceIte]; done) | (simp (decide := true) only [reduceIte]; assumption)), (by (try dsimp only); first | assumption | rfl | (simp (decide := true) only [reduceIte]; done) | (simp (decide := true) only [reduceIte]; assumption)), p1, p2, p3, p4, p5⟩, (by (try dsimp only); first | assumption | rfl | (simp (decide := true) only [reduceIte]; done) | (simp (decide := true) only [reduceIte]; assumption)), depK (.tail _ (.head _)) (vs := []) (.tail _ (.tail _ (.tail _ (.head _)))) (.tail _ (.tail _ (.head _))) (.nil), _, _, _, (by (try dsimp only); first | assumption | rfl | (simp (decide := true) only [reduceIte]; done) | (simp (decide := true) only [reduceIte]; assumption)), .head _, SV.cast (by assumption) (by cases two <;> cases times <;> rfl)⟩
  · exact st_end (by k_asm) (by k_asm) sub_w (TapeAt.more4 hcl hi hrest hl0 hl1 (ltN (by omega)) (ltN (by omega)) (ltN (by omega)) (ltN (by omega)) (by omega)) (by omega) (fun y hy => .tail _ (.tail _ (.tail _ (.tail _ (hkeep y hy))))) (by (try dsimp only); first | assumption | rfl | (simp (decide := true) only [reduceIte]; done) | (simp (decide := true) only [reduceIte]; assumption)) ⟨two, low, high, times, false, _, ⟨u1, u2, (by (try dsimp only); first | assumption | rfl | (simp (decide := true) only [reduceIte]; done) | (simp (decide := true) only [reduceIte]; assumption)), (by (try dsimp only); first | assumption | rfl | (simp (decide := true) only [reduceIte]; done) | (simp (decide := true) only [reduceIte]; assumption)), (by (try dsimp only); first | assumption | rfl | (simp (decide := true) only [reduceIte]; done) | (simp (decide := true) only [reduceIte]; assumption)), p1, p2, p3, p4, p5⟩, (by (try dsimp only); first | assumption | rfl | (simp (decide := true) only [reduceIte]; done) | (simp (decide := true) only [reduceIte]; assumption)), depK (.tail _ (.head _)) (vs := []) (.tail _ (.tail _ (.tail _ (.head _)))) (.tail _ (.tail _ (.head _))) (.nil), _, _, _, (by (try dsimp only); first | assumption | rfl | (simp (decide := true) only [reduceIte]; done) | (simp (decide := true) only [reduceIte]; assumption)), .head _, SV.cast (by assumption) (by cases two <;> cases times <;> rfl)⟩
end


section
variable {w : World} {p : Program} {loose : List Str} {mean : ExcName → Option Value} {mg mb : Str → Option Value}
  {env : Env} {outer : List Env} {gd : Option (List Code)} {A₀ : Around} {base h₀ : Heap} {L : Addr} {m : Str → Option Value} {news : List (Addr × Obj)} {g : Obj → List (Addr × Obj)} {s : Shared} {Q E : Value → Shared → Prop}
  {D U : Nat} {r dr lt nd : Addr} {t1 t2 t3 tk ka : Tok} {q k : Int} {n : Nat} {l : List Tk}
local macro_rules | `(tactic| k_mem) => `(tactic| walk_at "own:m1")
local macro_rules | `(tactic| walk_at "call ref") => `(tactic| (goal_lacks GoM; refine stp ?_))
local macro_rules | `(tactic| walk_at "subscriptTail Tuple") => `(tactic| (goal_lacks GoM; refine stp ?_))
local macro_rules | `(tactic| walk_at "subscriptTail List") => `(tactic| (goal_lacks GoM; refine stp ?_))
local macro_rules | `(tactic| walk_at "subscriptTail Name Slice ref ref") => `(tactic| (goal_lacks GoM; refine stp ?_))
local macro_rules | `(tactic| walk_at "binaryOp Add ref ref") => `(tactic| (goal_lacks GoM; refine stp ?_))

theorem l_4_2 {fa : Addr} {cd : Value} {keep : List (Addr × Obj)} {s₀ : Shared} (B : Below A₀ base outer h₀) (X : (kdef.heap_1 w.params).In h₀) (T : Top p loose mean mg mb h₀) (hs : St h₀ L keep 5 (Pway 2) s₀ s) :
  wpAny (model PG w) (ctx 700 3500 (lawEnv L fa cd) outer gd) (execs ((lawPack.1.1.drop 7).take 1) (lawEnv L fa cd)) (fun f s' => f = .next ∧ St h₀ L keep 6 (P5 2) s₀ s') E s := by
  refine St.elim hs ?_
  intro m h tk' ta e rest tp cl ns a F N ht hab hkeep hmt hP
  clear hs
  have hne := ht.ne
  have hne1 := neN hne
  obtain ⟨⟨cvs, e3, hcl, hi⟩, hrest, hl0, hl1, ha0⟩ := ht
  obtain ⟨⟨uw, hmy⟩, hmd, two, low, high, times, ⟨u1, u2, hm1, hm2, hm3, p1, p2, p3, p4, p5⟩, w9, wv, ew, hmw, hwm, hsv⟩ := hP
  have hwn := neN (hrest _ hwm)
  have hwl := hsv.len
  have lA := @lenA (dg low) (dg high) two times
  have N := news_dup N hwm
  simp only [lawPack, List.take_succ_cons, List.take_zero, List.drop_succ_cons, List.drop_zero, lawEnv]
  (repeat' (first | (with_reducible refine unstp ?_; first | ((k_here; (with_reducible show wpAny _ _ (binaryOp _ (Value.ref _) (Value.ref _)) _ _ _); k_dflt (refine' add_sv ?F ?N ?hl ?hb ?sx ?sy ?hz ?_; (case F => k_asm); (case N => k_asm); (case hl => k_mem); (case hb => k_mem); (case sx => first | assumption | exact SV.nil | exact SV.cons _ _ SV.nil | exact SV.cons _ _ (SV.cons _ _ SV.nil) | exact SV.cons _ _ (SV.cons _ _ (SV.cons _ _ SV.nil)) | exact SV.cons _ _ (SV.cons _ _ (SV.cons _ _ (SV.cons _ _ SV.nil)))); (case sy => first | assumption | exact SV.nil | exact SV.cons _ _ SV.nil | exact SV.cons _ _ (SV.cons _ _ SV.nil) | exact SV.cons _ _ (SV.cons _ _ (SV.cons _ _ SV.nil)) | exact SV.cons _ _ (SV.cons _ _ (SV.cons _ _ (SV.cons _ _ SV.nil)))); (case hz => ((try simp only [List.length_append, List.length_cons, List.length_nil]); first | (refine Nat.le_trans ?p9 ?q9; (case p9 => repeat' (with_reducible (first | assumption | refine Nat.add_le_add ?_ ?_ | exact Nat.le_refl _))); (case q9 => exact Nat.le_of_ble_eq_true rfl)) | omega)); k_whole); intro D9z' vs9z' h9z' F9z' N9z' l19z hsv9z'; (try dsimp only); (try k_lt l19z))) | ((k_here; (with_reducible show wpAny _ _ (subscriptTail (PySem.Expr.Name _ _) (PySem.Expr.Slice none _ none _) (Value.ref _) (Value.ref _)) _ _ _); k_dflt (refine' tup_upto (b := 1) ?F ?N ?t ?hy ?hb ?e ?hz ?_ ?hs ?hg; (case F => k_asm); (case N => k_asm); (case t => exact News.isTup (by k_asm) (by k_mem)); (case hy => decide); (case hb => exact Nat.le_of_ble_eq_true rfl); (case e => exact rfl); (case hz => exact Nat.le_of_ble_eq_true rfl); (case hs => with_unfolding_all rfl); (case hg => intro _; with_unfolding_all rfl); k_whole); intro D9z' h9z' F9z' N9z' l19z; (try dsimp only); (try k_lt l19z))) | ((k_here; (with_reducible show wpAny _ _ (subscriptTail (PySem.Expr.List _ _) (PySem.Expr.Slice _ _ _ _) _ _) _ _ _); k_dflt (refine kba_turn (value' := PySem.Expr.Name (PySem.Str.ofString "_") ⟨0, 0, 0, 0⟩) (fun _ => rfl) ?_))) | ((k_here; (with_reducible show wpAny _ _ (subscriptTail (PySem.Expr.Tuple _ _ _) (PySem.Expr.Slice _ _ _ _) _ _) _ _ _); k_dflt (refine kba_turn (value' := PySem.Expr.Name (PySem.Str.ofString "_") ⟨0, 0, 0, 0⟩) (fun _ => rfl) ?_))) | ((k_here; (with_reducible show wpAny _ _ (call (Value.ref 413) [_, Value.int 2 _] []) _ _ _); k_dflt (refine' draw_is2 ?hD ?hU ?B ?F ?X ?N ?T ?hf ?hke ?hu ?hc ?hne ?hi ?hl0 ?hl1 ?ha0 ?ha1 ?_ ?_; (case hD => exact Nat.le_of_ble_eq_true rfl); (case hU => exact Nat.le_of_ble_eq_true rfl); (case B => k_asm); (case F => k_asm); (case X => k_asm); (case N => k_asm); (case T => k_asm); (case hf => rfl); (case hke => rfl); (case hu => k_updF); (case hc => k_mem); (case hne => assumption); (case hi => assumption); (case hl0 => assumption); (case hl1 => assumption); (case ha0 => omega); (case ha1 => omega); k_whole) <;> (intro u9z' h9z' tk9z' tb9z' e9z' F9z' N9z'; (try dsimp only at N9z'); (try dsimp only)))) | (refine goM ?_; k_dflt walk1) | (k_dflt (dsimp only); refine stp ?_)) | (k_unfold; (first | with_reducible refine (?_ : wpAny _ _ _ _ _ _) | (try dsimp only))) | (k_end; wrow_close) | walk1 | (dsimp only; walk1) | (leave1; walk_say "STEP leave1"; try dsimp only) | fail "no step"))
  · exact st_end (by k_asm) (by k_asm) sub_w (TapeAt.more4 hcl hi hrest hl0 hl1 (ltN (by omega)) (ltN (by omega)) (ltN (by omega)) (ltN (by omega)) (by omega)) (by omega) (fun y hy => .tail _ (.tail _ (.tail _ (.tail _ (hkeep y hy))))) (by (try dsimp only); first | assumption | rfl | (simp (decide := true) only [reduceIte]; done) | (simp (decide := true) only [reduceIte]; assumption)) ⟨two, low, high, times, true, _, ⟨u1, u2, (by (try dsimp only); first | assumption | rfl | (simp (decide := true) only [reduceIte]; done) | (simp (decide := true) only [reduceIte]; assumption)), (by (try dsimp only); first | assumption | rfl | (simp (decide := true) only [reduceIte]; done) | (simp (decide := true) only [reduceIte]; assumption)), (by (try dsimp only); first | assumption | rfl | (simp (decide := true) only [reduceIte]; done) | (simp (decide := true) only [reduceIte]; assumption)), p1, p2, p3, p4, p5⟩, (by (try dsimp only); first | assumption | rfl | (simp (decide := true) only [reduceIte]; done) | (simp (decide := true) only [reduceIte]; assumption)), depK (.tail _ (.head _)) (vs := [.str _ _]) (.tail _ (.tail _ (.tail _ (.head _)))) (.tail _ (.tail _ (.head _))) (.cons (.str _ _) .nil), _, _, _, (by (try dsimp only); first | assumption | rfl | (simp (decide := true) only [reduceIte]; done) | (simp (decide := true) only [reduceIte]; assumption)), .head _, SV.cast (by assumption) (by cases two <;> cases times <;> rfl)⟩
  · exact st_end (by k_asm) (by k_asm) sub_w (TapeAt.more4 hcl hi hrest hl0 hl1 (ltN (by omega)) (ltN (by omega)) (ltN (by omega)) (ltN (by omega)) (by omega)) (by omega) (fun y hy => .tail _ (.tail _ (.tail _ (.tail _ (hkeep y hy))))) (by (try dsimp only); first | assumption | rfl | (simp (decide := true) only [reduceIte]; done) | (simp (decide := true) only [reduceIte]; assumption)) ⟨two, low, high, times, false, _, ⟨u1, u2, (by (try dsimp only); first | assumption | rfl | (simp (decide := true) only [reduceIte]; done) | (simp (decide := true) only [reduceIte]; assumption)), (by (try dsimp only); first | assumption | rfl | (simp (decide := true) only [reduceIte]; done) | (simp (decide := true) only [reduceIte]; assumption)), (by (try dsimp only); first | assumption | rfl | (simp (decide := true) only [reduceIte]; done) | (simp (decide := true) only [reduceIte]; assumption)), p1, p2, p3, p4, p5⟩, (by (try dsimp only); first | assumption | rfl | (simp (decide := true) only [reduceIte]; done) | (simp (decide := true) only [reduceIte]; assumption)), depK (.tail _ (.head _)) (vs := [.str _ _]) (.tail _ (.tail _ (.tail _ (.head _)))) (.tail _ (.tail _ (.head _))) (.cons (.str _ _) .nil), _, _, _, (by (try dsimp only); first | assumption | rfl | (simp (decide := true) only [reduceIte]; done) | (simp (decide := true) only [reduceIte]; assumption)), .head _, SV.cast (by assumption) (by cases two <;> cases times <;> rfl)⟩
end


section
variable {w : World} {p : Program} {loose : List Str} {mean : ExcName → Option Value} {mg mb : Str → Option Value}
  {env : Env} {outer : List Env} {gd : Option (List Code)} {A₀ : Around} {base h₀ : Heap} {L : Addr} {m : Str → Option Value} {news : List (Addr × Obj)} {g : Obj → List (Addr × Obj)} {s : Shared} {Q E : Value → Shared → Prop}
  {D U : Nat} {r dr lt nd : Addr} {t1 t2 t3 tk ka : Tok} {q k : Int} {n : Nat} {l : List Tk}
local macro_rules | `(tactic| k_mem) => `(tactic| walk_at "own:m1")
local macro_rules | `(tactic| walk_at "call ref") => `(tactic| (goal_lacks GoM; refine stp ?_))
local macro_rules | `(tactic| walk_at "subscriptTail Tuple") => `(tactic| (goal_lacks GoM; refine stp ?_))
local macro_rules | `(tactic| walk_at "subscriptTail List") => `(tactic| (goal_lacks GoM; refine stp ?_))
local macro_rules | `(tactic| walk_at "subscriptTail Name Slice ref ref") => `(tactic| (goal_lacks GoM; refine stp ?_))
local macro_rules | `(tactic| walk_at "binaryOp Add ref ref") => `(tactic| (goal_lacks GoM; refine stp ?_))

theorem l_4_3 {fa : Addr} {cd : Value} {keep : List (Addr × Obj)} {s₀ : Shared} (B : Below A₀ base outer h₀) (X : (kdef.heap_1 w.params).In h₀) (T : Top p loose mean mg mb h₀) (hs : St h₀ L keep 5 (Pway 3) s₀ s) :
  wpAny (model PG w) (ctx 700 3500 (lawEnv L fa cd) outer gd) (execs ((lawPack.1.1.drop 7).take 1) (lawEnv L fa cd)) (fun f s' => f = .next ∧ St h₀ L keep 6 (P5 3) s₀ s') E s := by
  refine St.elim hs ?_
  intro m h tk' ta e rest tp cl ns a F N ht hab hkeep hmt hP
  clear hs
  have hne := ht.ne
  have hne1 := neN hne
  obtain ⟨⟨cvs, e3, hcl, hi⟩, hrest, hl0, hl1, ha0⟩ := ht
  obtain ⟨⟨uw, hmy⟩, hmd, two, low, high, times, ⟨u1, u2, hm1, hm2, hm3, p1, p2, p3, p4, p5⟩, w9, wv, ew, hmw, hwm, hsv⟩ := hP
  have hwn := neN (hrest _ hwm)
  have hwl := hsv.len
  have lA := @lenA (dg low) (dg high) two times
  have N := news_dup N hwm
  simp only [lawPack, List.take_succ_cons, List.take_zero, List.drop_succ_cons, List.drop_zero, lawEnv]
  (repeat' (first | (with_reducible refine unstp ?_; first | ((k_here; (with_reducible show wpAny _ _ (binaryOp _ (Value.ref _) (Value.ref _)) _ _ _); k_dflt (refine' add_sv ?F ?N ?hl ?hb ?sx ?sy ?hz ?_; (case F => k_asm); (case N => k_asm); (case hl => k_mem); (case hb => k_mem); (case sx => first | assumption | exact SV.nil | exact SV.cons _ _ SV.nil | exact SV.cons _ _ (SV.cons _ _ SV.nil) | exact SV.cons _ _ (SV.cons _ _ (SV.cons _ _ SV.nil)) | exact SV.cons _ _ (SV.cons _ _ (SV.cons _ _ (SV.cons _ _ SV.nil)))); (case sy => first | assumption | exact SV.nil | exact SV.cons _ _ SV.nil | exact SV.cons _ _ (SV.cons _ _ SV.nil) | exact SV.cons _ _ (SV.cons _ _ (SV.cons _ _ SV.nil)) | exact SV.cons _ _ (SV.cons _ _ (SV.cons _ _ (SV.cons _ _ SV.nil)))); (case hz => ((try simp only [List.length_append, List.length_cons, List.length_nil]); first | (refine Nat.le_trans ?p9 ?q9; (case p9 => repeat' (with_reducible (first | assumption | refine Nat.add_le_add ?_ ?_ | exact Nat.le_refl _))); (case q9 => exact Nat.le_of_ble_eq_true rfl)) | omega)); k_whole); intro D9z' vs9z' h9z' F9z' N9z' l19z hsv9z'; (try dsimp only); (try k_lt l19z))) | ((k_here; (with_reducible show wpAny _ _ (subscriptTail (PySem.Expr.Name _ _) (PySem.Expr.Slice none _ none _) (Value.ref _) (Value.ref _)) _ _ _); k_dflt (refine' tup_all ?F ?N ?t ?hy ?_ ?hs ?hg; (case F => k_asm); (case N => k_asm); (case t => exact News.isTup (by k_asm) (by k_mem)); (case hy => exact rfl); (case hs => with_unfolding_all rfl); (case hg => intro _; with_unfolding_all rfl); k_whole); intro h9z' F9z' N9z'; (try dsimp only))) | ((k_here; (with_reducible show wpAny _ _ (subscriptTail (PySem.Expr.List _ _) (PySem.Expr.Slice _ _ _ _) _ _) _ _ _); k_dflt (refine kba_turn (value' := PySem.Expr.Name (PySem.Str.ofString "_") ⟨0, 0, 0, 0⟩) (fun _ => rfl) ?_))) | ((k_here; (with_reducible show wpAny _ _ (subscriptTail (PySem.Expr.Tuple _ _ _) (PySem.Expr.Slice _ _ _ _) _ _) _ _ _); k_dflt (refine kba_turn (value' := PySem.Expr.Name (PySem.Str.ofString "_") ⟨0, 0, 0, 0⟩) (fun _ => rfl) ?_))) | ((k_here; (with_reducible show wpAny _ _ (call (Value.ref 413) [_, Value.int 2 _] []) _ _ _); k_dflt (refine' draw_is2 ?hD ?hU ?B ?F ?X ?N ?T ?hf ?hke ?hu ?hc ?hne ?hi ?hl0 ?hl1 ?ha0 ?ha1 ?_ ?_; (case hD => exact Nat.le_of_ble_eq_true rfl); (case hU => exact Nat.le_of_ble_eq_true rfl); (case B => k_asm); (case F => k_asm); (case X => k_asm); (case N => k_asm); (case T => k_asm); (case hf => rfl); (case hke => rfl); (case hu => k_updF); (case hc => k_mem); (case hne => assumption); (case hi => assumption); (case hl0 => assumption); (case hl1 => assumption); (case ha0 => omega); (case ha1 => omega); k_whole) <;> (intro u9z' h9z' tk9z' tb9z' e9z' F9z' N9z'; (try dsimp only at N9z'); (try dsimp only)))) | (refine goM ?_; k_dflt walk1) | (k_dflt (dsimp only); refine stp ?_)) | (k_unfold; (first | with_reducible refine (?_ : wpAny _ _ _ _ _ _) | (try dsimp only))) | (k_end; wrow_close) | walk1 | (dsimp only; walk1) | (leave1; walk_say "STEP leave1"; try dsimp only) | fail "no step"))
  · exact st_end (by k_asm) (by k_asm) sub_v (TapeAt.more4 hcl hi hrest hl0 hl1 (ltN (by omega)) (ltN (by omega)) (ltN (by omega)) (ltN (by omega)) (by omega)) (by omega) (fun y hy => .tail _ (.tail _ (.tail _ (.tail _ (hkeep y hy))))) (by (try dsimp only); first | assumption | rfl | (simp (decide := true) only [reduceIte]; done) | (simp (decide := true) only [reduceIte]; assumption)) ⟨two, low, high, times, true, _, ⟨u1, u2, (by (try dsimp only); first | assumption | rfl | (simp (decide := true) only [reduceIte]; done) | (simp (decide := true) only [reduceIte]; assumption)), (by (try dsimp only); first | assumption | rfl | (simp (decide := true) only [reduceIte]; done) | (simp (decide := true) only [reduceIte]; assumption)), (by (try dsimp only); first | assumption | rfl | (simp (decide := true) only [reduceIte]; done) | (simp (decide := true) only [reduceIte]; assumption)), p1, p2, p3, p4, p5⟩, (by (try dsimp only); first | assumption | rfl | (simp (decide := true) only [reduceIte]; done) | (simp (decide := true) only [reduceIte]; assumption)), depK (.tail _ (.head _)) (vs := [.str _ _, .str _ _]) (.tail _ (.tail _ (.tail _ (.head _)))) (.tail _ (.tail _ (.head _))) (.cons (.str _ _) (.cons (.str _ _) .nil)), _, _, _, (by (try dsimp only); first | assumption | rfl | (simp (decide := true) only [reduceIte]; done) | (simp (decide := true) only [reduceIte]; assumption)), .head _, SV.cast (by assumption) (by cases two <;> cases times <;> rfl)⟩
  · exact st_end (by k_asm) (by k_asm) sub_v (TapeAt.more4 hcl hi hrest hl0 hl1 (ltN (by omega)) (ltN (by omega)) (ltN (by omega)) (ltN (by omega)) (by omega)) (by omega) (fun y hy => .tail _ (.tail _ (.tail _ (.tail _ (hkeep y hy))))) (by (try dsimp only); first | assumption | rfl | (simp (decide := true) only [reduceIte]; done) | (simp (decide := true) only [reduceIte]; assumption)) ⟨two, low, high, times, false, _, ⟨u1, u2, (by (try dsimp only); first | assumption | rfl | (simp (decide := true) only [reduceIte]; done) | (simp (decide := true) only [reduceIte]; assumption)), (by (try dsimp only); first | assumption | rfl | (simp (decide := true) only [reduceIte]; done) | (simp (decide := true) only [reduceIte]; assumption)), (by (try dsimp only); first | assumption | rfl | (simp (decide := true) only [reduceIte]; done) | (simp (decide := true) only [reduceIte]; assumption)), p1, p2, p3, p4, p5⟩, (by (try dsimp only); first | assumption | rfl | (simp (decide := true) only [reduceIte]; done) | (simp (decide := true) only [reduceIte]; assumption)), depK (.tail _ (.head _)) (vs := [.str _ _, .str _ _]) (.tail _ (.tail _ (.tail _ (.head _)))) (.tail _ (.tail _ (.head _))) (.cons (.str _ _) (.cons (.str _ _) .nil)), _, _, _, (by (try dsimp only); first | assumption | rfl | (simp (decide := true) only [reduceIte]; done) | (simp (decide := true) only [reduceIte]; assumption)), .head _, SV.cast (by assumption) (by cases two <;> cases times <;> rfl)⟩
end


noncomputable def lawFor : PSigma fun x : PySem.Expr × PySem.Expr × List Stmt => ∃ o ps, (lawPack.1.1[9]? : Option Stmt) = some (Stmt.For x.1 x.2.1 x.2.2 o ps) := ⟨(_, _, _), _, _, rfl⟩
noncomputable def KV (G : List (Str × Value)) (m : Str → Option Value) : Prop := ∀ p ∈ G, m p.1 = some p.2
theorem KV.upd {G : List (Str × Value)} {m : Str → Option Value} {x : Str} {v : Value} (h : KV G m) (hx : ∀ p ∈ G, p.1 ≠ x) : KV G (fun z => if z = x then some v else m z) := fun p hp => (if_neg (hx p hp)).trans (h p hp)
structure GOk (G : List (Str × Value)) : Prop where
  words : ∀ p ∈ G, p.1 ≠ Str.ofString "words"
  keys : ∀ p ∈ G, p.1 ≠ Str.ofString "keys"
  turn : ∀ p ∈ G, p.1 ≠ Str.ofString "turn"
inductive StI (h₀ : Heap) (L I : Addr) (it : Obj) (G : List (Str × Value)) (keep : List (Addr × Obj)) (bd : Int) (P : (Str → Option Value) → List (Addr × Obj) → Option Value → Prop) (s s' : Shared) : Prop
  | mk (m' : _) (h' : _) (tk' : _) (ta : _) (e : _) (rest : _) (tp : _) (cl : _) (ns : _) (a : _) (oc : _) (ov : _) (f1 : s' = { s with heap := h', toks := tk' }) (f2 : Fr h₀ L h' m') (f3 : News h₀ L h' ((tp, listOf #[.ref cl, .int a ta] e) :: (I, it) :: (L + 1, oc) :: rest)) (f4 : TapeAt tp cl a ns rest) (f5 : (tp ≠ I ∧ tp ≠ L + 1 ∧ I ≠ L + 1)) (f6 : (∀ q ∈ rest, q.1 ≠ I)) (f7 : (∀ q ∈ rest, q.1 ≠ L + 1)) (f8 : oc.data = .cell ov) (f9 : a ≤ bd) (f10 : m' (Str.ofString "tape") = some (.ref tp)) (f11 : KV G m') (f12 : (∀ y ∈ keep, y ∈ rest)) (f13 : P m' rest ov) : StI h₀ L I it G keep bd P s s'
theorem StI.elim {h₀ : Heap} {L I : Addr} {it : Obj} {G : List (Str × Value)} {keep : List (Addr × Obj)} {bd : Int} {P : (Str → Option Value) → List (Addr × Obj) → Option Value → Prop} {s s' : Shared} {C : Shared → Prop} (h : StI h₀ L I it G keep bd P s s')
    (k : ∀ m' h' tk' ta e rest tp cl ns a oc ov, Fr h₀ L h' m' → News h₀ L h' ((tp, listOf #[.ref cl, .int a ta] e) :: (I, it) :: (L + 1, oc) :: rest) → TapeAt tp cl a ns rest → tp ≠ I → tp ≠ L + 1 → I ≠ L + 1 → (∀ q ∈ rest, q.1 ≠ I) → (∀ q ∈ rest, q.1 ≠ L + 1) → oc.data = .cell ov → a ≤ bd → m' (Str.ofString "tape") = some (.ref tp) → KV G m' → (∀ y ∈ keep, y ∈ rest) → P m' rest ov → C { s with heap := h', toks := tk' }) : C s' := by
  obtain ⟨m', h', tk', ta, e, rest, tp, cl, ns, a, oc, ov, rfl, F, N, ht, ⟨h1, h2, h3⟩, h4, h5, h6, h7, h8, h9, h10, hP⟩ := h
  exact k _ _ _ _ _ _ _ _ _ _ _ _ F N ht h1 h2 h3 h4 h5 h6 h7 h8 h9 h10 hP
inductive PT (W : List Str) (ks : List (Bool × Str)) (m : Str → Option Value) (nw : List (Addr × Obj)) : Prop
  | mk (f1 : PW W m nw) (K : _) (vs : _) (n : _) (f2 : m (Str.ofString "keys") = some (.ref K)) (f3 : (K, ({ cls := .type "tuple", data := .seq (List.toArray vs) n } : Obj)) ∈ nw) (f4 : DatAll nw vs (ks.map fun p => .tuple [.bool p.1, .str p.2])) : PT W ks m nw
inductive PTt (W : List Str) (ks : List (Bool × Str)) (m : Str → Option Value) (nw : List (Addr × Obj)) (ov : Option Value) : Prop
  | mk (i : _) (Dt : _) (tv : _) (et : _) (f1 : i < 4) (f2 : ov = some (.ref Dt)) (f3 : (Dt, listOf (List.toArray tv) et) ∈ nw) (f4 : SV tv (tOf i)) (f5 : PT W ks m nw) : PTt W ks m nw ov
theorem sv_values : ∀ (l : List (Str × Tok)) (W : List Str), l.map (·.1) = W → SV (strValues l) W
  | [], W, e => by cases e; exact .nil
  | p :: l, W, e => by cases e; exact .cons p.1 p.2 (sv_values l _ rfl)
theorem PT.mono {W : List Str} {ks : List (Bool × Str)} {m m' : Str → Option Value} {nw nw' : List (Addr × Obj)} (h : PT W ks m nw) (h1 : m' (Str.ofString "words") = m (Str.ofString "words")) (h2 : m' (Str.ofString "keys") = m (Str.ofString "keys")) (hs : ∀ y ∈ nw, y ∈ nw') : PT W ks m' nw' := by
  obtain ⟨hw, K, vs, n, a, b, c⟩ := h
  exact ⟨hw.mono h1 hs, K, vs, n, h2.trans a, hs _ b, c.mono hs⟩
theorem off_cons {D c : Addr} {o : Obj} {rest : List (Addr × Obj)} (h : c < D) (hr : ∀ q ∈ rest, q.1 ≠ c) : ∀ q ∈ (D, o) :: rest, q.1 ≠ c := fun q hq => by
  rcases List.mem_cons.mp hq with z | hq
  · rw [z]; exact Nat.ne_of_gt h
  · exact hr q hq
theorem stI_1 {G : List (Str × Value)} {keep : List (Addr × Obj)} {h₀ h' : Heap} {L I tp cl D : Addr} {it od oc : Obj} {m' : Str → Option Value} {rest : List (Addr × Obj)} {ns : List Int} {a bd : Int} {e tk' : Nat} {ta : Tok} {ov : Option Value} {P : (Str → Option Value) → List (Addr × Obj) → Option Value → Prop} {s : Shared} (F : Fr h₀ L h' m')
    (N : News h₀ L h' ((D, od) :: (tp, listOf #[.ref cl, .int a ta] e) :: (I, it) :: (L + 1, oc) :: rest)) (ht : TapeAt tp cl a ns ((D, od) :: rest)) (hn : tp ≠ I ∧ tp ≠ L + 1 ∧ I ≠ L + 1) (hrI : ∀ q ∈ rest, q.1 ≠ I) (hrL : ∀ q ∈ rest, q.1 ≠ L + 1) (l1 : tp < D ∧ I < D ∧ L + 1 < D ∧ AllLt D rest)
    (hoc : oc.data = .cell ov) (hab : a ≤ bd) (hm : m' (Str.ofString "tape") = some (.ref tp)) (hG : KV G m') (hkp : ∀ y ∈ keep, y ∈ rest) (hP : P m' ((D, od) :: rest) ov) : StI h₀ L I it G keep bd P s { s with heap := h', toks := tk' } :=
  ⟨m', h', tk', ta, e, _, tp, cl, ns, a, oc, ov, rfl, F, fun x hx => N x (by
    simp only [List.mem_cons] at hx ⊢
    rcases hx with q | q | q | q | q <;> simp [q]), ht, hn, off_cons l1.2.1 hrI, off_cons l1.2.2.1 hrL, hoc, hab, hm, hG, fun y hy => .tail _ (hkp y hy), hP⟩
section
variable {prog : Program} {w : World} {A : Around} {E : Value → Shared → Prop} {s : Shared} {h₀ : Heap} {L : Addr} {m : Str → Option Value} {news : List (Addr × Obj)} {t u : Tok} {Q : Value → Shared → Prop}
theorem split_sv {x y : Str} {W : List Str} (F : Fr h₀ L s.heap m) (N : News h₀ L s.heap news) (hy : (y.length == 0) = false) (hw : Txt.split x y = W) (hsz : x.length + 2 ≤ sizeLine)
    (h : ∀ D vs h' k, SV vs W → Fr h₀ L h' m → News h₀ L h' ((D, listOf (List.toArray vs) 0) :: news) → (∀ p ∈ news, p.1 < D) → Q (.ref D) { s with heap := h', toks := k }) :
    wpAny (model prog w) A (call (.builtin "str.split") [.str x t, .str y u]) Q E s := by
  refine KSpl.split1 F N hy (fun D l h' k e _ F' N' l1 => h D (strValues l) h' k ?_ F' N' l1) hsz
  rw [hw] at e
  exact sv_values l W e
theorem kt0 : Txt.split (Str.ofString "ASCENDING K") (Str.ofString " ") = tOf 0 := by decide +kernel
theorem kt1 : Txt.split (Str.ofString "DESCENDING KEY IS L M-1") (Str.ofString " ") = tOf 1 := by decide +kernel
theorem kt2 : Txt.split (Str.ofString "ASCENDING KEY N") (Str.ofString " ") = tOf 2 := by decide +kernel
theorem kt3 : Txt.split (Str.ofString "DESCENDING IS K") (Str.ofString " ") = tOf 3 := by decide +kernel
end

section
variable {w : World} {p : Program} {loose : List Str} {mean : ExcName → Option Value} {mg mb : Str → Option Value}
  {env : Env} {outer : List Env} {gd : Option (List Code)} {A₀ : Around} {base h₀ : Heap} {L : Addr} {m : Str → Option Value} {news : List (Addr × Obj)} {g : Obj → List (Addr × Obj)} {s : Shared} {Q E : Value → Shared → Prop}
  {D U : Nat} {r dr lt nd : Addr} {t1 t2 t3 tk ka : Tok} {q k : Int} {n : Nat} {l : List Tk}
local macro_rules | `(tactic| k_mem) => `(tactic| walk_at "own:m1")
local macro_rules | `(tactic| walk_at "call ref") => `(tactic| (goal_lacks GoM; refine stp ?_))
local macro_rules | `(tactic| walk_at "subscriptTail Name Call ref int") => `(tactic| (goal_lacks GoM; refine stp ?_))
local macro_rules | `(tactic| walk_at "call builtin:str.split") => `(tactic| (goal_lacks GoM; refine stp ?_))

theorem t_1 {fa : Addr} {cd : Value} {G : List (Str × Value)} {keep : List (Addr × Obj)} {I : Addr} {it : Obj} {W : List Str} {ks : List (Bool × Str)} {s₀ : Shared} {bd : Int} (hbd : bd < 90) (B : Below A₀ base outer h₀) (X : (kdef.heap_1 w.params).In h₀) (T : Top p loose mean mg mb h₀) (hs : StI h₀ L I it G keep bd (fun m nw _ => PT W ks m nw) s₀ s) (hW : W.length ≤ 40) :
  wpAny (model PG w) (ctx 700 3500 (lawEnv L fa cd) outer gd) (execs (lawFor.1.2.2.take 1) (lawEnv L fa cd)) (fun f s' => f = .next ∧ StI h₀ L I it G keep (bd + 1) (PTt W ks) s₀ s') E s := by
  refine StI.elim hs ?_
  intro m h tk' ta e rest tp cl ns a oc ov F N ht htI htL hIL hrI hrL hoc hab hmt hKV hkp hP
  clear hs
  have hne := ht.ne
  have hne1 := neN hne
  have hI1 : I ≠ tp := neN (Ne.symm htI)
  have hL1 : L + 1 ≠ tp := neN (Ne.symm htL)
  have hL2 : tp ≠ L + 1 := neN htL
  have hL3 : I ≠ L + 1 := neN hIL
  obtain ⟨⟨cvs, e3, hcl, hi⟩, hrest, hl0, hl1, ha0⟩ := ht
  simp only [lawFor, lawPack, List.take_succ_cons, List.take_zero, List.drop_succ_cons, List.drop_zero, lawEnv]
  (repeat' (first | (with_reducible refine unstp ?_; first | ((k_here; k_dflt (refine' split_sv ?F ?N ?hy ?hw ?hz ?_; (case F => k_asm); (case N => k_asm); (case hy => decide); (case hw => first | exact kt0 | exact kt1 | exact kt2 | exact kt3); (case hz => exact Nat.le_of_ble_eq_true rfl); k_whole); intro D9z' vs9z' h9z' k9z' hsv9z' F9z' N9z' l19z; (try dsimp only); (try k_lt l19z))) | ((k_here; (with_reducible show wpAny _ _ (subscriptTail (PySem.Expr.Name _ _) _ (Value.ref _) (Value.int _ _)) _ _ _); k_dflt (refine' topTup_K ?F ?X ?l ?a ?b ?c ?d ?_; (case F => k_asm); (case X => k_asm); (case l => k_is); (case a => decide); (case b => decide); (case c => rfl); (case d => rfl)))) | ((k_here; (with_reducible show wpAny _ _ (call (Value.ref 413) [_, Value.int 4 _] []) _ _ _); k_dflt (refine' draw_is4 ?hD ?hU ?B ?F ?X ?N ?T ?hf ?hke ?hu ?hc ?hne ?hi ?hl0 ?hl1 ?ha0 ?ha1 ?_ ?_ ?_ ?_; (case hD => exact Nat.le_of_ble_eq_true rfl); (case hU => exact Nat.le_of_ble_eq_true rfl); (case B => k_asm); (case F => k_asm); (case X => k_asm); (case N => k_asm); (case T => k_asm); (case hf => rfl); (case hke => rfl); (case hu => k_updF); (case hc => k_mem); (case hne => assumption); (case hi => assumption); (case hl0 => assumption); (case hl1 => assumption); (case ha0 => omega); (case ha1 => omega); k_whole) <;> (intro u9z' h9z' tk9z' tb9z' e9z' F9z' N9z'; (try dsimp only at N9z')))) | (refine goM ?_; k_dflt walk1) | (k_dflt (dsimp only); refine stp ?_)) | (k_unfold; (first | with_reducible refine (?_ : wpAny _ _ _ _ _ _) | (try dsimp only))) | (k_end; wrow_close) | walk1 | (dsimp only; walk1) | (leave1; walk_say "STEP leave1"; try dsimp only) | fail "no step"))
  · exact stI_1 (by k_asm) (by k_asm) (TapeAt.more hcl hi hrest hl0 hl1 (ltN (by omega)) (by omega)) ⟨htI, htL, hIL⟩ hrI hrL (by assumption) (by assumption) (by omega) hmt hKV hkp ⟨0, _, _, _, by decide, rfl, .head _, by assumption, hP.mono rfl rfl fun y hy => .tail _ hy⟩
  · exact stI_1 (by k_asm) (by k_asm) (TapeAt.more hcl hi hrest hl0 hl1 (ltN (by omega)) (by omega)) ⟨htI, htL, hIL⟩ hrI hrL (by assumption) (by assumption) (by omega) hmt hKV hkp ⟨1, _, _, _, by decide, rfl, .head _, by assumption, hP.mono rfl rfl fun y hy => .tail _ hy⟩
  · exact stI_1 (by k_asm) (by k_asm) (TapeAt.more hcl hi hrest hl0 hl1 (ltN (by omega)) (by omega)) ⟨htI, htL, hIL⟩ hrI hrL (by assumption) (by assumption) (by omega) hmt hKV hkp ⟨2, _, _, _, by decide, rfl, .head _, by assumption, hP.mono rfl rfl fun y hy => .tail _ hy⟩
  · exact stI_1 (by k_asm) (by k_asm) (TapeAt.more hcl hi hrest hl0 hl1 (ltN (by omega)) (by omega)) ⟨htI, htL, hIL⟩ hrI hrL (by assumption) (by assumption) (by omega) hmt hKV hkp ⟨3, _, _, _, by decide, rfl, .head _, by assumption, hP.mono rfl rfl fun y hy => .tail _ hy⟩
end


inductive PTw (W : List Str) (ks : List (Bool × Str)) (m : Str → Option Value) (nw : List (Addr × Obj)) (ov : Option Value) : Prop
  | mk (i : _) (Dt : _) (tv : _) (et : _) (f1 : i < 4) (f2 : ov = some (.ref Dt)) (f3 : (Dt, listOf (List.toArray tv) et) ∈ nw) (f4 : SV tv (tOf i)) (f5 : PT (W ++ tOf i) ks m nw) : PTw W ks m nw ov
theorem tOf_le (i : Nat) : (tOf i).length ≤ 5 := by
  unfold tOf; split <;> decide

section
variable {w : World} {p : Program} {loose : List Str} {mean : ExcName → Option Value} {mg mb : Str → Option Value}
  {env : Env} {outer : List Env} {gd : Option (List Code)} {A₀ : Around} {base h₀ : Heap} {L : Addr} {m : Str → Option Value} {news : List (Addr × Obj)} {g : Obj → List (Addr × Obj)} {s : Shared} {Q E : Value → Shared → Prop}
  {D U : Nat} {r dr lt nd : Addr} {t1 t2 t3 tk ka : Tok} {q k : Int} {n : Nat} {l : List Tk}
local macro_rules | `(tactic| k_mem) => `(tactic| walk_at "own:m1")
local macro_rules | `(tactic| walk_at "binaryOp Add ref ref") => `(tactic| (goal_lacks GoM; refine stp ?_))

theorem t_2 {fa : Addr} {cd : Value} {G : List (Str × Value)} {keep : List (Addr × Obj)} {I : Addr} {it : Obj} {W : List Str} {ks : List (Bool × Str)} {s₀ : Shared} {bd : Int} (B : Below A₀ base outer h₀) (X : (kdef.heap_1 w.params).In h₀) (T : Top p loose mean mg mb h₀) (hs : StI h₀ L I it G keep bd (PTt W ks) s₀ s) (hW : W.length ≤ 40) (hG : GOk G) :
  wpAny (model PG w) (ctx 700 3500 (lawEnv L fa cd) outer gd) (execs ((lawFor.1.2.2.drop 1).take 1) (lawEnv L fa cd)) (fun f s' => f = .next ∧ StI h₀ L I it G keep bd (PTw W ks) s₀ s') E s := by
  refine StI.elim hs ?_
  intro m h tk' ta e rest tp cl ns a oc ov F N ht htI htL hIL hrI hrL hoc hab hmt hKV hkp hP
  clear hs
  have hne := ht.ne
  have hne1 := neN hne
  have hI1 : I ≠ tp := neN (Ne.symm htI)
  have hL1 : L + 1 ≠ tp := neN (Ne.symm htL)
  have hL2 : tp ≠ L + 1 := neN htL
  have hL3 : I ≠ L + 1 := neN hIL
  obtain ⟨⟨cvs, e3, hcl, hi⟩, hrest, hl0, hl1, ha0⟩ := ht
  obtain ⟨i, Dt, tv, et, hi4, rfl, hdt, hst, ⟨w9, wv, ew, hmw, hwm, hsv⟩, K, kv, kn, hmk, hkm, hkd⟩ := hP
  have hwl := hsv.len
  have htl := hst.len
  have hti := tOf_le i
  simp only [lawFor, lawPack, List.take_succ_cons, List.take_zero, List.drop_succ_cons, List.drop_zero, lawEnv]
  (repeat' (first | (with_reducible refine unstp ?_; first | ((k_here; (with_reducible show wpAny _ _ (binaryOp _ (Value.ref _) (Value.ref _)) _ _ _); k_dflt (refine' add_sv ?F ?N ?hl ?hb ?sx ?sy ?hz ?_; (case F => k_asm); (case N => k_asm); (case hl => k_mem); (case hb => k_mem); (case sx => first | assumption | exact SV.nil | exact SV.cons _ _ SV.nil | exact SV.cons _ _ (SV.cons _ _ SV.nil) | exact SV.cons _ _ (SV.cons _ _ (SV.cons _ _ SV.nil)) | exact SV.cons _ _ (SV.cons _ _ (SV.cons _ _ (SV.cons _ _ SV.nil)))); (case sy => first | assumption | exact SV.nil | exact SV.cons _ _ SV.nil | exact SV.cons _ _ (SV.cons _ _ SV.nil) | exact SV.cons _ _ (SV.cons _ _ (SV.cons _ _ SV.nil)) | exact SV.cons _ _ (SV.cons _ _ (SV.cons _ _ (SV.cons _ _ SV.nil)))); (case hz => ((try simp only [List.length_append, List.length_cons, List.length_nil]); first | (refine Nat.le_trans ?p9 ?q9; (case p9 => repeat' (with_reducible (first | assumption | refine Nat.add_le_add ?_ ?_ | exact Nat.le_refl _))); (case q9 => exact Nat.le_of_ble_eq_true rfl)) | omega)); k_whole); intro D9z' vs9z' h9z' F9z' N9z' l19z hsv9z'; (try dsimp only); (try k_lt l19z))) | (refine goM ?_; k_dflt walk1) | (k_dflt (dsimp only); refine stp ?_)) | (k_unfold; (first | with_reducible refine (?_ : wpAny _ _ _ _ _ _) | (try dsimp only))) | (k_end; wrow_close) | walk1 | (dsimp only; walk1) | (leave1; walk_say "STEP leave1"; try dsimp only) | fail "no step"))
  exact stI_1 (by k_asm) (by k_asm) (TapeAt.more hcl hi hrest hl0 hl1 (ltN (by omega)) (by omega)) ⟨htI, htL, hIL⟩ hrI hrL (by assumption) (by assumption) (by omega) (by (try dsimp only); first | assumption | rfl | (simp (decide := true) only [reduceIte]; done) | (simp (decide := true) only [reduceIte]; assumption)) (KV.upd hKV hG.words) hkp ⟨i, Dt, tv, et, hi4, rfl, .tail _ hdt, hst, ⟨_, _, _, (by (try dsimp only); first | assumption | rfl | (simp (decide := true) only [reduceIte]; done) | (simp (decide := true) only [reduceIte]; assumption)), .head _, by assumption⟩, K, kv, kn, (by (try dsimp only); first | assumption | rfl | (simp (decide := true) only [reduceIte]; done) | (simp (decide := true) only [reduceIte]; assumption)), .tail _ hkm, hkd.mono fun y hy => .tail _ hy⟩
end


noncomputable def kcPack : PSigma fun x : PySem.Expr × PySem.Expr × Str × Pos × PySem.Expr × Scope × Pos => ∃ t a o f p1 p2 ps, (lawFor.1.2.2[2]? : Option Stmt) = some (Stmt.Assign t (PySem.Expr.BinOp a o (PySem.Expr.Call f [PySem.Expr.ListComp x.2.1 [⟨.Name x.2.2.1 x.2.2.2.1, x.2.2.2.2.1, [x.1], 0⟩] x.2.2.2.2.2.1 x.2.2.2.2.2.2] [] p1) p2) ps) := ⟨(_, _, _, _, _, _, _), _, _, _, _, _, _, _, rfl⟩
noncomputable abbrev kcE (L C fa : Addr) (cd : Value) : Env := PySem.compEnvC kcPack.1.2.2.2.2.2.1 [(Str.ofString "text", L + 1)] C (lawEnv L fa cd)
noncomputable def kn (x : Str) : Bool := !([Str.ofString "KEY", Str.ofString "IS"].any (· == x))
theorem notin_kn {prog : Program} {w : World} {A : Around} {E : Value → Shared → Prop} {s : Shared} {D : Addr} {x : Str} {u1 u2 u : Tok} {Q : Value → Shared → Prop} (t : IsTup s.heap D #[.str (Str.ofString "KEY") u1, .str (Str.ofString "IS") u2])
    (r : Bool) (hr : kn x = r) (h : Q (.bool r) s) : wpAny (model prog w) A (compareOp .NotIn (.str x u) (.ref D)) Q E s :=
  notin_tuple_strs t (StrsAre.cons _ _ (StrsAre.cons _ _ StrsAre.nil)) (by rw [show (!([Str.ofString "KEY", Str.ofString "IS"].any (· == x))) = r from hr]; exact h)
theorem pick1 {v : Value} {vs : List Value} : slicePick (List.toArray (v :: vs)) (some 1) none none = List.toArray vs := by
  have e : sliceBounds (some 1) none none (List.toArray (v :: vs)).size = (((1 : Nat) : Int), ((vs.length + 1 : Nat) : Int), 1) := by
    simp only [sliceBounds, Option.getD_none, List.size_toArray, List.length_cons]
    congr 1
    omega
  rw [kmk_pick_nat _ e]
  simp
theorem slice_1 {prog : Program} {w : World} {A : Around} {E : Value → Shared → Prop} {s : Shared} {h₀ : Heap} {L l : Addr} {m : Str → Option Value} {news : List (Addr × Obj)} {value slice : PySem.Expr} {v : Value} {vs : List Value} {u : Tok} {Q : Value → Shared → Prop} (F : Fr h₀ L s.heap m) (N : News h₀ L s.heap news) (hl : s.heap.IsList l (List.toArray (v :: vs)))
    (h : ∀ D h', Fr h₀ L h' m → News h₀ L h' ((D, listOf (List.toArray vs) 0) :: news) → (∀ p ∈ news, p.1 < D) → Q (.ref D) { s with heap := h' })
    (hs : subscripted slice false (.ref l) (.ref s.heap.objs.size) = operate [.ref s.heap.objs.size, .ref l] (getItem (.ref l) (.ref s.heap.objs.size))) (ht : ∀ r, letTemporaryGo value (.ref l) r = pure ()) (hz : vs.length ≤ 1000) :
    wpAny (model prog w) A (subscriptTail value slice (.ref l) (.ref s.heap.objs.size)) Q E { s with heap := s.heap.push { cls := .type "slice", data := .fields #[.int 1 u, .none, .none] } } := by
  refine kmk_slice F N hl (.int 1 u) .none (fun D h' F' N' l1 => h D h' F' ?_ l1) hs ht (by simp [sizeLine_eq]; omega)
  rw [pick1] at N'
  exact N'
theorem kc_sub1 (a b c d : Addr × Obj) (news : List (Addr × Obj)) : ∀ p ∈ b :: c :: d :: a :: news, p ∈ a :: b :: c :: d :: news := fun p hp => by
  simp only [List.mem_cons] at hp ⊢
  rcases hp with q | q | q | q | q <;> simp [q]
theorem kc_sub2 (a e b c d : Addr × Obj) (news : List (Addr × Obj)) : ∀ p ∈ b :: c :: d :: e :: a :: news, p ∈ e :: a :: b :: c :: d :: news := fun p hp => by
  simp only [List.mem_cons] at hp ⊢
  rcases hp with q | q | q | q | q | q <;> simp [q]
theorem kc_off {I C D D1 D2 : Addr} {o1 o2 : Obj} {news : List (Addr × Obj)} (off : LCg.Off3 I C D news) (a : I < D1) (b : C < D1) (c : D < D1) (a' : I < D2) (b' : C < D2) (c' : D < D2) : LCg.Off3 I C D ((D2, o2) :: (D1, o1) :: news) :=
  ⟨⟨Nat.ne_of_gt a', Nat.ne_of_gt b', Nat.ne_of_gt c'⟩, ⟨Nat.ne_of_gt a, Nat.ne_of_gt b, Nat.ne_of_gt c⟩, off⟩
theorem kc_off1 {I C D D1 : Addr} {o1 : Obj} {news : List (Addr × Obj)} (off : LCg.Off3 I C D news) (a : I < D1) (b : C < D1) (c : D < D1) : LCg.Off3 I C D ((D1, o1) :: news) :=
  ⟨⟨Nat.ne_of_gt a, Nat.ne_of_gt b, Nat.ne_of_gt c⟩, off⟩

section
variable {w : World} {p : Program} {loose : List Str} {mean : ExcName → Option Value} {mg mb : Str → Option Value}
  {env : Env} {outer : List Env} {gd : Option (List Code)} {A₀ : Around} {base h₀ : Heap} {L : Addr} {m : Str → Option Value} {news : List (Addr × Obj)} {g : Obj → List (Addr × Obj)} {s : Shared} {Q E : Value → Shared → Prop}
  {D U : Nat} {r dr lt nd : Addr} {t1 t2 t3 tk ka : Tok} {q k : Int} {n : Nat} {l : List Tk}
local macro_rules | `(tactic| k_mem) => `(tactic| walk_at "own:m1")
local macro_rules | `(tactic| walk_at "compareOp NotIn str ref") => `(tactic| (goal_lacks GoM; refine stp ?_))
local macro_rules | `(tactic| walk_at "subscriptTail Name Constant ref int") => `(tactic| (goal_lacks GoM; refine stp ?_))

theorem kc_turn {fa : Addr} {cd : Value} {I C D Dt : Addr} {oI oC oc : Obj} {m₂ : Str → Option Value} {ys tv : List Value} {nm x0 : Str} {u u0 : Tok} {et : Nat} {S : List (Addr × Obj) → Prop} {R1 R0 : Value → List (Addr × Obj) → Prop}
  (B : Below A₀ base outer h₀) (F : Fr h₀ L s.heap m) (X : (kdef.heap_1 w.params).In h₀) (N : News h₀ L s.heap ((I, oI) :: (C, oC) :: (D, LCg.lst ys) :: news)) (T : Top p loose mean mg mb h₀)
  (hC : LCg.NsObj oC m₂) (hx : m₂ (Str.ofString "name") = some (.str nm u)) (off : LCg.Off3 I C D news) (hcm : (L + 1, oc) ∈ news) (hoc : oc.data = .cell (some (.ref Dt))) (htm : (Dt, listOf (List.toArray (.str x0 u0 :: tv)) et) ∈ news)
  (hS : ∀ nw, (∀ y ∈ news, y ∈ nw) → S nw)
  (r1 : kn nm = true → ∀ Dp nw n, (∀ y ∈ news, y ∈ nw) → (Dp, ({ cls := .type "tuple", data := .seq #[.bool (x0 == Str.ofString "ASCENDING"), .str nm u] n } : Obj)) ∈ nw → R1 (.ref Dp) nw)
  (r0 : kn nm = false → ∀ nw, (∀ y ∈ news, y ∈ nw) → R0 .none nw) :
  wpAny (model PG w) (ctx 700 3500 (lawEnv L fa cd) outer gd) (isTrue kcPack.1.1 (kcE L C fa cd) (eval kcPack.1.1 (kcE L C fa cd))) (fun ok s' => if ok = true then
    wpAny (model PG w) (ctx 700 3500 (lawEnv L fa cd) outer gd) (eval kcPack.1.2.1 (kcE L C fa cd)) (LCg.CompEnd h₀ L m s I oI C oC D (LCg.lst ys) S R1) E s'
    else LCg.CompEnd h₀ L m s I oI C oC D (LCg.lst ys) S R0 Value.none s') E s := by
  simp only [kcPack, lawFor, lawPack, List.take_succ_cons, List.take_zero, List.drop_succ_cons, List.drop_zero, lawEnv, kcE]
  cases hb : kn nm with
  | false =>
    (repeat' (first | (with_reducible refine unstp ?_; first | ((k_here; (with_reducible show wpAny _ _ (subscriptTail (PySem.Expr.Name _ _) _ (Value.ref _) (Value.int _ _)) _ _ _); k_dflt (refine' item_litK ?k1 ?k2 ?k3 ?k4 ?_ ?k6; (case k1 => exact News.isList (by k_asm) (by k_mem)); (case k2 => decide); (case k3 => decide); (case k4 => exact rfl); (case k6 => with_unfolding_all rfl); k_whole))) | ((k_here; (with_reducible show wpAny _ _ (compareOp CmpOp.NotIn (Value.str _ _) (Value.ref _)) _ _ _); (with_unfolding_all refine' notin_kn ?t _ ?hr ?_; (case t => exact News.isTup (by k_asm) (by k_mem)); (case hr => assumption); k_whole))) | (refine goM ?_; k_dflt walk1) | (k_dflt (dsimp only); refine stp ?_)) | (k_unfold; (first | with_reducible refine (?_ : wpAny _ _ _ _ _ _) | (try dsimp only))) | (k_end; wrow_close) | walk1 | (dsimp only; walk1) | (leave1; walk_say "STEP leave1"; try dsimp only) | fail "no step"))
    exact LCg.CompEnd.intro (by k_asm) (by k_asm) (_ :: news) (kc_sub1 _ _ _ _ _) (kc_off1 off (ltN (by omega)) (ltN (by omega)) (ltN (by omega))) (hS _ fun y hy => .tail _ hy) (r0 hb _ fun y hy => .tail _ hy)
  | true =>
    (repeat' (first | (with_reducible refine unstp ?_; first | ((k_here; (with_reducible show wpAny _ _ (subscriptTail (PySem.Expr.Name _ _) _ (Value.ref _) (Value.int _ _)) _ _ _); k_dflt (refine' item_litK ?k1 ?k2 ?k3 ?k4 ?_ ?k6; (case k1 => exact News.isList (by k_asm) (by k_mem)); (case k2 => decide); (case k3 => decide); (case k4 => exact rfl); (case k6 => with_unfolding_all rfl); k_whole))) | ((k_here; (with_reducible show wpAny _ _ (compareOp CmpOp.NotIn (Value.str _ _) (Value.ref _)) _ _ _); (with_unfolding_all refine' notin_kn ?t _ ?hr ?_; (case t => exact News.isTup (by k_asm) (by k_mem)); (case hr => assumption); k_whole))) | (refine goM ?_; k_dflt walk1) | (k_dflt (dsimp only); refine stp ?_)) | (k_unfold; (first | with_reducible refine (?_ : wpAny _ _ _ _ _ _) | (try dsimp only))) | (k_end; wrow_close) | walk1 | (dsimp only; walk1) | (leave1; walk_say "STEP leave1"; try dsimp only) | fail "no step"))
    exact LCg.CompEnd.intro (by k_asm) (by k_asm) (_ :: _ :: news) (kc_sub2 _ _ _ _ _ _) (kc_off off (ltN (by omega)) (ltN (by omega)) (ltN (by omega)) (ltN (by omega)) (ltN (by omega)) (ltN (by omega))) (hS _ fun y hy => .tail _ (.tail _ hy)) (r1 hb _ _ _ (fun y hy => .tail _ (.tail _ hy)) (.head _))
end


noncomputable def kf (b : Bool) : List Str → List (Bool × Str)
  | [] => []
  | x :: r => if kn x then (b, x) :: kf b r else kf b r
theorem kf_append (b : Bool) (a c : List Str) : kf b (a ++ c) = kf b a ++ kf b c := by
  induction a with
  | nil => rfl
  | cons x a ih => simp only [List.cons_append, kf]; split <;> simp [ih]
theorem DatAll.snoc {nw : List (Addr × Obj)} {vs : List Value} {ds : List Dat} {v : Value} {d : Dat} (h : DatAll nw vs ds) (k : DatIn nw v d) : DatAll nw (vs ++ [v]) (ds ++ [d]) := by
  induction vs generalizing ds with
  | nil => cases h; exact .cons k .nil
  | cons x vs ih => cases h with | cons a b => exact .cons a (ih b)
theorem DatAll.len {nw : List (Addr × Obj)} {vs : List Value} {ds : List Dat} (h : DatAll nw vs ds) : vs.length = ds.length := by
  induction vs generalizing ds with
  | nil => cases h; rfl
  | cons x vs ih => cases h with | cons a b => simp [ih b]
theorem kf_len (b : Bool) (xs : List Str) : (kf b xs).length ≤ xs.length := by
  induction xs with
  | nil => exact Nat.le_refl _
  | cons x xs ih => simp only [kf]; split <;> simp <;> omega
theorem kf_tOf (i : Nat) : ∃ x0 xs, tOf i = x0 :: xs ∧ kf (x0 == Str.ofString "ASCENDING") xs = gOf i ∧ gOf i ≠ [] ∧ xs.length ≤ 4 := by
  match i with
  | 0 => exact ⟨_, _, rfl, by decide +kernel, by simp [gOf], by decide⟩
  | 1 => exact ⟨_, _, rfl, by decide +kernel, by simp [gOf], by decide⟩
  | 2 => exact ⟨_, _, rfl, by decide +kernel, by simp [gOf], by decide⟩
  | n + 3 => exact ⟨Str.ofString "DESCENDING", [Str.ofString "IS", Str.ofString "K"], rfl, by show kf _ _ = [(false, Str.ofString "K")]; decide +kernel, by show [(false, Str.ofString "K")] ≠ []; simp, by decide⟩
noncomputable abbrev kd (p : Bool × Str) : Dat := .tuple [.bool p.1, .str p.2]

section
variable {w : World} {p : Program} {loose : List Str} {mean : ExcName → Option Value} {mg mb : Str → Option Value}
  {env : Env} {outer : List Env} {gd : Option (List Code)} {A₀ : Around} {base h₀ : Heap} {L : Addr} {m : Str → Option Value} {news : List (Addr × Obj)} {g : Obj → List (Addr × Obj)} {s : Shared} {Q E : Value → Shared → Prop}
  {D U : Nat} {r dr lt nd : Addr} {t1 t2 t3 tk ka : Tok} {q k : Int} {n : Nat} {l : List Tk}

theorem kc_rest {fa : Addr} {cd : Value} {Dt ax : Addr} {oc : Obj} {tv its : List Value} {x0 : Str} {u0 : Tok} {et : Nat} {xs : List Str} {base9 : List (Addr × Obj)} {kx : Nat} {Fin : List Value → List (Addr × Obj) → Prop}
  (B : Below A₀ base outer h₀) (X : (kdef.heap_1 w.params).In h₀) (T : Top p loose mean mg mb h₀) (hcm : (L + 1, oc) ∈ base9) (hoc : oc.data = .cell (some (.ref Dt))) (htm : (Dt, listOf (List.toArray (.str x0 u0 :: tv)) et) ∈ base9)
  (hax : (ax, listOf (List.toArray its) kx) ∈ base9) (hits : SV its xs)
  (fin : ∀ ys nw, (∀ y ∈ base9, y ∈ nw) → DatAll nw ys ((kf (x0 == Str.ofString "ASCENDING") xs).map kd) → Fin ys nw) :
  ∀ (zs pre : List Str) (ys : List Value) (nw : List (Addr × Obj)), xs = pre ++ zs → (∀ y ∈ base9, y ∈ nw) → DatAll nw ys ((kf (x0 == Str.ofString "ASCENDING") pre).map kd) →
    LCt.CompRestT PG w (ctx 700 3500 (lawEnv L fa cd) outer gd) h₀ L m (lawEnv L fa cd) kcPack.1.1 kcPack.1.2.1 kcPack.1.2.2.1 kcPack.1.2.2.2.2.2.1 [(Str.ofString "text", L + 1)] s (LCg.SrcAt h₀ ax (List.toArray its)) (fun i v => (List.toArray its)[i]? = some v) Fin zs.length pre.length ys nw := by
  intro zs
  induction zs with
  | nil =>
    intro pre ys nw e hs hd
    refine LCt.CompRestT.zero (fin ys nw hs ?_)
    rw [e, List.append_nil]
    exact hd
  | cons z zs ih =>
    intro pre ys nw e hs hd
    refine LCt.CompRestT.succ fun v I oI C oC D m₂ h tk E' hP hC hx F N off ne => ?_
    obtain ⟨u, hu⟩ := hits.get pre.length (by rw [e]; simp)
    have hv : v = .str z u := by
      rw [List.getElem?_toArray, hu] at hP
      simp only [e, List.getElem_append_right (Nat.le_refl _), Nat.sub_self, List.getElem_cons_zero] at hP
      exact (Option.some.inj hP).symm
    subst hv
    have hS : ∀ nw', (∀ y ∈ nw, y ∈ nw') → LCg.SrcAt h₀ ax (List.toArray its) nw' := fun nw' k => .inr ⟨_, k _ (hs _ hax), rfl, _, rfl⟩
    refine kc_turn (R1 := _) (R0 := _) B F X N T hC hx off (hs _ hcm) hoc (hs _ htm) hS (fun hk Dp nw' n sub hm => ?_) (fun hk nw' sub => ?_)
    · have := ih (pre ++ [z]) (ys ++ [.ref Dp]) nw' (by rw [e]; simp) (fun y hy => sub _ (hs y hy)) ?_
      · rw [List.length_append] at this
        exact this
      · rw [kf_append, List.map_append]
        simp only [kf, hk, if_true, List.map_cons, List.map_nil]
        exact DatAll.snoc (hd.mono sub) (.tuple (n := n) (vs := [_, _]) hm (.cons (.bool _) (.cons (.str _ _) .nil)))
    · have := ih (pre ++ [z]) ys nw' (by rw [e]; simp) (fun y hy => sub _ (hs y hy)) ?_
      · rw [List.length_append] at this
        exact this
      · rw [kf_append, List.map_append]
        simp only [kf, hk, Bool.false_eq_true, if_false, List.map_nil, List.append_nil]
        exact hd.mono sub
end


section
variable {w : World} {p : Program} {loose : List Str} {mean : ExcName → Option Value} {mg mb : Str → Option Value}
  {env : Env} {outer : List Env} {gd : Option (List Code)} {A₀ : Around} {base h₀ : Heap} {L : Addr} {m : Str → Option Value} {news : List (Addr × Obj)} {g : Obj → List (Addr × Obj)} {s : Shared} {Q E : Value → Shared → Prop}
  {D U : Nat} {r dr lt nd : Addr} {t1 t2 t3 tk ka : Tok} {q k : Int} {n : Nat} {l : List Tk}
local macro_rules | `(tactic| k_mem) => `(tactic| walk_at "own:m1")
local macro_rules | `(tactic| walk_at "subscriptTail Name Slice ref ref") => `(tactic| (goal_lacks GoM; refine stp ?_))

theorem kc_c {fa : Addr} {cd : Value} {Dt : Addr} {oc : Obj} {tv : List Value} {x0 : Str} {u0 : Tok} {et : Nat} {xs : List Str}
  (B : Below A₀ base outer h₀) (F : Fr h₀ L s.heap m) (X : (kdef.heap_1 w.params).In h₀) (N : News h₀ L s.heap news) (T : Top p loose mean mg mb h₀) (hcm : (L + 1, oc) ∈ news) (hoc : oc.data = .cell (some (.ref Dt))) (htm : (Dt, listOf (List.toArray (.str x0 u0 :: tv)) et) ∈ news)
  (hits : SV tv xs) (hz : tv.length ≤ 1000)
  (ret : ∀ D h' tk' ys nw, Fr h₀ L h' m → News h₀ L h' ((D, LCg.lst ys) :: nw) → LCg.Off1 D nw → (∀ y ∈ news, y ∈ nw) → DatAll nw ys ((kf (x0 == Str.ofString "ASCENDING") xs).map kd) → ys.length ≤ xs.length → Q (.ref D) { s with heap := h', toks := tk' }) :
  wpAny (model PG w) (ctx 700 3500 (lawEnv L fa cd) outer gd) (eval (.ListComp kcPack.1.2.1 [⟨.Name kcPack.1.2.2.1 kcPack.1.2.2.2.1, kcPack.1.2.2.2.2.1, [kcPack.1.1], 0⟩] kcPack.1.2.2.2.2.2.1 kcPack.1.2.2.2.2.2.2) (lawEnv L fa cd)) Q E s := by
  simp only [kcPack, lawFor, lawPack, List.take_succ_cons, List.take_zero, List.drop_succ_cons, List.drop_zero, lawEnv]
  k_dflt (refine LCt.ListComp_T (F₀ := F) (by with_unfolding_all rfl) (by decide) (by rfl) (by decide) (by rfl) ?_)
  iterate 8 (first | (k_unfold; (try dsimp only)) | (walk1; (try (with_reducible refine unstp ?_; first | ((k_here; (with_reducible show wpAny _ _ (subscriptTail (PySem.Expr.Name _ _) (PySem.Expr.Slice (some _) none none _) (Value.ref _) (Value.ref _)) _ _ _); k_dflt (refine' slice_1 ?F ?N ?l ?_ ?s ?t ?z; (case F => k_asm); (case N => k_asm); (case l => exact News.isList (by k_asm) (by k_mem)); (case s => with_unfolding_all rfl); (case t => (intro _; with_unfolding_all rfl)); (case z => assumption); k_whole); intro D9z' h9z' F9z' N9z' l19z; (try k_lt l19z))) | (refine goM ?_; k_dflt walk1)))) | (dsimp only; walk1))
  have hl := hits.len
  refine LCt.CompSrcT.ledger (its := List.toArray tv) rfl (by k_asm) (by k_asm) (.head _) (by rw [List.size_toArray, sizeLine_eq]; omega) (fun g => ?_)
  have e : (List.toArray tv).size = xs.length := by rw [List.size_toArray, hl]
  rw [e]
  exact kc_rest B X T (.tail _ hcm) hoc (.tail _ htm) (.head _) hits (fun ys nw sub hd => fun D h tk F N o1 => ret D h tk ys nw F N o1 (fun y hy => sub y (.tail _ hy)) hd (by rw [DatAll.len hd, List.length_map]; exact kf_len _ _)) xs [] [] _ rfl (fun y hy => hy) .nil
end


theorem DatAll.app {nw : List (Addr × Obj)} {vs ws : List Value} {ds es : List Dat} (h : DatAll nw vs ds) (k : DatAll nw ws es) : DatAll nw (vs ++ ws) (ds ++ es) := by
  induction vs generalizing ds with
  | nil => cases h; exact k
  | cons x vs ih => cases h with | cons a b => exact .cons a (ih b)
noncomputable abbrev tuL (vs : List Value) (n : Nat) : Obj := { cls := .type "tuple", data := .seq (List.toArray vs) n }
theorem add_tups {prog : Program} {w : World} {A : Around} {E : Value → Shared → Prop} {s : Shared} {h₀ : Heap} {L : Addr} {m : Str → Option Value} {news base9 : List (Addr × Obj)} {t b : Addr} {vs ws : List Value} {n1 n2 : Nat} {Q : Value → Shared → Prop} (F : Fr h₀ L s.heap m) (N : News h₀ L s.heap news)
    (ht : (t, tuL vs n1) ∈ news) (hb : (b, tuL ws n2) ∈ news) (hw : ws ≠ []) (hz : vs.length + ws.length ≤ 1000) (h9 : ∀ p ∈ base9, p ∈ news) (hlt : ∀ p ∈ base9, p.1 < b)
    (h : ∀ R h' nw n, Fr h₀ L h' m → News h₀ L h' nw → (∀ y ∈ news, y ∈ nw) → (R, tuL (vs ++ ws) n) ∈ nw → (∀ p ∈ base9, p.1 < R) → Q (.ref R) { s with heap := h' }) : wpAny (model prog w) A (binaryOp .Add (.ref t) (.ref b)) Q E s := by
  by_cases hv : vs = []
  · subst hv
    exact kde_addT0 F N (News.isTup N ht) (News.isTup N hb) rfl (by simp at hz ⊢; omega) (h b s.heap news n2 F N (fun y hy => hy) hb hlt)
  · exact kde_addT F N (News.isTup N ht) (News.isTup N hb) hv hw (by simp at hz ⊢; omega) rfl fun D h' F' N' l1 => h D h' _ 0 F' N' (fun y hy => .tail _ hy) (.head _) fun p hp => l1 p (h9 p hp)
inductive PTf (W : List Str) (ks : List (Bool × Str)) (m : Str → Option Value) (nw : List (Addr × Obj)) (x_ : Option Value) : Prop
  | mk (i : _) (f1 : i < 4) (f2 : PT (W ++ tOf i) (ks ++ gOf i) m nw) : PTf W ks m nw x_
noncomputable def flt (tp I c : Addr) (big : List (Addr × Obj)) : List (Addr × Obj) := big.filter fun p => !(p.1 == tp) && (!(p.1 == I) && !(p.1 == c))
theorem mem_flt {tp I c : Addr} {big : List (Addr × Obj)} {x : Addr × Obj} : x ∈ flt tp I c big ↔ x ∈ big ∧ x.1 ≠ tp ∧ x.1 ≠ I ∧ x.1 ≠ c := by
  unfold flt
  rw [List.mem_filter]
  simp
theorem tup_flt {h₀ h : Heap} {L tp I c : Addr} {big : List (Addr × Obj)} {ot it oc : Obj} (N : News h₀ L h big) (h1 : (tp, ot) ∈ big) (h2 : (I, it) ∈ big) (h3 : (c, oc) ∈ big) (c1 : ot.cls ≠ .type "tuple") (c2 : it.cls ≠ .type "tuple") (c3 : ∀ vs n, oc.data ≠ .seq vs n) (a : Addr) (vs : List Value) (n : Nat) (hx : (a, tuL vs n) ∈ big) : (a, tuL vs n) ∈ flt tp I c big := by
  have e := (N _ hx).1
  refine mem_flt.mpr ⟨hx, ?_, ?_, ?_⟩
  · intro q
    have e1 := (N _ h1).1
    dsimp only at e e1 q
    rw [← q, e] at e1
    exact c1 (by rw [← Option.some.inj e1])
  · intro q
    have e1 := (N _ h2).1
    dsimp only at e e1 q
    rw [← q, e] at e1
    exact c2 (by rw [← Option.some.inj e1])
  · intro q
    have e1 := (N _ h3).1
    dsimp only at e e1 q
    rw [← q, e] at e1
    exact c3 _ _ (by rw [← Option.some.inj e1])
theorem kd_mono {nw nw' : List (Addr × Obj)} (k : ∀ a vs n, (a, tuL vs n) ∈ nw → (a, tuL vs n) ∈ nw') : ∀ (gs : List (Bool × Str)) (ys : List Value), DatAll nw ys (gs.map kd) → DatAll nw' ys (gs.map kd) := by
  intro gs
  induction gs with
  | nil => intro ys h; cases h; exact .nil
  | cons g gs ih =>
    intro ys h
    cases h with
    | cons a b =>
      refine .cons ?_ (ih _ b)
      cases a with
      | tuple m r =>
        refine .tuple (k _ _ _ m) ?_
        cases r with | cons x r => cases r with | cons y r => cases r; cases x; cases y; exact .cons (.bool _) (.cons (.str _ _) .nil)
theorem t3_end {G : List (Str × Value)} {keep : List (Addr × Obj)} {h₀ h' : Heap} {L I tp cl R D1 D2 : Addr} {it oc o1 o2 : Obj} {m' : Str → Option Value} {rest nw1 nw2 : List (Addr × Obj)} {ns : List Int} {a bd : Int} {e tk' n : Nat} {ta : Tok} {ov : Option Value} {W : List Str} {ks : List (Bool × Str)} {kv ys : List Value} {b : Bool} {xs : List Str} {i : Nat} {s : Shared} (hit : it.cls ≠ .type "tuple") (hoc : oc.data = .cell ov)
    (F : Fr h₀ L h' m') (N : News h₀ L h' nw2) (sub2 : ∀ y ∈ (D2, o2) :: (D1, o1) :: nw1, y ∈ nw2) (hR : (R, tuL (kv ++ ys) n) ∈ nw2) (sub1 : ∀ y ∈ (tp, listOf #[.ref cl, .int a ta] e) :: (I, it) :: (L + 1, oc) :: rest, y ∈ nw1) (hd : DatAll nw1 ys ((kf b xs).map kd)) (eK : kf b xs = gOf i)
    (hkd : DatAll rest kv (ks.map kd)) (ht : TapeAt tp cl a ns rest) (hn : tp ≠ I ∧ tp ≠ L + 1 ∧ I ≠ L + 1) (hrI : ∀ q ∈ rest, q.1 ≠ I) (hrL : ∀ q ∈ rest, q.1 ≠ L + 1) (hab : a ≤ bd) (hm : m' (Str.ofString "tape") = some (.ref tp)) (hi : i < 4)
    (hKV : KV G m') (hkp : ∀ y ∈ keep, y ∈ rest) (hw : PW (W ++ tOf i) m' rest) (hk : m' (Str.ofString "keys") = some (.ref R)) : StI h₀ L I it G keep bd (PTf W ks) s { s with heap := h', toks := tk' } := by
  have s0 : ∀ y ∈ (tp, listOf #[.ref cl, .int a ta] e) :: (I, it) :: (L + 1, oc) :: rest, y ∈ nw2 := fun y hy => sub2 y (.tail _ (.tail _ (sub1 y hy)))
  have sr : ∀ y ∈ rest, y ∈ flt tp I (L + 1) nw2 := fun y hy => mem_flt.mpr ⟨s0 y (.tail _ (.tail _ (.tail _ hy))), ht.off y hy, hrI y hy, hrL y hy⟩
  have tf := tup_flt (ot := listOf #[.ref cl, .int a ta] e) N (s0 _ (.head _)) (s0 _ (.tail _ (.head _))) (s0 _ (.tail _ (.tail _ (.head _)))) (fun q => absurd (Value.type.inj q) (by decide)) hit (fun vs n q => by rw [hoc] at q; cases q)
  refine ⟨m', h', tk', ta, e, flt tp I (L + 1) nw2, tp, cl, ns, a, oc, ov, rfl, F, fun x hx => ?_, ⟨?_, fun q hq => (mem_flt.mp hq).2.1, ht.l0, ht.l1, ht.a0⟩, hn, fun q hq => (mem_flt.mp hq).2.2.1, fun q hq => (mem_flt.mp hq).2.2.2, hoc, hab, hm, hKV, fun y hy => sr y (hkp y hy), i, hi, hw.mono rfl sr, R, kv ++ ys, n, hk, tf _ _ _ hR, ?_⟩
  · rcases List.mem_cons.mp hx with q | hx
    · exact N _ (s0 _ (by rw [q]; exact .head _))
    · rcases List.mem_cons.mp hx with q | hx
      · exact N _ (s0 _ (by rw [q]; exact .tail _ (.head _)))
      · rcases List.mem_cons.mp hx with q | hx
        · exact N _ (s0 _ (by rw [q]; exact .tail _ (.tail _ (.head _))))
        · exact N _ (mem_flt.mp hx).1
  · obtain ⟨cvs, e3, h1, h2⟩ := ht.ex
    exact ⟨cvs, e3, sr _ h1, h2⟩
  · have k2 := kd_mono (nw' := flt tp I (L + 1) nw2) (fun a vs n hx => tf a vs n (sub2 _ (.tail _ (.tail _ hx)))) _ _ hd
    rw [eK] at k2
    have := DatAll.app (hkd.mono sr) k2
    rw [← List.map_append] at this
    exact this
theorem mem2 {a b : List (Addr × Obj)} {x p q : Addr × Obj} (h : ∀ y ∈ a, y ∈ b) (hx : x ∈ a) : x ∈ p :: q :: b := .tail _ (.tail _ (h _ hx))
theorem tup_lst {prog : Program} {w : World} {A : Around} {E : Value → Shared → Prop} {s : Shared} {h₀ : Heap} {L D : Addr} {m : Str → Option Value} {nw : List (Addr × Obj)} {ys : List Value} {Q : Value → Shared → Prop} (F : Fr h₀ L s.heap m) (N : News h₀ L s.heap ((D, LCg.lst ys) :: nw)) (hz : ys.length ≤ 1000)
    (h : ∀ D2 h', Fr h₀ L h' m → News h₀ L h' ((D2, tuL ys 0) :: (D, LCg.lst ys) :: nw) → (∀ p ∈ (D, LCg.lst ys) :: nw, p.1 < D2) → Q (.ref D2) { s with heap := h' }) : wpAny (model prog w) A (call (.type "tuple") [.ref D]) Q E s :=
  kde_tupleOf F N (News.isList N (.head _)) (by simp; omega) rfl h
theorem ne_kc {nw : List (Addr × Obj)} {ys : List Value} {b : Bool} {xs : List Str} {gs : List (Bool × Str)} (hd : DatAll nw ys ((kf b xs).map kd)) (e : kf b xs = gs) (hg : gs ≠ []) : ys ≠ [] := fun q => by
  have := DatAll.len hd
  rw [e, q, List.length_map] at this
  exact hg (List.length_eq_zero_iff.mp this.symm)

section
variable {w : World} {p : Program} {loose : List Str} {mean : ExcName → Option Value} {mg mb : Str → Option Value}
  {env : Env} {outer : List Env} {gd : Option (List Code)} {A₀ : Around} {base h₀ : Heap} {L : Addr} {m : Str → Option Value} {news : List (Addr × Obj)} {g : Obj → List (Addr × Obj)} {s : Shared} {Q E : Value → Shared → Prop}
  {D U : Nat} {r dr lt nd : Addr} {t1 t2 t3 tk ka : Tok} {q k : Int} {n : Nat} {l : List Tk}
local macro_rules | `(tactic| k_mem) => `(tactic| walk_at "own:m1")
local macro_rules | `(tactic| walk_at "eval ListComp") => `(tactic| (goal_lacks GoM; refine stp ?_))
local macro_rules | `(tactic| walk_at "call type:tuple") => `(tactic| (goal_lacks GoM; refine stp ?_))
local macro_rules | `(tactic| walk_at "binaryOp Add ref ref") => `(tactic| (goal_lacks GoM; refine stp ?_))

theorem t_3 {fa : Addr} {cd : Value} {G : List (Str × Value)} {keep : List (Addr × Obj)} {I : Addr} {it : Obj} {W : List Str} {ks : List (Bool × Str)} {s₀ : Shared} {bd : Int} (B : Below A₀ base outer h₀) (X : (kdef.heap_1 w.params).In h₀) (T : Top p loose mean mg mb h₀) (hs : StI h₀ L I it G keep bd (PTw W ks) s₀ s) (hks : ks.length ≤ 100) (hit : it.cls ≠ .type "tuple") (hG : GOk G) :
  wpAny (model PG w) (ctx 700 3500 (lawEnv L fa cd) outer gd) (execs ((lawFor.1.2.2.drop 2).take 1) (lawEnv L fa cd)) (fun f s' => f = .next ∧ StI h₀ L I it G keep bd (PTf W ks) s₀ s') E s := by
  refine StI.elim hs ?_
  intro m h tk' ta e rest tp cl ns a oc ov F N ht htI htL hIL hrI hrL hoc hab hmt hKV hkp hP
  clear hs
  have hne := ht.ne
  have hne1 := neN hne
  have hI1 : I ≠ tp := neN (Ne.symm htI)
  have hL1 : L + 1 ≠ tp := neN (Ne.symm htL)
  have hL2 : tp ≠ L + 1 := neN htL
  have hL3 : I ≠ L + 1 := neN hIL
  obtain ⟨⟨cvs, e3, hcl, hi⟩, hrest, hl0, hl1, ha0⟩ := ht
  obtain ⟨i, Dt, tv, et, hi4, rfl, hdt, hst, ⟨w9, wv, ew, hmw, hwm, hsv⟩, K, kv, kn9, hmk, hkm, hkd⟩ := hP
  obtain ⟨x0, xs, eT, eK, hgn, hxl⟩ := kf_tOf i
  rw [eT] at hst
  cases hst with
  | cons _ u0 hst =>
  rename_i tv
  have hwl := hst.len
  have hkl := DatAll.len hkd
  rw [List.length_map] at hkl
  simp only [lawFor, lawPack, List.take_succ_cons, List.take_zero, List.drop_succ_cons, List.drop_zero, lawEnv]
  (repeat' (first | (with_reducible refine unstp ?_; first | ((k_here; (with_reducible show wpAny _ _ (binaryOp _ (Value.ref _) (Value.ref _)) _ _ _); k_dflt (refine' add_tups ?F ?N ?ht ?hb ?hw ?hz ?h9 ?hlt ?_; (case F => k_asm); (case N => k_asm); (case ht => (refine mem2 (by assumption) ?_; k_mem)); (case hb => exact .head _); (case hw => exact ne_kc (by assumption) (by assumption) (by assumption)); (case hz => omega); (case h9 => exact fun p hp => .tail _ hp); (case hlt => assumption); k_whole); intro R9z' h9z' nw9z' n9z' F9z' N9z' sub9z' hR9z' lR9z'; (try dsimp only))) | ((k_here; (with_reducible show wpAny _ _ (call (Value.type _) [Value.ref _]) _ _ _); k_dflt (refine' tup_lst ?k1 ?k2 ?k3 ?_; (case k1 => k_asm); (case k2 => k_asm); (case k3 => omega); k_whole); intro D9z' h9z' F9z' N9z' l19z; (try dsimp only))) | ((k_here; k_dflt (refine' kc_c ?B ?F ?X ?N ?T ?hcm ?hoc ?htm ?hits ?hz ?_; (case B => k_asm); (case F => k_asm); (case X => k_asm); (case N => k_asm); (case T => k_asm); (case hcm => k_mem); (case hoc => assumption); (case htm => k_mem); (case hits => assumption); (case hz => omega); k_whole); intro D9z' h9z' tk9z' ys9z' nw9z' F9z' N9z' o19z' sub9z' hd9z' hy9z'; (try dsimp only))) | (refine goM ?_; k_dflt walk1) | (k_dflt (dsimp only); refine stp ?_)) | (k_unfold; (first | with_reducible refine (?_ : wpAny _ _ _ _ _ _) | (try dsimp only))) | (k_end; wrow_close) | walk1 | (dsimp only; walk1) | (leave1; walk_say "STEP leave1"; try dsimp only) | fail "no step"))
  exact t3_end hit (by assumption) (by k_asm) (by k_asm) (by assumption) (by assumption) (by assumption) (by assumption) eK hkd ⟨⟨cvs, e3, hcl, hi⟩, hrest, hl0, hl1, ha0⟩ ⟨htI, htL, hIL⟩ hrI hrL hab (by (try dsimp only); first | assumption | rfl | (simp (decide := true) only [reduceIte]; done) | (simp (decide := true) only [reduceIte]; assumption)) hi4 (KV.upd hKV hG.keys) hkp ⟨w9, wv, ew, (by (try dsimp only); first | assumption | rfl | (simp (decide := true) only [reduceIte]; done) | (simp (decide := true) only [reduceIte]; assumption)), hwm, hsv⟩ (by (try dsimp only); first | assumption | rfl | (simp (decide := true) only [reduceIte]; done) | (simp (decide := true) only [reduceIte]; assumption))
end


noncomputable def gG (low high : Int) (u1 u2 : Tok) (v x : Value) : List (Str × Value) := [(Str.ofString "low", .int low u1), (Str.ofString "high", .int high u2), (Str.ofString "depending", v), (Str.ofString "indexes", x)]
theorem gok (low high : Int) (u1 u2 : Tok) (v x : Value) : GOk (gG low high u1 u2 v x) := by
  refine ⟨?_, ?_, ?_⟩ <;> (intro p hp; simp only [gG, List.mem_cons, List.not_mem_nil, or_false] at hp; rcases hp with rfl | rfl | rfl | rfl <;> (dsimp only; decide +kernel))
theorem gG_kv {low high : Int} {u1 u2 : Tok} {v x : Value} {m : Str → Option Value} (h1 : m (Str.ofString "low") = some (.int low u1)) (h2 : m (Str.ofString "high") = some (.int high u2)) (h3 : m (Str.ofString "depending") = some v) (h4 : m (Str.ofString "indexes") = some x) : KV (gG low high u1 u2 v x) m := by
  intro p hp
  simp only [gG, List.mem_cons, List.not_mem_nil, or_false] at hp
  rcases hp with rfl | rfl | rfl | rfl
  · exact h1
  · exact h2
  · exact h3
  · exact h4
structure Low (two : Bool) (low high : Int) : Prop where
  a : 0 ≤ low
  b : low ≤ 3
  c : 0 ≤ high
  d : high ≤ 5
  e : two = false → high = low
inductive P6 (way : Nat) (m : Str → Option Value) (nw : List (Addr × Obj)) : Prop
  | mk (two : _) (low : _) (high : _) (times : _) (on : _) (v : _) (x : _) (u1 : _) (u2 : _) (f1 : Low two low high) (f2 : KV (gG low high u1 u2 v x) m) (f3 : DatIn nw v (depD (depOf way))) (f4 : DatIn nw x (.tuple [])) (f5 : PT (WA (dg low) (dg high) two times ++ WB way on) [] m nw) : P6 way m nw
theorem sub_5 {a0 a1 a2 t : Addr × Obj} {rest : List (Addr × Obj)} : ∀ x ∈ t :: a1 :: a2 :: rest, x ∈ a0 :: a1 :: a2 :: t :: rest := fun x hx => by
  simp only [List.mem_cons] at hx ⊢
  rcases hx with q | q | q | q <;> simp [q]
theorem TapeAt.more2 {tp cl D1 D2 : Addr} {b : Int} {o1 o2 : Obj} {ns : List Int} {rest : List (Addr × Obj)} {cvs : List Value} {e3 : Nat} (hcl : (cl, listOf (List.toArray cvs) e3) ∈ rest) (hi : IntsAre cvs ns) (hrest : ∀ q ∈ rest, q.1 ≠ tp) (hl0 : 0 < ns.length) (hl1 : ns.length ≤ 40) (h1 : tp < D1) (h2 : tp < D2) (hb : 0 ≤ b) : TapeAt tp cl b ns ((D1, o1) :: (D2, o2) :: rest) :=
  ⟨⟨cvs, e3, .tail _ (.tail _ hcl), hi⟩, fun q hq => by
    rcases List.mem_cons.mp hq with z | hq
    · rw [z]; exact Nat.ne_of_gt h1
    · rcases List.mem_cons.mp hq with z | hq
      · rw [z]; exact Nat.ne_of_gt h2
      · exact hrest q hq, hl0, hl1, hb⟩

section
variable {w : World} {p : Program} {loose : List Str} {mean : ExcName → Option Value} {mg mb : Str → Option Value}
  {env : Env} {outer : List Env} {gd : Option (List Code)} {A₀ : Around} {base h₀ : Heap} {L : Addr} {m : Str → Option Value} {news : List (Addr × Obj)} {g : Obj → List (Addr × Obj)} {s : Shared} {Q E : Value → Shared → Prop}
  {D U : Nat} {r dr lt nd : Addr} {t1 t2 t3 tk ka : Tok} {q k : Int} {n : Nat} {l : List Tk}
local macro_rules | `(tactic| k_mem) => `(tactic| walk_at "own:m1")

theorem l_5 {fa : Addr} {cd : Value} {keep : List (Addr × Obj)} {way : Nat} {s₀ : Shared} (B : Below A₀ base outer h₀) (X : (kdef.heap_1 w.params).In h₀) (T : Top p loose mean mg mb h₀) (hs : St h₀ L keep 6 (P5 way) s₀ s) :
  wpAny (model PG w) (ctx 700 3500 (lawEnv L fa cd) outer gd) (execs ((lawPack.1.1.drop 8).take 1) (lawEnv L fa cd)) (fun f s' => f = .next ∧ St h₀ L keep 6 (P6 way) s₀ s') E s := by
  refine St.elim hs ?_
  intro m h tk' ta e rest tp cl ns a F N ht hab hkeep hmt hP
  clear hs
  have hne := ht.ne
  have hne1 := neN hne
  obtain ⟨⟨cvs, e3, hcl, hi⟩, hrest, hl0, hl1, ha0⟩ := ht
  obtain ⟨two, low, high, times, on, v, ⟨u1, u2, hm1, hm2, hm3, p1, p2, p3, p4, p5⟩, hmd, hdi, w9, wv, ew, hmw, hwm, hsv⟩ := hP
  simp only [lawPack, List.take_succ_cons, List.take_zero, List.drop_succ_cons, List.drop_zero, lawEnv]
  (repeat' (first | (with_reducible refine unstp ?_; first | (refine goM ?_; k_dflt walk1) | (k_dflt (dsimp only); refine stp ?_)) | (k_unfold; (first | with_reducible refine (?_ : wpAny _ _ _ _ _ _) | (try dsimp only))) | (k_end; wrow_close) | walk1 | (dsimp only; walk1) | (leave1; walk_say "STEP leave1"; try dsimp only) | fail "no step"))
  exact st_end (by k_asm) (by k_asm) sub_5 (TapeAt.more2 hcl hi hrest hl0 hl1 (ltN (by omega)) (ltN (by omega)) ha0) hab (fun y hy => .tail _ (.tail _ (hkeep y hy))) (by (try dsimp only); first | assumption | rfl | (simp (decide := true) only [reduceIte]; done) | (simp (decide := true) only [reduceIte]; assumption)) ⟨two, low, high, times, on, v, _, u1, u2, ⟨p1, p2, p3, p4, p5⟩, gG_kv (by (try dsimp only); first | assumption | rfl | (simp (decide := true) only [reduceIte]; done) | (simp (decide := true) only [reduceIte]; assumption)) (by (try dsimp only); first | assumption | rfl | (simp (decide := true) only [reduceIte]; done) | (simp (decide := true) only [reduceIte]; assumption)) (by (try dsimp only); first | assumption | rfl | (simp (decide := true) only [reduceIte]; done) | (simp (decide := true) only [reduceIte]; assumption)) (by (try dsimp only); first | assumption | rfl | (simp (decide := true) only [reduceIte]; done) | (simp (decide := true) only [reduceIte]; assumption)), hdi.mono (fun y hy => .tail _ (.tail _ hy)), .tuple (vs := []) (n := 0) (.head _) .nil, ⟨w9, wv, ew, (by (try dsimp only); first | assumption | rfl | (simp (decide := true) only [reduceIte]; done) | (simp (decide := true) only [reduceIte]; assumption)), .tail _ (.tail _ hwm), hsv⟩, _, [], 0, (by (try dsimp only); first | assumption | rfl | (simp (decide := true) only [reduceIte]; done) | (simp (decide := true) only [reduceIte]; assumption)), .tail _ (.head _), .nil⟩
end


mutual
theorem DatIn.seqs {nw nw' : List (Addr × Obj)} (k : ∀ a o, (a, o) ∈ nw → (∃ vs n, o.data = .seq vs n) → (a, o) ∈ nw') : ∀ {v : Value} {d : Dat}, DatIn nw v d → DatIn nw' v d
  | _, _, .none => .none
  | _, _, .bool b => .bool b
  | _, _, .int i t => .int i t
  | _, _, .str x t => .str x t
  | _, _, .bytes b t => .bytes b t
  | _, _, .tuple h r => .tuple (k _ _ h ⟨_, _, rfl⟩) (DatAll.seqs k r)
  | _, _, .list h r => .list (k _ _ h ⟨_, _, rfl⟩) (DatAll.seqs k r)
theorem DatAll.seqs {nw nw' : List (Addr × Obj)} (k : ∀ a o, (a, o) ∈ nw → (∃ vs n, o.data = .seq vs n) → (a, o) ∈ nw') : ∀ {vs : List Value} {ds : List Dat}, DatAll nw vs ds → DatAll nw' vs ds
  | _, _, .nil => .nil
  | _, _, .cons h r => .cons (DatIn.seqs k h) (DatAll.seqs k r)
end
theorem PT.seqs {W : List Str} {ks : List (Bool × Str)} {m m' : Str → Option Value} {nw nw' : List (Addr × Obj)} (h : PT W ks m nw) (h1 : m' (Str.ofString "words") = m (Str.ofString "words")) (h2 : m' (Str.ofString "keys") = m (Str.ofString "keys")) (k : ∀ a o, (a, o) ∈ nw → (∃ vs n, o.data = .seq vs n) → (a, o) ∈ nw') : PT W ks m' nw' := by
  obtain ⟨⟨w, wv, ew, a1, a2, a3⟩, K, vs, n, b1, b2, b3⟩ := h
  exact ⟨⟨w, wv, ew, h1.trans a1, k _ _ a2 ⟨_, _, rfl⟩, a3⟩, K, vs, n, h2.trans b1, k _ _ b2 ⟨_, _, rfl⟩, DatAll.seqs k b3⟩
/-- the state between two turns -/
structure LoopI (h₀ : Heap) (L I : Addr) (G : List (Str × Value)) (keep : List (Addr × Obj)) (b0 : Int) (W0 : List Str) (i : Nat) (m : Str → Option Value) (nw : List (Addr × Obj)) : Prop where
  ex : ∃ (ta : Tok) (e : Nat) (rest : List (Addr × Obj)) (tp cl : Addr) (ns : List Int) (a : Int) (oc : Obj) (ov : Option Value) (ts : List Nat), nw = (tp, listOf #[.ref cl, .int a ta] e) :: (L + 1, oc) :: rest ∧ TapeAt tp cl a ns rest ∧ (tp ≠ I ∧ tp ≠ L + 1 ∧ I ≠ L + 1) ∧ (∀ q ∈ rest, q.1 ≠ I) ∧ (∀ q ∈ rest, q.1 ≠ L + 1) ∧ oc.data = .cell ov ∧ a ≤ b0 + (i : Int) ∧ m (Str.ofString "tape") = some (.ref tp) ∧ KV G m ∧ (∀ y ∈ keep, y ∈ rest) ∧ ts.length = i ∧ (∀ t ∈ ts, t < 4) ∧ PT (W0 ++ ts.flatMap tOf) (ts.flatMap gOf) m rest
inductive P7 (G : List (Str × Value)) (keep : List (Addr × Obj)) (W0 : List Str) (m : Str → Option Value) (nw : List (Addr × Obj)) : Prop
  | mk (f1 : KV G m) (f2 : (∀ y ∈ keep, y ∈ nw)) (ts : List Nat) (f3 : ts.length ≤ 2) (f4 : (∀ t ∈ ts, t < 4)) (f5 : PT (W0 ++ ts.flatMap tOf) (ts.flatMap gOf) m nw) : P7 G keep W0 m nw
theorem gOf_le (i : Nat) : (gOf i).length ≤ 2 := by
  match i with
  | 0 => decide
  | 1 => decide
  | 2 => decide
  | n + 3 => show 1 ≤ 2; decide
theorem lenG {ts : List Nat} : (ts.flatMap gOf).length ≤ 2 * ts.length := by
  induction ts with
  | nil => simp
  | cons t ts ih => have := gOf_le t; rw [List.flatMap_cons, List.length_append, List.length_cons]; omega

section
variable {w : World} {p : Program} {loose : List Str} {mean : ExcName → Option Value} {mg mb : Str → Option Value}
  {env : Env} {outer : List Env} {gd : Option (List Code)} {A₀ : Around} {base h₀ : Heap} {L : Addr} {m : Str → Option Value} {news : List (Addr × Obj)} {g : Obj → List (Addr × Obj)} {s : Shared} {Q E : Value → Shared → Prop}
  {D U : Nat} {r dr lt nd : Addr} {t1 t2 t3 tk ka : Tok} {q k : Int} {n : Nat} {l : List Tk}

theorem k_loop {fa : Addr} {cd : Value} {G : List (Str × Value)} {keep : List (Addr × Obj)} {I : Addr} {W0 : List Str} {b0 : Int} {n : Nat} {Q : Flow → Shared → Prop} {s₀ : Shared} (B : Below A₀ base outer h₀) (X : (kdef.heap_1 w.params).In h₀) (T : Top p loose mean mg mb h₀) (hG : GOk G) (hn : n ≤ 2) (hb0 : b0 ≤ 50) (hW0 : W0.length ≤ 12)
  (hQ : ∀ s', St h₀ L [] (b0 + 2) (P7 G keep W0) s₀ s' → Q .next s') : ∀ (k i : Nat) (m : Str → Option Value) (nw : List (Addr × Obj)), i + k = n → LoopI h₀ L I G keep b0 W0 i m nw →
  RangeRest PG w (ctx 700 3500 (lawEnv L fa cd) outer gd) E h₀ (lawEnv L fa cd) (Str.ofString "turn") lawFor.1.2.2 Q s₀ I 0 n k i m nw := by
  intro k
  induction k with
  | zero =>
    rintro i m nw hi ⟨ta, e, rest, tp, cl, ns, a, oc, ov, ts, rfl, ht, ⟨htI, htL, hIL⟩, hrI, hrL, hoc, hab, hmt, hKV, hkp, hts, ht4, hPT⟩ h tk F N
    refine hQ _ ⟨m, h, tk, ta, e, (L + 1, oc) :: rest, tp, cl, ns, a, rfl, F, N, ⟨?_, ?_, ht.l0, ht.l1, ht.a0⟩, by omega, (fun _ h => nomatch h), hmt, hKV, fun y hy => .tail _ (hkp y hy), ts, by omega, ht4, hPT.mono rfl rfl fun y hy => .tail _ hy⟩
    · obtain ⟨cvs, e3, h1, h2⟩ := ht.ex
      exact ⟨cvs, e3, .tail _ h1, h2⟩
    · intro q hq
      rcases List.mem_cons.mp hq with z | hq
      · rw [z]; exact Ne.symm htL
      · exact ht.off q hq
  | succ k ih =>
    rintro i m nw hi ⟨ta, e, rest, tp, cl, ns, a, oc, ov, ts, rfl, ht, ⟨htI, htL, hIL⟩, hrI, hrL, hoc, hab, hmt, hKV, hkp, hts, ht4, hPT⟩ t h tk F N
    have lC := @lenC ts
    have lG := @lenG ts
    have lW : (W0 ++ ts.flatMap tOf).length ≤ 40 := by rw [List.length_append]; omega
    have cut : lawFor.1.2.2 = lawFor.1.2.2.take 1 ++ ((lawFor.1.2.2.drop 1).take 1 ++ (lawFor.1.2.2.drop 2).take 1) := rfl
    rw [cut]
    have N1 : News h₀ L h ((tp, listOf #[.ref cl, .int a ta] e) :: (I, itR (0 + ((i + 1 : Nat) : Int)) ((n : Int) - ((i + 1 : Nat) : Int))) :: (L + 1, oc) :: rest) := fun x hx => N x (by
      simp only [List.mem_cons] at hx ⊢
      rcases hx with q | q | q | q <;> simp [q])
    have hs : StI h₀ L I (itR (0 + ((i + 1 : Nat) : Int)) ((n : Int) - ((i + 1 : Nat) : Int))) G keep (b0 + (i : Int)) (fun m nw _ => PT (W0 ++ ts.flatMap tOf) (ts.flatMap gOf) m nw) { s₀ with heap := h, toks := tk } { s₀ with heap := h, toks := tk } :=
      ⟨_, h, tk, ta, e, rest, tp, cl, ns, a, oc, ov, rfl, F, N1, ht, ⟨htI, htL, hIL⟩, hrI, hrL, hoc, hab, (if_neg (by decide +kernel)).trans hmt, hKV.upd hG.turn, hkp, hPT.mono (if_neg (by decide +kernel)) (if_neg (by decide +kernel)) fun y hy => hy⟩
    refine wpAny_mono (execs_cut (t_1 (by omega) B X T hs lW) fun s1 hs1 => execs_cut (t_2 B X T hs1 lW hG) fun s2 hs2 => t_3 B X T hs2 (by omega) (fun q => absurd (Value.type.inj q) (by decide)) hG) (fun f s3 hf => ?_) fun _ _ y => y
    obtain ⟨rfl, m3, h3, tk3, ta3, e3, rest3, tp3, cl3, ns3, a3, oc3, ov3, rfl, F3, N3, ht3, ⟨htI3, htL3, hIL3⟩, hrI3, hrL3, hoc3, hab3, hmt3, hKV3, hkp3, j, hj4, hPT3⟩ := hf
    refine ⟨h3, tk3, m3, (tp3, listOf #[.ref cl3, .int a3 ta3] e3) :: (L + 1, oc3) :: rest3, rfl, F3, ?_, ?_, ?_⟩
    · intro x hx
      refine N3 x ?_
      simp only [List.mem_cons] at hx ⊢
      rcases hx with q | q | q | q <;> simp [q]
    · intro q hq
      rcases List.mem_cons.mp hq with z | hq
      · rw [z]; exact htI3
      · rcases List.mem_cons.mp hq with z | hq
        · rw [z]; exact Ne.symm hIL3
        · exact hrI3 q hq
    · refine ih (i + 1) m3 _ (by omega) ⟨ta3, e3, rest3, tp3, cl3, ns3, a3, oc3, ov3, ts ++ [j], rfl, ht3, ⟨htI3, htL3, hIL3⟩, hrI3, hrL3, hoc3, by omega, hmt3, hKV3, hkp3, by rw [List.length_append, hts]; rfl, ?_, ?_⟩
      · intro t ht
        rcases List.mem_append.mp ht with ht | ht
        · exact ht4 t ht
        · rw [List.mem_singleton.mp ht]; exact hj4
      · simpa [List.flatMap_append, List.append_assoc] using hPT3
end


inductive P8 (way : Nat) (m : Str → Option Value) (nw : List (Addr × Obj)) : Prop
  | mk (two : Bool) (low high : Int) (times on : Bool) (v x : Value) (u1 u2 : Tok) (ts : List Nat) (f1 : Low two low high) (f2 : KV (gG low high u1 u2 v x) m) (f3 : DatIn nw v (depD (depOf way))) (f4 : DatIn nw x (.tuple [])) (f5 : ts.length ≤ 2) (f6 : (∀ t ∈ ts, t < 4)) (f7 : PT ((WA (dg low) (dg high) two times ++ WB way on) ++ ts.flatMap tOf) (ts.flatMap gOf) m nw) : P8 way m nw

section
variable {w : World} {p : Program} {loose : List Str} {mean : ExcName → Option Value} {mg mb : Str → Option Value}
  {env : Env} {outer : List Env} {gd : Option (List Code)} {A₀ : Around} {base h₀ : Heap} {L : Addr} {m : Str → Option Value} {news : List (Addr × Obj)} {g : Obj → List (Addr × Obj)} {s : Shared} {Q E : Value → Shared → Prop}
  {D U : Nat} {r dr lt nd : Addr} {t1 t2 t3 tk ka : Tok} {q k : Int} {n : Nat} {l : List Tk}

theorem draw_nat {tp cl : Addr} {cvs : List Value} {ns : List Int} {e e3 : Nat} {a : Int} {ta tm : Tok} (hDD : D ≤ 850) (hU : U ≤ 4250) (B : Below A₀ base outer h₀) (F : Fr h₀ L s.heap m) (X : (kdef.heap_1 w.params).In h₀) (N : News h₀ L s.heap news)
  (T : Top p loose mean mg mb h₀) (hf : env.frame = some L) (hke : env.scope.kind = .function) (hu : UpdF tp (listOf #[.ref cl, .int a ta] e) news g) (hc : (cl, listOf (List.toArray cvs) e3) ∈ news) (hne : tp ≠ cl) (hi : IntsAre cvs ns) (hl0 : 0 < ns.length) (hl1 : ns.length ≤ 40) (ha0 : 0 ≤ a) (ha1 : a < 100)
  (ret : ∀ (n : Nat) u h' tk' tb e', n < 3 → Fr h₀ L h' m → News h₀ L h' (g (listOf #[.ref cl, .int (a + 1) tb] e')) → Q (.int (n : Int) u) { s with heap := h', toks := tk' }) :
  wpAny (model PG w) (ctx D U env outer gd) (call (.ref 413) [.ref tp, .int 3 tm]) Q E s := by
  refine draw_c hDD hU B F X N T hf hke hu hc hne hi hl0 hl1 ha0 ha1 (by decide) (by decide) fun v u h' tk' tb e' h0 h1 F' N' => ?_
  have := ret v.toNat u h' tk' tb e' (by omega) F' N'
  rwa [Int.toNat_of_nonneg h0] at this
end

noncomputable def BlkI (P : Prop) : Prop := P
theorem blkI {P : Prop} (h : BlkI P) : P := h

section
variable {w : World} {p : Program} {loose : List Str} {mean : ExcName → Option Value} {mg mb : Str → Option Value}
  {env : Env} {outer : List Env} {gd : Option (List Code)} {A₀ : Around} {base h₀ : Heap} {L : Addr} {m : Str → Option Value} {news : List (Addr × Obj)} {g : Obj → List (Addr × Obj)} {s : Shared} {Q E : Value → Shared → Prop}
  {D U : Nat} {r dr lt nd : Addr} {t1 t2 t3 tk ka : Tok} {q k : Int} {n : Nat} {l : List Tk}
local macro_rules | `(tactic| k_mem) => `(tactic| walk_at "own:m1")
local macro_rules | `(tactic| walk_at "call ref") => `(tactic| (goal_lacks GoM; refine stp ?_))
local macro_rules | `(tactic| walk_at "exec For Name Call cons nil") => `(tactic| (goal_lacks GoM; refine stp ?_))
local macro_rules | `(tactic| walk_at "pyIter ref") => `(tactic| (goal_lacks GoM; refine stp ?_))

theorem l_6 {fa : Addr} {cd : Value} {oc9 : Obj} {keep : List (Addr × Obj)} {way : Nat} {s₀ : Shared} (B : Below A₀ base outer h₀) (X : (kdef.heap_1 w.params).In h₀) (T : Top p loose mean mg mb h₀) (hs : St h₀ L keep 6 (P6 way) s₀ s) (hcm : (L + 1, oc9) ∈ keep) (hoc : oc9.data = .cell none) (hway : way ≤ 3) (hE : PassesOwn (model PG w) (ctx 700 3500 (lawEnv L fa cd) outer gd) (lawEnv L fa cd) E) :
  wpAny (model PG w) (ctx 700 3500 (lawEnv L fa cd) outer gd) (execs ((lawPack.1.1.drop 9).take 1) (lawEnv L fa cd)) (fun f s' => f = .next ∧ St h₀ L [] 10 (P8 way) s₀ s') E s := by
  refine St.elim hs ?_
  intro m h tk' ta e rest tp cl ns a F N ht hab hkeep hmt hP
  clear hs
  have hne := ht.ne
  have hne1 := neN hne
  obtain ⟨⟨cvs, e3, hcl, hi⟩, hrest, hl0, hl1, ha0⟩ := ht
  obtain ⟨two, low, high, times, on, v, x, u1, u2, hL, hKV, hdv, hdx, hPT⟩ := hP
  have hcr := hkeep _ hcm
  have hLt : L + 1 ≠ tp := hrest _ hcr
  have sq : ∀ a o, (a, o) ∈ rest → (∃ vs n, o.data = .seq vs n) → (a, o) ∈ rest.filter fun p => !(p.1 == L + 1) := fun a o ho hd => by
    refine List.mem_filter.mpr ⟨ho, ?_⟩
    simp only [Bool.not_eq_true', beq_eq_false_iff_ne]
    intro q
    have e1 := (N _ (.tail _ ho)).1
    have e2 := (N _ (.tail _ hcr)).1
    dsimp only at e1 e2 q
    rw [q, e2] at e1
    obtain ⟨vs, n, hd⟩ := hd
    rw [← Option.some.inj e1, hoc] at hd
    cases hd
  have hrf : ∀ q ∈ rest.filter (fun p => !(p.1 == L + 1)), q ∈ rest ∧ q.1 ≠ L + 1 := fun q hq => by
    have := List.mem_filter.mp hq
    exact ⟨this.1, by simpa using this.2⟩
  generalize rest.filter (fun p => !(p.1 == L + 1)) = rest9 at sq hrf
  have N9 : News h₀ L h ((tp, listOf #[.ref cl, .int a ta] e) :: (L + 1, oc9) :: rest9) := fun y hy => N y (by
    rcases List.mem_cons.mp hy with q | hy
    · rw [q]; exact .head _
    · rcases List.mem_cons.mp hy with q | hy
      · rw [q]; exact .tail _ hcr
      · exact .tail _ (hrf y hy).1)
  clear N
  have hcl9 := sq _ _ hcl ⟨_, _, rfl⟩
  have hr9 : ∀ q ∈ rest9, q.1 ≠ tp := fun q hq => hrest _ (hrf q hq).1
  have hr2 : ∀ q ∈ (L + 1, oc9) :: rest9, q.1 ≠ tp := fun q hq => by
    rcases List.mem_cons.mp hq with z | hq
    · rw [z]; exact hLt
    · exact hr9 q hq
  simp only [lawPack, List.take_succ_cons, List.take_zero, List.drop_succ_cons, List.drop_zero, lawEnv]
  (repeat' (first | (with_reducible refine unstp ?_; first | (first | ((k_here; (with_reducible show wpAny _ _ (pyIter (Value.ref _)) (fun it s₂ => LoopAtV _ _ _ _ _ _ _ _ _ it s₂) _ _); (rename IsRange _ _ _ _ _ _ _ _ => rgX9z); refine' iter_rangeUnr (n := _) ?hh rgX9z ?hs ?hn ?F ?N ?_; (case hh => rfl); (case F => k_asm); (case N => k_asm); (case hs => exact range_small (by omega)); (case hn => exact range_size); refine blkI ?_)) | k_dflt ((k_here; (with_reducible show wpAny _ _ (pyIter (Value.ref _)) (fun it s₂ => LoopAtV _ _ _ _ _ _ _ _ _ it s₂) _ _); (rename IsRange _ _ _ _ _ _ _ _ => rgX9z); refine' iter_rangeUnr (n := _) ?hh rgX9z ?hs ?hn ?F ?N ?_; (case hh => rfl); (case F => k_asm); (case N => k_asm); (case hs => exact range_small (by omega)); (case hn => exact range_size); refine blkI ?_))) | ((k_here; (rename Fr _ _ _ _ => lF9z'); (with_unfolding_all refine' For_invVF lF9z' ?k1 ?k2 ?_ ?k3 ?k4; (case k1 => exact rfl); (case k2 => exact rfl); (case k3 => exact fun _ => rfl); (case k4 => assumption); k_whole))) | ((k_here; (with_reducible show wpAny _ _ (call (Value.ref 413) [_, Value.int 3 _] []) _ _ _); k_dflt (refine' draw_nat ?hD ?hU ?B ?F ?X ?N ?T ?hf ?hke ?hu ?hc ?hne ?hi ?hl0 ?hl1 ?ha0 ?ha1 ?_; (case hD => exact Nat.le_of_ble_eq_true rfl); (case hU => exact Nat.le_of_ble_eq_true rfl); (case B => k_asm); (case F => k_asm); (case X => k_asm); (case N => k_asm); (case T => k_asm); (case hf => rfl); (case hke => rfl); (case hu => k_updF); (case hc => k_mem); (case hne => assumption); (case hi => assumption); (case hl0 => assumption); (case hl1 => assumption); (case ha0 => omega); (case ha1 => omega); k_whole); intro n9z' u9z' h9z' tk9z' tb9z' e9z' hn9z' F9z' N9z'; (try dsimp only at N9z'); (try dsimp only))) | (refine goM ?_; k_dflt walk1) | (k_dflt (dsimp only); refine stp ?_)) | (k_unfold; (first | with_reducible refine (?_ : wpAny _ _ _ _ _ _) | (try dsimp only))) | (k_end; wrow_close) | walk1 | (dsimp only; walk1) | (leave1; walk_say "STEP leave1"; try dsimp only) | fail "no step"))
  unfold BlkI
  intro I hI
  have lA := @lenA (dg low) (dg high) two times
  have lB := @lenB way on
  refine k_loop (keep := rest9) (W0 := WA (dg low) (dg high) two times ++ WB way on) (b0 := 7) B X T (gok low high u1 u2 v x) (by omega) (by omega) (by rw [List.length_append]; omega) ?_ _ 0 _ _ (Nat.zero_add _) ⟨_, _, rest9, tp, cl, ns, a + 1, oc9, none, [], rfl, ⟨⟨cvs, e3, hcl9, hi⟩, hr9, hl0, hl1, by omega⟩, ⟨Nat.ne_of_lt (hI _ (.head _)), Ne.symm hLt, Nat.ne_of_gt (hI _ (.tail _ (.head _)))⟩, fun q hq => Nat.ne_of_lt (hI _ (.tail _ (.tail _ hq))), fun q hq => (hrf q hq).2, hoc, by omega, hmt, hKV, fun y hy => hy, rfl, (fun _ h => nomatch h), ?_⟩
  · intro s' hs'
    obtain ⟨m2, h2, tk2, ta2, e2, rest2, tp2, cl2, ns2, a2, rfl, F2, N2, ht2, hab2, _, hm2, hKV2, hkp2, ts, htl, ht4, hPT2⟩ := hs'
    (repeat' (first | (with_reducible refine unstp ?_; first | (first | ((k_here; (with_reducible show wpAny _ _ (pyIter (Value.ref _)) (fun it s₂ => LoopAtV _ _ _ _ _ _ _ _ _ it s₂) _ _); (rename IsRange _ _ _ _ _ _ _ _ => rgX9z); refine' iter_rangeUnr (n := _) ?hh rgX9z ?hs ?hn ?F ?N ?_; (case hh => rfl); (case F => k_asm); (case N => k_asm); (case hs => exact range_small (by omega)); (case hn => exact range_size); refine blkI ?_)) | k_dflt ((k_here; (with_reducible show wpAny _ _ (pyIter (Value.ref _)) (fun it s₂ => LoopAtV _ _ _ _ _ _ _ _ _ it s₂) _ _); (rename IsRange _ _ _ _ _ _ _ _ => rgX9z); refine' iter_rangeUnr (n := _) ?hh rgX9z ?hs ?hn ?F ?N ?_; (case hh => rfl); (case F => k_asm); (case N => k_asm); (case hs => exact range_small (by omega)); (case hn => exact range_size); refine blkI ?_))) | ((k_here; (rename Fr _ _ _ _ => lF9z'); (with_unfolding_all refine' For_invVF lF9z' ?k1 ?k2 ?_ ?k3 ?k4; (case k1 => exact rfl); (case k2 => exact rfl); (case k3 => exact fun _ => rfl); (case k4 => assumption); k_whole))) | ((k_here; (with_reducible show wpAny _ _ (call (Value.ref 413) [_, Value.int 3 _] []) _ _ _); k_dflt (refine' draw_nat ?hD ?hU ?B ?F ?X ?N ?T ?hf ?hke ?hu ?hc ?hne ?hi ?hl0 ?hl1 ?ha0 ?ha1 ?_; (case hD => exact Nat.le_of_ble_eq_true rfl); (case hU => exact Nat.le_of_ble_eq_true rfl); (case B => k_asm); (case F => k_asm); (case X => k_asm); (case N => k_asm); (case T => k_asm); (case hf => rfl); (case hke => rfl); (case hu => k_updF); (case hc => k_mem); (case hne => assumption); (case hi => assumption); (case hl0 => assumption); (case hl1 => assumption); (case ha0 => omega); (case ha1 => omega); k_whole); intro n9z' u9z' h9z' tk9z' tb9z' e9z' hn9z' F9z' N9z'; (try dsimp only at N9z'); (try dsimp only))) | (refine goM ?_; k_dflt walk1) | (k_dflt (dsimp only); refine stp ?_)) | (k_unfold; (first | with_reducible refine (?_ : wpAny _ _ _ _ _ _) | (try dsimp only))) | (k_end; wrow_close) | walk1 | (dsimp only; walk1) | (leave1; walk_say "STEP leave1"; try dsimp only) | fail "no step"))
    exact ⟨m2, h2, tk2, ta2, e2, rest2, tp2, cl2, ns2, a2, rfl, F2, N2, ht2, by omega, (fun _ h => nomatch h), hm2, two, low, high, times, on, v, x, u1, u2, ts, hL, hKV2, (DatIn.seqs sq hdv).mono hkp2, (DatIn.seqs sq hdx).mono hkp2, htl, ht4, hPT2⟩
  · have := hPT.seqs rfl rfl sq
    simpa using this
end


inductive P9 (way : Nat) (m : Str → Option Value) (nw : List (Addr × Obj)) : Prop
  | mk (two : Bool) (low high : Int) (times on : Bool) (v x : Value) (u1 u2 : Tok) (ts : List Nat) (k : Nat) (by_ : Bool) (f1 : Low two low high) (f2 : KV (gG low high u1 u2 v x) m) (f3 : DatIn nw v (depD (depOf way))) (f4 : DatIn nw x (.tuple ((ixOf k).map .str))) (f5 : ts.length ≤ 2) (f6 : (∀ t ∈ ts, t < 4)) (f7 : k ≤ 2) (f8 : PT (WW (dg low) (dg high) two times way on ts k by_) (ts.flatMap gOf) m nw) : P9 way m nw

theorem mem_ft {tp : Addr} {big : List (Addr × Obj)} {x : Addr × Obj} (h : x ∈ big) (k : x.1 ≠ tp) : x ∈ big.filter fun p => !(p.1 == tp) := List.mem_filter.mpr ⟨h, by simpa using k⟩
theorem sr_of {tp : Addr} {rest big : List (Addr × Obj)} (hr : ∀ q ∈ rest, q.1 ≠ tp) (sub : ∀ y ∈ rest, y ∈ big) : ∀ y ∈ rest, y ∈ big.filter fun p => !(p.1 == tp) := fun y hy => mem_ft (sub y hy) (hr y hy)
theorem st_flt {h₀ h' : Heap} {L tp cl : Addr} {m' : Str → Option Value} {keep big rest : List (Addr × Obj)} {ns : List Int} {a bd : Int} {e tk' : Nat} {ta : Tok} {P : (Str → Option Value) → List (Addr × Obj) → Prop} {s : Shared} (F : Fr h₀ L h' m') (N : News h₀ L h' big)
    (htp : (tp, listOf #[.ref cl, .int a ta] e) ∈ big) (sub : ∀ y ∈ rest, y ∈ big) (ht : TapeAt tp cl a ns rest) (hab : a ≤ bd) (hkeep : ∀ y ∈ keep, y ∈ rest) (hm : m' (Str.ofString "tape") = some (.ref tp)) (hP : P m' (big.filter fun p => !(p.1 == tp))) : St h₀ L keep bd P s { s with heap := h', toks := tk' } :=
  ⟨m', h', tk', ta, e, _, tp, cl, ns, a, rfl, F, fun x hx => by
    rcases List.mem_cons.mp hx with q | hx
    · rw [q]; exact N _ htp
    · exact N _ (List.mem_filter.mp hx).1, ⟨by obtain ⟨cvs, e3, h1, h2⟩ := ht.ex; exact ⟨cvs, e3, sr_of ht.off sub _ h1, h2⟩, fun q hq => by simpa using (List.mem_filter.mp hq).2, ht.l0, ht.l1, ht.a0⟩, hab, fun y hy => sr_of ht.off sub y (hkeep y hy), hm, hP⟩

section
variable {w : World} {p : Program} {loose : List Str} {mean : ExcName → Option Value} {mg mb : Str → Option Value}
  {env : Env} {outer : List Env} {gd : Option (List Code)} {A₀ : Around} {base h₀ : Heap} {L : Addr} {m : Str → Option Value} {news : List (Addr × Obj)} {g : Obj → List (Addr × Obj)} {s : Shared} {Q E : Value → Shared → Prop}
  {D U : Nat} {r dr lt nd : Addr} {t1 t2 t3 tk ka : Tok} {q k : Int} {n : Nat} {l : List Tk}
local macro_rules | `(tactic| k_mem) => `(tactic| walk_at "own:m1")
local macro_rules | `(tactic| walk_at "call ref") => `(tactic| (goal_lacks GoM; refine stp ?_))
local macro_rules | `(tactic| walk_at "binaryOp Add ref ref") => `(tactic| (goal_lacks GoM; refine stp ?_))
local macro_rules | `(tactic| walk_at "subscriptTail Tuple") => `(tactic| (goal_lacks GoM; refine stp ?_))
local macro_rules | `(tactic| walk_at "subscriptTail List") => `(tactic| (goal_lacks GoM; refine stp ?_))
local macro_rules | `(tactic| walk_at "subscriptTail Name Slice ref ref") => `(tactic| (goal_lacks GoM; refine stp ?_))

theorem l_7 {fa : Addr} {cd : Value} {way : Nat} {s₀ : Shared} (B : Below A₀ base outer h₀) (X : (kdef.heap_1 w.params).In h₀) (T : Top p loose mean mg mb h₀) (hs : St h₀ L [] 10 (P8 way) s₀ s) :
  wpAny (model PG w) (ctx 700 3500 (lawEnv L fa cd) outer gd) (execs ((lawPack.1.1.drop 10).take 1) (lawEnv L fa cd)) (fun f s' => f = .next ∧ St h₀ L [] 13 (P9 way) s₀ s') E s := by
  refine St.elim hs ?_
  intro m h tk' ta e rest tp cl ns a F N ht hab hkeep hmt hP
  clear hs
  have hne := ht.ne
  have hne1 := neN hne
  obtain ⟨⟨cvs, e3, hcl, hi⟩, hrest, hl0, hl1, ha0⟩ := ht
  obtain ⟨two, low, high, times, on, v, x, u1, u2, ts, hL, hKV, hdv, hdx, htl, ht4, ⟨w9, wv, ew, hmw, hwm, hsv⟩, K, kv, kn9, hmk, hkm, hkd⟩ := hP
  have g1 : m (Str.ofString "low") = some (.int low u1) := hKV (Str.ofString "low", .int low u1) (.head _)
  have g2 : m (Str.ofString "high") = some (.int high u2) := hKV (Str.ofString "high", .int high u2) (.tail _ (.head _))
  have g3 : m (Str.ofString "depending") = some v := hKV (Str.ofString "depending", v) (.tail _ (.tail _ (.head _)))
  have hwn := neN (hrest _ hwm)
  have lA := @lenA (dg low) (dg high) two times
  have lB := @lenB way on
  have lC := Nat.le_trans (@lenC ts) (Nat.mul_le_mul_left 5 htl)
  have N := news_dup N hwm
  simp only [lawPack, List.take_succ_cons, List.take_zero, List.drop_succ_cons, List.drop_zero, lawEnv]
  (repeat' (first | (with_reducible refine unstp ?_; first | ((k_here; (with_reducible show wpAny _ _ (subscriptTail (PySem.Expr.Name _ _) (PySem.Expr.Slice none _ none _) (Value.ref _) (Value.ref _)) _ _ _); k_dflt (refine' tup_all ?F ?N ?t ?hy ?_ ?hs ?hg; (case F => k_asm); (case N => k_asm); (case t => exact News.isTup (by k_asm) (by k_mem)); (case hy => exact rfl); (case hs => with_unfolding_all rfl); (case hg => intro _; with_unfolding_all rfl); k_whole); intro h9z' F9z' N9z'; (try dsimp only))) | ((k_here; (with_reducible show wpAny _ _ (subscriptTail (PySem.Expr.Name _ _) (PySem.Expr.Slice none _ none _) (Value.ref _) (Value.ref _)) _ _ _); k_dflt (refine' tup_upto (b := 1) ?F ?N ?t ?hy ?hb ?e ?hz ?_ ?hs ?hg; (case F => k_asm); (case N => k_asm); (case t => exact News.isTup (by k_asm) (by k_mem)); (case hy => decide); (case hb => exact Nat.le_of_ble_eq_true rfl); (case e => exact rfl); (case hz => exact Nat.le_of_ble_eq_true rfl); (case hs => with_unfolding_all rfl); (case hg => intro _; with_unfolding_all rfl); k_whole); intro D9z' h9z' F9z' N9z' l19z; (try dsimp only); (try k_lt l19z))) | ((k_here; (with_reducible show wpAny _ _ (subscriptTail (PySem.Expr.Tuple _ _ _) (PySem.Expr.Slice _ _ _ _) _ _) _ _ _); k_dflt (refine kba_turn (value' := PySem.Expr.Name (PySem.Str.ofString "_") ⟨0, 0, 0, 0⟩) (fun _ => rfl) ?_))) | ((k_here; (with_reducible show wpAny _ _ (binaryOp _ (Value.ref _) (Value.ref _)) _ _ _); k_dflt (refine' add_sv ?F ?N ?hl ?hb ?sx ?sy ?hz ?_; (case F => k_asm); (case N => k_asm); (case hl => k_mem); (case hb => k_mem); (case sx => first | assumption | exact SV.nil | exact SV.cons _ _ SV.nil | exact SV.cons _ _ (SV.cons _ _ SV.nil) | exact SV.cons _ _ (SV.cons _ _ (SV.cons _ _ SV.nil)) | exact SV.cons _ _ (SV.cons _ _ (SV.cons _ _ (SV.cons _ _ SV.nil)))); (case sy => first | assumption | exact SV.nil | exact SV.cons _ _ SV.nil | exact SV.cons _ _ (SV.cons _ _ SV.nil) | exact SV.cons _ _ (SV.cons _ _ (SV.cons _ _ SV.nil)) | exact SV.cons _ _ (SV.cons _ _ (SV.cons _ _ (SV.cons _ _ SV.nil)))); (case hz => ((try simp only [List.length_append, List.length_cons, List.length_nil]); first | (refine Nat.le_trans ?p9 ?q9; (case p9 => repeat' (with_reducible (first | assumption | refine Nat.add_le_add ?_ ?_ | exact Nat.le_refl _))); (case q9 => exact Nat.le_of_ble_eq_true rfl)) | omega)); k_whole); intro D9z' vs9z' h9z' F9z' N9z' l19z hsv9z'; (try dsimp only); (try k_lt l19z))) | ((k_here; (with_reducible show wpAny _ _ (call (Value.ref 413) [_, Value.int 2 _] []) _ _ _); k_dflt (refine' draw_is2 ?hD ?hU ?B ?F ?X ?N ?T ?hf ?hke ?hu ?hc ?hne ?hi ?hl0 ?hl1 ?ha0 ?ha1 ?_ ?_; (case hD => exact Nat.le_of_ble_eq_true rfl); (case hU => exact Nat.le_of_ble_eq_true rfl); (case B => k_asm); (case F => k_asm); (case X => k_asm); (case N => k_asm); (case T => k_asm); (case hf => rfl); (case hke => rfl); (case hu => k_updF); (case hc => k_mem); (case hne => assumption); (case hi => assumption); (case hl0 => assumption); (case hl1 => assumption); (case ha0 => omega); (case ha1 => omega); k_whole) <;> (intro u9z' h9z' tk9z' tb9z' e9z' F9z' N9z'; (try dsimp only at N9z'); (try dsimp only)))) | (refine goM ?_; k_dflt walk1) | (k_dflt (dsimp only); refine stp ?_)) | (k_unfold; (first | with_reducible refine (?_ : wpAny _ _ _ _ _ _) | (try dsimp only))) | (k_end; wrow_close) | walk1 | (dsimp only; walk1) | (leave1; walk_say "STEP leave1"; try dsimp only) | fail "no step"))
  · exact st_flt (rest := rest) (by k_asm) (by k_asm) (.head _) (fun y hy => .tail _ (.tail _ hy)) ⟨⟨cvs, e3, hcl, hi⟩, hrest, hl0, hl1, by omega⟩ (by omega) (fun _ h => nomatch h) (by (try dsimp only); first | assumption | rfl | (simp (decide := true) only [reduceIte]; done) | (simp (decide := true) only [reduceIte]; assumption)) ⟨two, low, high, times, on, v, x, u1, u2, ts, 0, false, hL, hKV, hdv.mono (sr_of hrest fun y hy => .tail _ (.tail _ hy)), hdx.mono (sr_of hrest fun y hy => .tail _ (.tail _ hy)), htl, ht4, by decide, ⟨w9, wv, ew, hmw, sr_of hrest (fun y hy => .tail _ (.tail _ hy)) _ hwm, SV.cast hsv (by simp [WW, WD])⟩, K, kv, kn9, hmk, sr_of hrest (fun y hy => .tail _ (.tail _ hy)) _ hkm, hkd.mono (sr_of hrest fun y hy => .tail _ (.tail _ hy))⟩
  · exact st_flt (rest := rest) (by k_asm) (by k_asm) (.tail _ (.tail _ (.tail _ (.tail _ (.tail _ (.tail _ (.tail _ (.tail _ (.head _))))))))) (fun y hy => .tail _ (.tail _ (.tail _ (.tail _ (.tail _ (.tail _ (.tail _ (.tail _ (.tail _ (.tail _ (hy))))))))))) ⟨⟨cvs, e3, hcl, hi⟩, hrest, hl0, hl1, by omega⟩ (by omega) (fun _ h => nomatch h) (by (try dsimp only); first | assumption | rfl | (simp (decide := true) only [reduceIte]; done) | (simp (decide := true) only [reduceIte]; assumption)) ⟨two, low, high, times, on, v, _, u1, u2, ts, 1, true, hL, gG_kv (by (try dsimp only); first | assumption | rfl | (simp (decide := true) only [reduceIte]; done) | (simp (decide := true) only [reduceIte]; assumption)) (by (try dsimp only); first | assumption | rfl | (simp (decide := true) only [reduceIte]; done) | (simp (decide := true) only [reduceIte]; assumption)) (by (try dsimp only); first | assumption | rfl | (simp (decide := true) only [reduceIte]; done) | (simp (decide := true) only [reduceIte]; assumption)) (by (try dsimp only); first | assumption | rfl | (simp (decide := true) only [reduceIte]; done) | (simp (decide := true) only [reduceIte]; assumption)), hdv.mono (sr_of hrest (fun y hy => .tail _ (.tail _ (.tail _ (.tail _ (.tail _ (.tail _ (.tail _ (.tail _ (.tail _ (.tail _ (hy)))))))))))), .tuple (vs := [.str _ _]) (n := 0) (mem_ft (.tail _ (.tail _ (.tail _ (.tail _ (.tail _ (.tail _ (.head _))))))) (Nat.ne_of_gt (ltN (by omega)))) (.cons (.str _ _) .nil), htl, ht4, by decide, ⟨_, _, _, (by (try dsimp only); first | assumption | rfl | (simp (decide := true) only [reduceIte]; done) | (simp (decide := true) only [reduceIte]; assumption)), mem_ft (.head _) (Nat.ne_of_gt (ltN (by omega))), SV.cast (by assumption) (by simp [WW, WD])⟩, K, kv, kn9, (by (try dsimp only); first | assumption | rfl | (simp (decide := true) only [reduceIte]; done) | (simp (decide := true) only [reduceIte]; assumption)), sr_of hrest (fun y hy => .tail _ (.tail _ (.tail _ (.tail _ (.tail _ (.tail _ (.tail _ (.tail _ (.tail _ (.tail _ (hy))))))))))) _ hkm, hkd.mono (sr_of hrest (fun y hy => .tail _ (.tail _ (.tail _ (.tail _ (.tail _ (.tail _ (.tail _ (.tail _ (.tail _ (.tail _ (hy))))))))))))⟩
  · exact st_flt (rest := rest) (by k_asm) (by k_asm) (.tail _ (.tail _ (.tail _ (.tail _ (.tail _ (.tail _ (.tail _ (.tail _ (.head _))))))))) (fun y hy => .tail _ (.tail _ (.tail _ (.tail _ (.tail _ (.tail _ (.tail _ (.tail _ (.tail _ (.tail _ (hy))))))))))) ⟨⟨cvs, e3, hcl, hi⟩, hrest, hl0, hl1, by omega⟩ (by omega) (fun _ h => nomatch h) (by (try dsimp only); first | assumption | rfl | (simp (decide := true) only [reduceIte]; done) | (simp (decide := true) only [reduceIte]; assumption)) ⟨two, low, high, times, on, v, _, u1, u2, ts, 1, false, hL, gG_kv (by (try dsimp only); first | assumption | rfl | (simp (decide := true) only [reduceIte]; done) | (simp (decide := true) only [reduceIte]; assumption)) (by (try dsimp only); first | assumption | rfl | (simp (decide := true) only [reduceIte]; done) | (simp (decide := true) only [reduceIte]; assumption)) (by (try dsimp only); first | assumption | rfl | (simp (decide := true) only [reduceIte]; done) | (simp (decide := true) only [reduceIte]; assumption)) (by (try dsimp only); first | assumption | rfl | (simp (decide := true) only [reduceIte]; done) | (simp (decide := true) only [reduceIte]; assumption)), hdv.mono (sr_of hrest (fun y hy => .tail _ (.tail _ (.tail _ (.tail _ (.tail _ (.tail _ (.tail _ (.tail _ (.tail _ (.tail _ (hy)))))))))))), .tuple (vs := [.str _ _]) (n := 0) (mem_ft (.tail _ (.tail _ (.tail _ (.tail _ (.tail _ (.tail _ (.head _))))))) (Nat.ne_of_gt (ltN (by omega)))) (.cons (.str _ _) .nil), htl, ht4, by decide, ⟨_, _, _, (by (try dsimp only); first | assumption | rfl | (simp (decide := true) only [reduceIte]; done) | (simp (decide := true) only [reduceIte]; assumption)), mem_ft (.head _) (Nat.ne_of_gt (ltN (by omega))), SV.cast (by assumption) (by simp [WW, WD])⟩, K, kv, kn9, (by (try dsimp only); first | assumption | rfl | (simp (decide := true) only [reduceIte]; done) | (simp (decide := true) only [reduceIte]; assumption)), sr_of hrest (fun y hy => .tail _ (.tail _ (.tail _ (.tail _ (.tail _ (.tail _ (.tail _ (.tail _ (.tail _ (.tail _ (hy))))))))))) _ hkm, hkd.mono (sr_of hrest (fun y hy => .tail _ (.tail _ (.tail _ (.tail _ (.tail _ (.tail _ (.tail _ (.tail _ (.tail _ (.tail _ (hy))))))))))))⟩
  · exact st_flt (rest := rest) (by k_asm) (by k_asm) (.tail _ (.tail _ (.tail _ (.tail _ (.tail _ (.tail _ (.tail _ (.head _)))))))) (fun y hy => .tail _ (.tail _ (.tail _ (.tail _ (.tail _ (.tail _ (.tail _ (.tail _ (.tail _ (hy)))))))))) ⟨⟨cvs, e3, hcl, hi⟩, hrest, hl0, hl1, by omega⟩ (by omega) (fun _ h => nomatch h) (by (try dsimp only); first | assumption | rfl | (simp (decide := true) only [reduceIte]; done) | (simp (decide := true) only [reduceIte]; assumption)) ⟨two, low, high, times, on, v, _, u1, u2, ts, 2, true, hL, gG_kv (by (try dsimp only); first | assumption | rfl | (simp (decide := true) only [reduceIte]; done) | (simp (decide := true) only [reduceIte]; assumption)) (by (try dsimp only); first | assumption | rfl | (simp (decide := true) only [reduceIte]; done) | (simp (decide := true) only [reduceIte]; assumption)) (by (try dsimp only); first | assumption | rfl | (simp (decide := true) only [reduceIte]; done) | (simp (decide := true) only [reduceIte]; assumption)) (by (try dsimp only); first | assumption | rfl | (simp (decide := true) only [reduceIte]; done) | (simp (decide := true) only [reduceIte]; assumption)), hdv.mono (sr_of hrest (fun y hy => .tail _ (.tail _ (.tail _ (.tail _ (.tail _ (.tail _ (.tail _ (.tail _ (.tail _ (hy))))))))))), .tuple (vs := [.str _ _, .str _ _]) (n := 0) (mem_ft (.tail _ (.tail _ (.tail _ (.tail _ (.tail _ (.tail _ (.head _))))))) (Nat.ne_of_gt (ltN (by omega)))) (.cons (.str _ _) (.cons (.str _ _) .nil)), htl, ht4, by decide, ⟨_, _, _, (by (try dsimp only); first | assumption | rfl | (simp (decide := true) only [reduceIte]; done) | (simp (decide := true) only [reduceIte]; assumption)), mem_ft (.head _) (Nat.ne_of_gt (ltN (by omega))), SV.cast (by assumption) (by simp [WW, WD])⟩, K, kv, kn9, (by (try dsimp only); first | assumption | rfl | (simp (decide := true) only [reduceIte]; done) | (simp (decide := true) only [reduceIte]; assumption)), sr_of hrest (fun y hy => .tail _ (.tail _ (.tail _ (.tail _ (.tail _ (.tail _ (.tail _ (.tail _ (.tail _ (hy)))))))))) _ hkm, hkd.mono (sr_of hrest (fun y hy => .tail _ (.tail _ (.tail _ (.tail _ (.tail _ (.tail _ (.tail _ (.tail _ (.tail _ (hy)))))))))))⟩
  · exact st_flt (rest := rest) (by k_asm) (by k_asm) (.tail _ (.tail _ (.tail _ (.tail _ (.tail _ (.tail _ (.tail _ (.head _)))))))) (fun y hy => .tail _ (.tail _ (.tail _ (.tail _ (.tail _ (.tail _ (.tail _ (.tail _ (.tail _ (hy)))))))))) ⟨⟨cvs, e3, hcl, hi⟩, hrest, hl0, hl1, by omega⟩ (by omega) (fun _ h => nomatch h) (by (try dsimp only); first | assumption | rfl | (simp (decide := true) only [reduceIte]; done) | (simp (decide := true) only [reduceIte]; assumption)) ⟨two, low, high, times, on, v, _, u1, u2, ts, 2, false, hL, gG_kv (by (try dsimp only); first | assumption | rfl | (simp (decide := true) only [reduceIte]; done) | (simp (decide := true) only [reduceIte]; assumption)) (by (try dsimp only); first | assumption | rfl | (simp (decide := true) only [reduceIte]; done) | (simp (decide := true) only [reduceIte]; assumption)) (by (try dsimp only); first | assumption | rfl | (simp (decide := true) only [reduceIte]; done) | (simp (decide := true) only [reduceIte]; assumption)) (by (try dsimp only); first | assumption | rfl | (simp (decide := true) only [reduceIte]; done) | (simp (decide := true) only [reduceIte]; assumption)), hdv.mono (sr_of hrest (fun y hy => .tail _ (.tail _ (.tail _ (.tail _ (.tail _ (.tail _ (.tail _ (.tail _ (.tail _ (hy))))))))))), .tuple (vs := [.str _ _, .str _ _]) (n := 0) (mem_ft (.tail _ (.tail _ (.tail _ (.tail _ (.tail _ (.tail _ (.head _))))))) (Nat.ne_of_gt (ltN (by omega)))) (.cons (.str _ _) (.cons (.str _ _) .nil)), htl, ht4, by decide, ⟨_, _, _, (by (try dsimp only); first | assumption | rfl | (simp (decide := true) only [reduceIte]; done) | (simp (decide := true) only [reduceIte]; assumption)), mem_ft (.head _) (Nat.ne_of_gt (ltN (by omega))), SV.cast (by assumption) (by simp [WW, WD])⟩, K, kv, kn9, (by (try dsimp only); first | assumption | rfl | (simp (decide := true) only [reduceIte]; done) | (simp (decide := true) only [reduceIte]; assumption)), sr_of hrest (fun y hy => .tail _ (.tail _ (.tail _ (.tail _ (.tail _ (.tail _ (.tail _ (.tail _ (.tail _ (hy)))))))))) _ hkm, hkd.mono (sr_of hrest (fun y hy => .tail _ (.tail _ (.tail _ (.tail _ (.tail _ (.tail _ (.tail _ (.tail _ (.tail _ (hy)))))))))))⟩
end


noncomputable def n6 : List Str := [Str.ofString "low", Str.ofString "high", Str.ofString "depending", Str.ofString "indexes", Str.ofString "words", Str.ofString "keys"]
theorem upd6 {m : Str → Option Value} {y : Str} {v : Value} (h : n6.contains y = false) : ∀ z ∈ n6, (fun q => if q = y then some v else m q) z = m z := fun z hz => if_neg (by
  rintro rfl
  rw [List.contains_eq_mem] at h
  simp [hz] at h)
theorem P9.mono {way : Nat} {m m' : Str → Option Value} {nw nw' : List (Addr × Obj)} (h : P9 way m nw) (hm : ∀ z ∈ n6, m' z = m z) (hs : ∀ y ∈ nw, y ∈ nw') : P9 way m' nw' := by
  obtain ⟨two, low, high, times, on, v, x, u1, u2, ts, k, by_, hL, hKV, hdv, hdx, htl, ht4, hk, hPT⟩ := h
  refine ⟨two, low, high, times, on, v, x, u1, u2, ts, k, by_, hL, fun p hp => ?_, hdv.mono hs, hdx.mono hs, htl, ht4, hk, hPT.mono (hm _ (by simp [n6])) (hm _ (by simp [n6])) hs⟩
  rw [← hKV p hp]
  refine hm _ ?_
  simp only [gG, List.mem_cons, List.not_mem_nil, or_false] at hp
  rcases hp with rfl | rfl | rfl | rfl <;> simp [n6]
/-- the state behind the last draw -/
inductive SF (h₀ : Heap) (L : Addr) (P : (Str → Option Value) → List (Addr × Obj) → Prop) (s s' : Shared) : Prop
  | mk (m' : _) (h' : _) (tk' : _) (nw : _) (f1 : s' = { s with heap := h', toks := tk' }) (f2 : Fr h₀ L h' m') (f3 : News h₀ L h' nw) (f4 : P m' nw) : SF h₀ L P s s'
theorem SF.intro {h₀ h' : Heap} {L : Addr} {m' : Str → Option Value} {nw : List (Addr × Obj)} {tk' : Nat} {P : (Str → Option Value) → List (Addr × Obj) → Prop} {s : Shared} (F : Fr h₀ L h' m') (N : News h₀ L h' nw) (hP : P m' nw) : SF h₀ L P s { s with heap := h', toks := tk' } := ⟨m', h', tk', nw, rfl, F, N, hP⟩
noncomputable def P10 (way : Nat) (m : Str → Option Value) (nw : List (Addr × Obj)) : Prop := (∃ bh u, Bh bh ∧ m (Str.ofString "behind") = some (.str bh u)) ∧ P9 way m nw

section
variable {w : World} {p : Program} {loose : List Str} {mean : ExcName → Option Value} {mg mb : Str → Option Value}
  {env : Env} {outer : List Env} {gd : Option (List Code)} {A₀ : Around} {base h₀ : Heap} {L : Addr} {m : Str → Option Value} {news : List (Addr × Obj)} {g : Obj → List (Addr × Obj)} {s : Shared} {Q E : Value → Shared → Prop}
  {D U : Nat} {r dr lt nd : Addr} {t1 t2 t3 tk ka : Tok} {q k : Int} {n : Nat} {l : List Tk}
local macro_rules | `(tactic| k_mem) => `(tactic| walk_at "own:m1")
local macro_rules | `(tactic| walk_at "call ref") => `(tactic| (goal_lacks GoM; refine stp ?_))

theorem l_8 {fa : Addr} {cd : Value} {way : Nat} {s₀ : Shared} (B : Below A₀ base outer h₀) (X : (kdef.heap_1 w.params).In h₀) (T : Top p loose mean mg mb h₀) (hs : St h₀ L [] 13 (P9 way) s₀ s) :
  wpAny (model PG w) (ctx 700 3500 (lawEnv L fa cd) outer gd) (execs ((lawPack.1.1.drop 11).take 1) (lawEnv L fa cd)) (fun f s' => f = .next ∧ SF h₀ L (P10 way) s₀ s') E s := by
  refine St.elim hs ?_
  intro m h tk' ta e rest tp cl ns a F N ht hab hkeep hmt hP
  clear hs
  have hne := ht.ne
  have hne1 := neN hne
  obtain ⟨⟨cvs, e3, hcl, hi⟩, hrest, hl0, hl1, ha0⟩ := ht
  simp only [lawPack, List.take_succ_cons, List.take_zero, List.drop_succ_cons, List.drop_zero, lawEnv]
  (repeat' (first | (with_reducible refine unstp ?_; first | ((k_here; (with_reducible show wpAny _ _ (call (Value.ref 413) [_, Value.int 3 _] []) _ _ _); k_dflt (refine' draw_is3 ?hD ?hU ?B ?F ?X ?N ?T ?hf ?hke ?hu ?hc ?hne ?hi ?hl0 ?hl1 ?ha0 ?ha1 ?_ ?_ ?_; (case hD => exact Nat.le_of_ble_eq_true rfl); (case hU => exact Nat.le_of_ble_eq_true rfl); (case B => k_asm); (case F => k_asm); (case X => k_asm); (case N => k_asm); (case T => k_asm); (case hf => rfl); (case hke => rfl); (case hu => k_updF); (case hc => k_mem); (case hne => assumption); (case hi => assumption); (case hl0 => assumption); (case hl1 => assumption); (case ha0 => omega); (case ha1 => omega); k_whole) <;> (intro u9z' h9z' tk9z' tb9z' e9z' F9z' N9z'; (try dsimp only at N9z'); (try dsimp only)))) | (refine goM ?_; k_dflt walk1) | (k_dflt (dsimp only); refine stp ?_)) | (k_unfold; (first | with_reducible refine (?_ : wpAny _ _ _ _ _ _) | (try dsimp only))) | (k_end; wrow_close) | walk1 | (dsimp only; walk1) | (leave1; walk_say "STEP leave1"; try dsimp only) | fail "no step"))
  · exact SF.intro (by k_asm) (by k_asm) ⟨⟨_, _, .inl rfl, (by (try dsimp only); first | assumption | rfl | (simp (decide := true) only [reduceIte]; done) | (simp (decide := true) only [reduceIte]; assumption))⟩, hP.mono (upd6 (by decide +kernel)) fun y hy => .tail _ (.tail _ hy)⟩
  · exact SF.intro (by k_asm) (by k_asm) ⟨⟨_, _, .inr (.inl rfl), (by (try dsimp only); first | assumption | rfl | (simp (decide := true) only [reduceIte]; done) | (simp (decide := true) only [reduceIte]; assumption))⟩, hP.mono (upd6 (by decide +kernel)) fun y hy => .tail _ (.tail _ hy)⟩
  · exact SF.intro (by k_asm) (by k_asm) ⟨⟨_, _, .inr (.inr rfl), (by (try dsimp only); first | assumption | rfl | (simp (decide := true) only [reduceIte]; done) | (simp (decide := true) only [reduceIte]; assumption))⟩, hP.mono (upd6 (by decide +kernel)) fun y hy => .tail _ (.tail _ hy)⟩
end


structure Dt (way : Nat) (two : Bool) (low high : Int) (times on : Bool) (v x : Value) (u1 u2 : Tok) (ts : List Nat) (k : Nat) (by_ : Bool) (m : Str → Option Value) (nw : List (Addr × Obj)) : Prop where
  lo : Low two low high
  kv : KV (gG low high u1 u2 v x) m
  dv : DatIn nw v (depD (depOf way))
  dx : DatIn nw x (.tuple ((ixOf k).map .str))
  tl : ts.length ≤ 2
  t4 : ∀ t ∈ ts, t < 4
  k2 : k ≤ 2
  pt : PT (WW (dg low) (dg high) two times way on ts k by_) (ts.flatMap gOf) m nw
theorem Dt.mono {way : Nat} {two : Bool} {low high : Int} {times on : Bool} {v x : Value} {u1 u2 : Tok} {ts : List Nat} {k : Nat} {by_ : Bool} {m m' : Str → Option Value} {nw nw' : List (Addr × Obj)} (h : Dt way two low high times on v x u1 u2 ts k by_ m nw) (hm : ∀ z ∈ n6, m' z = m z) (hs : ∀ y ∈ nw, y ∈ nw') : Dt way two low high times on v x u1 u2 ts k by_ m' nw' := by
  refine ⟨h.lo, fun p hp => ?_, h.dv.mono hs, h.dx.mono hs, h.tl, h.t4, h.k2, h.pt.mono (hm _ (by simp [n6])) (hm _ (by simp [n6])) hs⟩
  rw [← h.kv p hp]
  refine hm _ ?_
  simp only [gG, List.mem_cons, List.not_mem_nil, or_false] at hp
  rcases hp with rfl | rfl | rfl | rfl <;> simp [n6]
theorem hP_of {h₀ : Heap} {L : Addr} {P : (Str → Option Value) → List (Addr × Obj) → Prop} {s s' : Shared} (h : SF h₀ L P s s') : SF h₀ L P s s' := h
noncomputable def wrong (way : Nat) (low high : Int) : Prop := high < low ∨ high = 0 ∨ (depOf way = none ∧ high ≠ low)
inductive P11 (way : Nat) (m : Str → Option Value) (nw : List (Addr × Obj)) : Prop
  | mk (two : Bool) (low high : Int) (times on : Bool) (v x : Value) (u1 u2 : Tok) (ts : List Nat) (k : Nat) (by_ : Bool) (bh : Str) (ub : Tok) (b : Bool) (f1 : Dt way two low high times on v x u1 u2 ts k by_ m nw) (f2 : Bh bh) (f3 : m (Str.ofString "behind") = some (.str bh ub)) (f4 : m (Str.ofString "is_wrong") = some (.bool b)) (f5 : (b = true ↔ wrong way low high)) : P11 way m nw

theorem wr1 {way : Nat} {low high : Int} (h : high < low) : decide (high < low) = true ↔ wrong way low high := ⟨fun _ => .inl h, fun _ => decide_eq_true h⟩
theorem wr2 {way : Nat} {low high : Int} (h : high = 0) : (high == 0) = true ↔ wrong way low high := ⟨fun _ => .inr (.inl h), fun _ => by simp [h]⟩
theorem wr3 {way : Nat} {low high : Int} (h1 : ¬ high < low) (h2 : high ≠ 0) (hw : depOf way = none) : (high != low) = true ↔ wrong way low high := by simp [wrong, h1, h2, hw]
theorem wr4 {way : Nat} {low high : Int} (h1 : ¬ high < low) (h2 : high ≠ 0) (hw : depOf way ≠ none) : false = true ↔ wrong way low high := by simp [wrong, h1, h2, hw]

section
variable {w : World} {p : Program} {loose : List Str} {mean : ExcName → Option Value} {mg mb : Str → Option Value}
  {env : Env} {outer : List Env} {gd : Option (List Code)} {A₀ : Around} {base h₀ : Heap} {L : Addr} {m : Str → Option Value} {news : List (Addr × Obj)} {g : Obj → List (Addr × Obj)} {s : Shared} {Q E : Value → Shared → Prop}
  {D U : Nat} {r dr lt nd : Addr} {t1 t2 t3 tk ka : Tok} {q k : Int} {n : Nat} {l : List Tk}
local macro_rules | `(tactic| k_mem) => `(tactic| walk_at "own:m1")

theorem l_9_0 {fa : Addr} {cd : Value}  {way : Nat} {two : Bool} {low high : Int} {times on : Bool} {v x : Value} {u1 u2 : Tok} {ts : List Nat} {k : Nat} {by_ : Bool} {bh : Str} {ub : Tok} (B : Below A₀ base outer h₀) (X : (kdef.heap_1 w.params).In h₀) (T : Top p loose mean mg mb h₀)
  (F : Fr h₀ L s.heap m) (N : News h₀ L s.heap news) (hd : Dt way two low high times on v x u1 u2 ts k by_ m news) (hb : Bh bh) (hbm : m (Str.ofString "behind") = some (.str bh ub)) (hv : v = .none) (hw : depOf way = none) :
  wpAny (model PG w) (ctx 700 3500 (lawEnv L fa cd) outer gd) (execs ((lawPack.1.1.drop 12).take 1) (lawEnv L fa cd)) (fun f s' => f = .next ∧ SF h₀ L (P11 way) s s') E s := by
  subst hv
  have g1 : m (Str.ofString "low") = some (.int low u1) := hd.kv (Str.ofString "low", .int low u1) (.head _)
  have g2 : m (Str.ofString "high") = some (.int high u2) := hd.kv (Str.ofString "high", .int high u2) (.tail _ (.head _))
  have g3 : m (Str.ofString "depending") = some _ := hd.kv (Str.ofString "depending", _) (.tail _ (.tail _ (.head _)))
  have g4 : m (Str.ofString "indexes") = some x := hd.kv (Str.ofString "indexes", x) (.tail _ (.tail _ (.tail _ (.head _))))
  simp only [lawPack, List.take_succ_cons, List.take_zero, List.drop_succ_cons, List.drop_zero, lawEnv]
  (repeat' (first | (with_reducible refine unstp ?_; first | (refine goM ?_; k_dflt walk1) | (k_dflt (dsimp only); refine stp ?_)) | (k_unfold; (first | with_reducible refine (?_ : wpAny _ _ _ _ _ _) | (try dsimp only))) | (k_end; wrow_close) | walk1 | (dsimp only; walk1) | (leave1; walk_say "STEP leave1"; try dsimp only) | fail "no step"))
  · exact SF.intro (by k_asm) (by k_asm) ⟨two, low, high, times, on, _, x, u1, u2, ts, k, by_, bh, ub, _, hd.mono (upd6 (by decide +kernel)) (fun _ h => h), hb, (by (try dsimp only); first | assumption | rfl | (simp (decide := true) only [reduceIte]; done) | (simp (decide := true) only [reduceIte]; assumption)), (by (try dsimp only); first | assumption | rfl | (simp (decide := true) only [reduceIte]; done) | (simp (decide := true) only [reduceIte]; assumption)), wr1 (by assumption)⟩
  · exact SF.intro (by k_asm) (by k_asm) ⟨two, low, high, times, on, _, x, u1, u2, ts, k, by_, bh, ub, _, hd.mono (upd6 (by decide +kernel)) (fun _ h => h), hb, (by (try dsimp only); first | assumption | rfl | (simp (decide := true) only [reduceIte]; done) | (simp (decide := true) only [reduceIte]; assumption)), (by (try dsimp only); first | assumption | rfl | (simp (decide := true) only [reduceIte]; done) | (simp (decide := true) only [reduceIte]; assumption)), wr2 (by assumption)⟩
  · exact SF.intro (by k_asm) (by k_asm) ⟨two, low, high, times, on, _, x, u1, u2, ts, k, by_, bh, ub, _, hd.mono (upd6 (by decide +kernel)) (fun _ h => h), hb, (by (try dsimp only); first | assumption | rfl | (simp (decide := true) only [reduceIte]; done) | (simp (decide := true) only [reduceIte]; assumption)), (by (try dsimp only); first | assumption | rfl | (simp (decide := true) only [reduceIte]; done) | (simp (decide := true) only [reduceIte]; assumption)), wr3 (by assumption) (by assumption) hw⟩

theorem l_9_1 {fa : Addr} {cd : Value} {a9 : Addr} {way : Nat} {two : Bool} {low high : Int} {times on : Bool} {v x : Value} {u1 u2 : Tok} {ts : List Nat} {k : Nat} {by_ : Bool} {bh : Str} {ub : Tok} (B : Below A₀ base outer h₀) (X : (kdef.heap_1 w.params).In h₀) (T : Top p loose mean mg mb h₀)
  (F : Fr h₀ L s.heap m) (N : News h₀ L s.heap news) (hd : Dt way two low high times on v x u1 u2 ts k by_ m news) (hb : Bh bh) (hbm : m (Str.ofString "behind") = some (.str bh ub)) (hv : v = .ref a9) (hw : depOf way ≠ none) :
  wpAny (model PG w) (ctx 700 3500 (lawEnv L fa cd) outer gd) (execs ((lawPack.1.1.drop 12).take 1) (lawEnv L fa cd)) (fun f s' => f = .next ∧ SF h₀ L (P11 way) s s') E s := by
  subst hv
  have g1 : m (Str.ofString "low") = some (.int low u1) := hd.kv (Str.ofString "low", .int low u1) (.head _)
  have g2 : m (Str.ofString "high") = some (.int high u2) := hd.kv (Str.ofString "high", .int high u2) (.tail _ (.head _))
  have g3 : m (Str.ofString "depending") = some _ := hd.kv (Str.ofString "depending", _) (.tail _ (.tail _ (.head _)))
  have g4 : m (Str.ofString "indexes") = some x := hd.kv (Str.ofString "indexes", x) (.tail _ (.tail _ (.tail _ (.head _))))
  simp only [lawPack, List.take_succ_cons, List.take_zero, List.drop_succ_cons, List.drop_zero, lawEnv]
  (repeat' (first | (with_reducible refine unstp ?_; first | (refine goM ?_; k_dflt walk1) | (k_dflt (dsimp only); refine stp ?_)) | (k_unfold; (first | with_reducible refine (?_ : wpAny _ _ _ _ _ _) | (try dsimp only))) | (k_end; wrow_close) | walk1 | (dsimp only; walk1) | (leave1; walk_say "STEP leave1"; try dsimp only) | fail "no step"))
  · exact SF.intro (by k_asm) (by k_asm) ⟨two, low, high, times, on, _, x, u1, u2, ts, k, by_, bh, ub, _, hd.mono (upd6 (by decide +kernel)) (fun _ h => h), hb, (by (try dsimp only); first | assumption | rfl | (simp (decide := true) only [reduceIte]; done) | (simp (decide := true) only [reduceIte]; assumption)), (by (try dsimp only); first | assumption | rfl | (simp (decide := true) only [reduceIte]; done) | (simp (decide := true) only [reduceIte]; assumption)), wr1 (by assumption)⟩
  · exact SF.intro (by k_asm) (by k_asm) ⟨two, low, high, times, on, _, x, u1, u2, ts, k, by_, bh, ub, _, hd.mono (upd6 (by decide +kernel)) (fun _ h => h), hb, (by (try dsimp only); first | assumption | rfl | (simp (decide := true) only [reduceIte]; done) | (simp (decide := true) only [reduceIte]; assumption)), (by (try dsimp only); first | assumption | rfl | (simp (decide := true) only [reduceIte]; done) | (simp (decide := true) only [reduceIte]; assumption)), wr2 (by assumption)⟩
  · exact SF.intro (by k_asm) (by k_asm) ⟨two, low, high, times, on, _, x, u1, u2, ts, k, by_, bh, ub, _, hd.mono (upd6 (by decide +kernel)) (fun _ h => h), hb, (by (try dsimp only); first | assumption | rfl | (simp (decide := true) only [reduceIte]; done) | (simp (decide := true) only [reduceIte]; assumption)), (by (try dsimp only); first | assumption | rfl | (simp (decide := true) only [reduceIte]; done) | (simp (decide := true) only [reduceIte]; assumption)), wr4 (by assumption) (by assumption) hw⟩

theorem l_9 {fa : Addr} {cd : Value} {way : Nat} {s₀ : Shared} (B : Below A₀ base outer h₀) (X : (kdef.heap_1 w.params).In h₀) (T : Top p loose mean mg mb h₀) (hs : SF h₀ L (P10 way) s₀ s) :
  wpAny (model PG w) (ctx 700 3500 (lawEnv L fa cd) outer gd) (execs ((lawPack.1.1.drop 12).take 1) (lawEnv L fa cd)) (fun f s' => f = .next ∧ SF h₀ L (P11 way) s₀ s') E s := by
  obtain ⟨m, h, tk', nw, rfl, F, N, ⟨bh, ub, hb, hbm⟩, two, low, high, times, on, v, x, u1, u2, ts, k, by_, hL, hKV, hdv, hdx, htl, ht4, hk, hPT⟩ := hP_of hs
  have hd : Dt way two low high times on v x u1 u2 ts k by_ m nw := ⟨hL, hKV, hdv, hdx, htl, ht4, hk, hPT⟩
  have fin : ∀ (f : Flow) (s' : Shared), (f = .next ∧ SF h₀ L (P11 way) { s₀ with heap := h, toks := tk' } s') → f = .next ∧ SF h₀ L (P11 way) s₀ s' := by
    rintro f s' ⟨e, m', h', tk2, nw', rfl, F', N', hP'⟩
    exact ⟨e, m', h', tk2, nw', rfl, F', N', hP'⟩
  cases way with
  | zero =>
    cases hdv
    exact wpAny_mono (l_9_0 (s := { s₀ with heap := h, toks := tk' }) B X T F N hd hb hbm rfl rfl) fin fun _ _ y => y
  | succ n =>
    cases hdv with
    | tuple hm hr => exact wpAny_mono (l_9_1 (s := { s₀ with heap := h, toks := tk' }) B X T F N hd hb hbm rfl (by intro q; cases q)) fin fun _ _ y => y
end


inductive P12 (way : Nat) (m : Str → Option Value) (nw : List (Addr × Obj)) : Prop
  | mk (two : Bool) (low high : Int) (times on : Bool) (v x : Value) (u1 u2 : Tok) (ts : List Nat) (k : Nat) (by_ : Bool) (bh : Str) (ub : Tok) (d : Addr) (f1 : Dt way two low high times on v x u1 u2 ts k by_ m nw) (f2 : Bh bh) (f3 : m (Str.ofString "behind") = some (.str bh ub)) (f4 : m (Str.ofString "due") = some (.ref d)) (f5 : ((wrong way low high ∧ DatIn nw (.ref d) (errD ((WW (dg low) (dg high) two times way on ts k by_).length : Int))) ∨ (¬ wrong way low high ∧ DatIn nw (.ref d) (okRes low high (depOf way) (ts.flatMap gOf) (ixOf k) ((WW (dg low) (dg high) two times way on ts k by_).length : Int))))) : P12 way m nw

theorem due_in {nw : List (Addr × Obj)} {D D1 K : Addr} {low high q : Int} {u1 u2 u : Tok} {v x : Value} {n1 n2 : Nat} {dep : Option (Str × List Str)} {ks : List (Bool × Str)} {ix : List Str} (h1 : (D1, ({ cls := .type "tuple", data := .seq #[.int low u1, .int high u2, v, .ref K, x] n1 } : Obj)) ∈ nw)
    (h2 : (D, ({ cls := .type "tuple", data := .seq #[.ref D1, .int q u] n2 } : Obj)) ∈ nw) (dv : DatIn nw v (depD dep)) (hk : DatIn nw (.ref K) (.tuple (ks.map kd))) (dx : DatIn nw x (.tuple (ix.map .str))) : DatIn nw (.ref D) (okRes low high dep ks ix q) :=
  .tuple (vs := [_, _]) h2 (.cons (.tuple (vs := [_, _, _, _, _]) h1 (.cons (.int _ _) (.cons (.int _ _) (.cons dv (.cons hk (.cons dx .nil)))))) (.cons (.int _ _) .nil))

section
variable {w : World} {p : Program} {loose : List Str} {mean : ExcName → Option Value} {mg mb : Str → Option Value}
  {env : Env} {outer : List Env} {gd : Option (List Code)} {A₀ : Around} {base h₀ : Heap} {L : Addr} {m : Str → Option Value} {news : List (Addr × Obj)} {g : Obj → List (Addr × Obj)} {s : Shared} {Q E : Value → Shared → Prop}
  {D U : Nat} {r dr lt nd : Addr} {t1 t2 t3 tk ka : Tok} {q k : Int} {n : Nat} {l : List Tk}
local macro_rules | `(tactic| k_mem) => `(tactic| walk_at "own:m1")

theorem l_10 {fa : Addr} {cd : Value} {way : Nat} {s₀ : Shared} (B : Below A₀ base outer h₀) (X : (kdef.heap_1 w.params).In h₀) (T : Top p loose mean mg mb h₀) (hs : SF h₀ L (P11 way) s₀ s) :
  wpAny (model PG w) (ctx 700 3500 (lawEnv L fa cd) outer gd) (execs ((lawPack.1.1.drop 13).take 1) (lawEnv L fa cd)) (fun f s' => f = .next ∧ SF h₀ L (P12 way) s₀ s') E s := by
  obtain ⟨m, h, tk', nw, rfl, F, N, two, low, high, times, on, v, x, u1, u2, ts, k, by_, bh, ub, b, hd, hb, hbm, hbw, hw⟩ := hs
  have g1 : m (Str.ofString "low") = some (.int low u1) := hd.kv (Str.ofString "low", .int low u1) (.head _)
  have g2 : m (Str.ofString "high") = some (.int high u2) := hd.kv (Str.ofString "high", .int high u2) (.tail _ (.head _))
  have g3 : m (Str.ofString "depending") = some v := hd.kv (Str.ofString "depending", v) (.tail _ (.tail _ (.head _)))
  have g4 : m (Str.ofString "indexes") = some x := hd.kv (Str.ofString "indexes", x) (.tail _ (.tail _ (.tail _ (.head _))))
  obtain ⟨⟨w9, wv, ew, hmw, hwm, hsv⟩, K, kv, kn9, hmk, hkm, hkd⟩ := id hd.pt
  have hl := hsv.len
  have lA := @lenA (dg low) (dg high) two times
  have lB := @lenB way on
  have lC := @lenC ts
  have lD := @lenD k by_
  have h2 := hd.tl
  have lW : (WW (dg low) (dg high) two times way on ts k by_).length ≤ 25 := by simp only [WW, List.length_append]; omega
  simp only [lawPack, List.take_succ_cons, List.take_zero, List.drop_succ_cons, List.drop_zero, lawEnv]
  cases b with
  | true =>
    (repeat' (first | (with_reducible refine unstp ?_; first | ((k_here; (with_reducible show wpAny _ _ (call (Value.builtin "len") [Value.ref _]) _ _ _); (with_unfolding_all refine' len_list ?k1 ?k2 ?_; (case k1 => exact News.isList (by k_asm) (by k_mem)); (case k2 => (simp only [List.size_toArray]; omega)); k_whole); (try simp only [List.size_toArray]))) | (refine goM ?_; k_dflt walk1) | (k_dflt (dsimp only); refine stp ?_)) | (k_unfold; (first | with_reducible refine (?_ : wpAny _ _ _ _ _ _) | (try dsimp only))) | (k_end; wrow_close) | walk1 | (dsimp only; walk1) | (leave1; walk_say "STEP leave1"; try dsimp only) | fail "no step"))
    exact SF.intro (by k_asm) (by k_asm) ⟨two, low, high, times, on, v, x, u1, u2, ts, k, by_, bh, ub, _, hd.mono (upd6 (by decide +kernel)) (fun y hy => .tail _ hy), hb, (by (try dsimp only); first | assumption | rfl | (simp (decide := true) only [reduceIte]; done) | (simp (decide := true) only [reduceIte]; assumption)), (by (try dsimp only); first | assumption | rfl | (simp (decide := true) only [reduceIte]; done) | (simp (decide := true) only [reduceIte]; assumption)), .inl ⟨hw.mp rfl, by rw [← hl]; exact err_in⟩⟩
  | false =>
    (repeat' (first | (with_reducible refine unstp ?_; first | ((k_here; (with_reducible show wpAny _ _ (call (Value.builtin "len") [Value.ref _]) _ _ _); (with_unfolding_all refine' len_list ?k1 ?k2 ?_; (case k1 => exact News.isList (by k_asm) (by k_mem)); (case k2 => (simp only [List.size_toArray]; omega)); k_whole); (try simp only [List.size_toArray]))) | (refine goM ?_; k_dflt walk1) | (k_dflt (dsimp only); refine stp ?_)) | (k_unfold; (first | with_reducible refine (?_ : wpAny _ _ _ _ _ _) | (try dsimp only))) | (k_end; wrow_close) | walk1 | (dsimp only; walk1) | (leave1; walk_say "STEP leave1"; try dsimp only) | fail "no step"))
    exact SF.intro (by k_asm) (by k_asm) ⟨two, low, high, times, on, v, x, u1, u2, ts, k, by_, bh, ub, _, hd.mono (upd6 (by decide +kernel)) (fun y hy => .tail _ (.tail _ hy)), hb, (by (try dsimp only); first | assumption | rfl | (simp (decide := true) only [reduceIte]; done) | (simp (decide := true) only [reduceIte]; assumption)), (by (try dsimp only); first | assumption | rfl | (simp (decide := true) only [reduceIte]; done) | (simp (decide := true) only [reduceIte]; assumption)), .inr ⟨fun q => (nomatch (hw.mpr q)), by rw [← hl]; exact due_in (.tail _ (.head _)) (.head _) (hd.dv.mono fun y hy => .tail _ (.tail _ hy)) (.tuple (.tail _ (.tail _ hkm)) (hkd.mono fun y hy => .tail _ (.tail _ hy))) (hd.dx.mono fun y hy => .tail _ (.tail _ hy))⟩⟩
end


noncomputable def BlkT (P : Prop) : Prop := P
theorem blkT {P : Prop} (h : BlkT P) : P := h
theorem all_ok (n : Nat) (ds : List Dat) (h : ∀ d ∈ ds, okD n d = true) : okD (n + 1) (.tuple ds) = true := List.all_eq_true.mpr h
theorem all2 {P : Dat → Prop} {a : Dat} {l : List Dat} (h : P a) (k : ∀ d ∈ l, P d) : ∀ d ∈ a :: l, P d := List.forall_mem_cons.mpr ⟨h, k⟩
theorem all0 {P : Dat → Prop} : ∀ d ∈ ([] : List Dat), P d := fun _ h => nomatch h
theorem ok_int (n : Nat) (i : Int) : okD n (.int i) = true := by cases n <;> rfl
theorem ok_dep (way : Nat) (h : way ≤ 3) : okD 6 (depD (depOf way)) = true := by
  match way, h with
  | 0, _ => decide +kernel
  | 1, _ => decide +kernel
  | 2, _ => decide +kernel
  | 3, _ => decide +kernel
theorem ok_ix (k : Nat) (h : k ≤ 2) : okD 6 (.tuple ((ixOf k).map .str)) = true := by
  match k, h with
  | 0, _ => decide +kernel
  | 1, _ => decide +kernel
  | 2, _ => decide +kernel
theorem ok_gOf (i : Nat) : ∀ p ∈ gOf i, okD 5 (kd p) = true := by
  match i with
  | 0 => decide +kernel
  | 1 => decide +kernel
  | 2 => decide +kernel
  | n + 3 => show ∀ p ∈ [(false, Str.ofString "K")], okD 5 (kd p) = true; decide +kernel
theorem ok_res {low high q : Int} {way k : Nat} {ts : List Nat} (hw : way ≤ 3) (hk : k ≤ 2) : okD 8 (okRes low high (depOf way) (ts.flatMap gOf) (ixOf k) q) = true := by
  refine all_ok 7 _ (all2 (all_ok 6 _ (all2 (ok_int _ _) (all2 (ok_int _ _) (all2 (ok_dep way hw) (all2 (all_ok 5 _ fun d hd => ?_) (all2 (ok_ix k hk) all0)))))) (all2 (ok_int _ _) all0))
  obtain ⟨p, hp, rfl⟩ := List.mem_map.mp hd
  obtain ⟨i, _, hi⟩ := List.mem_flatMap.mp hp
  exact ok_gOf i p hi
theorem ok_err {q : Int} : okD 8 (errD q) = true := all_ok 7 _ (all2 (by decide +kernel) (all2 (ok_int _ _) all0))
noncomputable def shB (x : Str) : Bool := decide (0 < x.length) && decide (x.length ≤ 1000)
theorem sh_of {x : Str} (h : shB x = true) : 0 < x.length ∧ x.length ≤ 1000 := by simpa [shB] using h
theorem sh_dig : ∀ p ∈ digits, shB p.1 = true := by decide +kernel
theorem sh_tOf (i : Nat) : (tOf i).all shB = true := by
  match i with
  | 0 => decide +kernel
  | 1 => decide +kernel
  | 2 => decide +kernel
  | n + 3 => show [Str.ofString "DESCENDING", Str.ofString "IS", Str.ofString "K"].all shB = true; decide +kernel
theorem sh_WB (way : Nat) (on : Bool) (h : way ≤ 3) : (WB way on).all shB = true := by
  match way, h with
  | 0, _ => cases on <;> decide +kernel
  | 1, _ => cases on <;> decide +kernel
  | 2, _ => cases on <;> decide +kernel
  | 3, _ => cases on <;> decide +kernel
theorem sh_WD (k : Nat) (by_ : Bool) (h : k ≤ 2) : (WD k by_).all shB = true := by
  match k, h with
  | 0, _ => cases by_ <;> decide +kernel
  | 1, _ => cases by_ <;> decide +kernel
  | 2, _ => cases by_ <;> decide +kernel
theorem sh_WA {d1 d2 : Str} {two times : Bool} (h1 : shB d1 = true) (h2 : shB d2 = true) : (WA d1 d2 two times).all shB = true := by
  have a : shB (Str.ofString "TO") = true := by decide +kernel
  have b : shB (Str.ofString "TIMES") = true := by decide +kernel
  cases two <;> cases times <;> simp [WA, h1, h2, a, b]
theorem sh_WW {d1 d2 : Str} {two times : Bool} {way : Nat} {on : Bool} {ts : List Nat} {k : Nat} {by_ : Bool} (h1 : shB d1 = true) (h2 : shB d2 = true) (hw : way ≤ 3) (hk : k ≤ 2) : (WW d1 d2 two times way on ts k by_).all shB = true := by
  have c : (ts.flatMap tOf).all shB = true := by
    rw [List.all_eq_true]
    intro x hx
    obtain ⟨i, _, hi⟩ := List.mem_flatMap.mp hx
    exact List.all_eq_true.mp (sh_tOf i) x hi
  simp only [WW, List.all_append, Bool.and_eq_true]
  exact ⟨sh_WA h1 h2, sh_WB way on hw, c, sh_WD k by_ hk⟩
theorem sh_bh {x : Str} (h : Bh x) : shB x = true := by rcases h with rfl | rfl | rfl <;> decide +kernel
theorem sh_all {W : List Str} (h : W.all shB = true) : ∀ x ∈ W, 0 < x.length ∧ x.length ≤ 1000 := fun x hx => sh_of (List.all_eq_true.mp h x hx)

section
variable {w : World} {p : Program} {loose : List Str} {mean : ExcName → Option Value} {mg mb : Str → Option Value}
  {env : Env} {gd : Option (List Code)} {A₀ : Around} {base h₀ : Heap} {L : Addr} {m : Str → Option Value} {news : List (Addr × Obj)} {g : Obj → List (Addr × Obj)} {s : Shared} {Q E : Value → Shared → Prop}
  {D U : Nat} {r dr lt nd : Addr} {t1 t2 t3 tk ka : Tok} {q k : Int} {n : Nat} {l : List Tk}
local macro_rules | `(tactic| k_mem) => `(tactic| walk_at "own:m1")
local macro_rules | `(tactic| walk_at "binaryOp Add ref ref") => `(tactic| (goal_lacks GoM; refine stp ?_))
local macro_rules | `(tactic| walk_at "call ref") => `(tactic| (goal_lacks GoM; refine stp ?_))
local macro_rules | `(tactic| walk_at "compareOp NotEq ref ref") => `(tactic| (goal_lacks GoM; refine stp ?_))
local macro_rules | `(tactic| walk_at "compareOp Eq ref ref") => `(tactic| (goal_lacks GoM; refine stp ?_))

theorem l_11 {fa : Addr} {cd : Value} {way : Nat} {s₀ : Shared} (B : Below A₀ base [] h₀) (X : (kdef.heap_1 w.params).In h₀) (T : Top p loose mean mg mb h₀) (XB : (kdef.heap_1 w.params).In base) (TB9 : Top p loose mean mg mb base) (hw3 : way ≤ 3) (hs : SF h₀ L (P12 way) s₀ s) :
  wpAny (model PG w) (ctx 700 3500 (lawEnv L fa cd) [] gd) (execs ((lawPack.1.1.drop 14).take 1) (lawEnv L fa cd)) (fun f s' => f = .next ∧ SF h₀ L (P12 way) s₀ s') E s := by
  obtain ⟨m, h, tk', nw, rfl, F, N, two, low, high, times, on, v, x, u1, u2, ts, k, by_, bh, ub, d, hd, hb, hbm, hdm, hD⟩ := hs
  obtain ⟨⟨w9, wv, ew, hmw, hwm, hsv⟩, K, kv, kn9, hmk, hkm, hkd⟩ := id hd.pt
  have hl := hsv.len
  have lA := @lenA (dg low) (dg high) two times
  have lB := @lenB way on
  have lC := @lenC ts
  have lD := @lenD k by_
  have h2 := hd.tl
  have hlo := hd.lo
  have hk2 := hd.k2
  have lW : (WW (dg low) (dg high) two times way on ts k by_).length ≤ 25 := by simp only [WW, List.length_append]; omega
  have dl := dg_in hlo.a (by have := hlo.b; omega : low ≤ 5)
  have dh := dg_in hlo.c hlo.d
  have shW := sh_WW (two := two) (times := times) (on := on) (ts := ts) (by_ := by_) (sh_dig _ dl) (sh_dig _ dh) hw3 hk2
  have hkl : (ts.map gOf).flatten.length < 100 := by have := @lenG ts; rw [← List.flatMap_def]; omega
  have hpar := parse (d1 := dg low) (d2 := dg high) (two := two) (times := times) (way := way) (on := on) (ts := ts) (k := k) (by_ := by_) (bh := bh) dl dh hlo.e hw3 h2 hk2 hb
  have hx9 : ∀ x ∈ (WW (dg low) (dg high) two times way on ts k by_) ++ [bh], 0 < x.length ∧ x.length ≤ 1000 := sh_all (by rw [List.all_append, shW]; simp [sh_bh hb])
  have hlen9 : ((WW (dg low) (dg high) two times way on ts k by_) ++ [bh]).length < 100 := by simp; omega
  simp only [lawPack, List.take_succ_cons, List.take_zero, List.drop_succ_cons, List.drop_zero, lawEnv]
  (repeat' (first | (with_reducible refine unstp ?_; first | ((k_here; k_dflt (refine' ne_same ?N ?Da ?Db ?ok ?hu ?_; (case N => k_asm); (case Da => first | assumption | exact DatIn.mono (fun y hy => .tail _ hy) (by assumption)); (case Db => first | assumption | exact err_in); (case ok => first | assumption | exact ok_err); (case hu => exact (show (3500 : Nat) + 64 < cLine from by decide)); k_whole))) | ((k_here; (with_reducible show wpAny _ _ (call (Value.ref 427) [_] []) _ _ _); refine blkT ?_)) | ((k_here; (with_reducible show wpAny _ _ (binaryOp _ (Value.ref _) (Value.ref _)) _ _ _); k_dflt (refine' add_sv ?F ?N ?hl ?hb ?sx ?sy ?hz ?_; (case F => k_asm); (case N => k_asm); (case hl => k_mem); (case hb => k_mem); (case sx => first | assumption | exact SV.nil | exact SV.cons _ _ SV.nil | exact SV.cons _ _ (SV.cons _ _ SV.nil) | exact SV.cons _ _ (SV.cons _ _ (SV.cons _ _ SV.nil)) | exact SV.cons _ _ (SV.cons _ _ (SV.cons _ _ (SV.cons _ _ SV.nil)))); (case sy => first | assumption | exact SV.nil | exact SV.cons _ _ SV.nil | exact SV.cons _ _ (SV.cons _ _ SV.nil) | exact SV.cons _ _ (SV.cons _ _ (SV.cons _ _ SV.nil)) | exact SV.cons _ _ (SV.cons _ _ (SV.cons _ _ (SV.cons _ _ SV.nil)))); (case hz => ((try simp only [List.length_append, List.length_cons, List.length_nil]); first | (refine Nat.le_trans ?p9 ?q9; (case p9 => repeat' (with_reducible (first | assumption | refine Nat.add_le_add ?_ ?_ | exact Nat.le_refl _))); (case q9 => exact Nat.le_of_ble_eq_true rfl)) | omega)); k_whole); intro D9z' vs9z' h9z' F9z' N9z' l19z hsv9z'; (try dsimp only); (try k_lt l19z))) | (refine goM ?_; k_dflt walk1) | (k_dflt (dsimp only); refine stp ?_)) | (k_unfold; (first | with_reducible refine (?_ : wpAny _ _ _ _ _ _) | (try dsimp only))) | (k_end; wrow_close) | walk1 | (dsimp only; walk1) | (leave1; walk_say "STEP leave1"; try dsimp only) | fail "no step"))
  unfold BlkT
  have hsv' := (by assumption : SV _ ((WW (dg low) (dg high) two times way on ts k by_) ++ [bh]))
  rcases hD with ⟨hwr, hD⟩ | ⟨hwr, hD⟩
  · refine told_fe (by decide) (by decide) B (by k_asm) X (by k_asm) T rfl rfl XB TB9 (.head _) hsv'.len hsv'.get hlen9 hx9 hpar hkl hwr (by simp; omega) ?_
    intro a h5 tk5 nw5 F5 N5 sub5 hda
    have hok := @ok_err ((WW (dg low) (dg high) two times way on ts k by_).length : Int)
    have sub6 : ∀ y ∈ nw, y ∈ nw5 := fun y hy => sub5 y (.tail _ (.tail _ hy))
    have hdd := hD.mono sub6
    (repeat' (first | (with_reducible refine unstp ?_; first | ((k_here; k_dflt (refine' ne_same ?N ?Da ?Db ?ok ?hu ?_; (case N => k_asm); (case Da => first | assumption | exact DatIn.mono (fun y hy => .tail _ hy) (by assumption)); (case Db => first | assumption | exact err_in); (case ok => first | assumption | exact ok_err); (case hu => exact (show (3500 : Nat) + 64 < cLine from by decide)); k_whole))) | ((k_here; (with_reducible show wpAny _ _ (call (Value.ref 427) [_] []) _ _ _); refine blkT ?_)) | ((k_here; (with_reducible show wpAny _ _ (binaryOp _ (Value.ref _) (Value.ref _)) _ _ _); k_dflt (refine' add_sv ?F ?N ?hl ?hb ?sx ?sy ?hz ?_; (case F => k_asm); (case N => k_asm); (case hl => k_mem); (case hb => k_mem); (case sx => first | assumption | exact SV.nil | exact SV.cons _ _ SV.nil | exact SV.cons _ _ (SV.cons _ _ SV.nil) | exact SV.cons _ _ (SV.cons _ _ (SV.cons _ _ SV.nil)) | exact SV.cons _ _ (SV.cons _ _ (SV.cons _ _ (SV.cons _ _ SV.nil)))); (case sy => first | assumption | exact SV.nil | exact SV.cons _ _ SV.nil | exact SV.cons _ _ (SV.cons _ _ SV.nil) | exact SV.cons _ _ (SV.cons _ _ (SV.cons _ _ SV.nil)) | exact SV.cons _ _ (SV.cons _ _ (SV.cons _ _ (SV.cons _ _ SV.nil)))); (case hz => ((try simp only [List.length_append, List.length_cons, List.length_nil]); first | (refine Nat.le_trans ?p9 ?q9; (case p9 => repeat' (with_reducible (first | assumption | refine Nat.add_le_add ?_ ?_ | exact Nat.le_refl _))); (case q9 => exact Nat.le_of_ble_eq_true rfl)) | omega)); k_whole); intro D9z' vs9z' h9z' F9z' N9z' l19z hsv9z'; (try dsimp only); (try k_lt l19z))) | (refine goM ?_; k_dflt walk1) | (k_dflt (dsimp only); refine stp ?_)) | (k_unfold; (first | with_reducible refine (?_ : wpAny _ _ _ _ _ _) | (try dsimp only))) | (k_end; wrow_close) | walk1 | (dsimp only; walk1) | (leave1; walk_say "STEP leave1"; try dsimp only) | fail "no step"))
    exact SF.intro (by k_asm) (by k_asm) ⟨two, low, high, times, on, v, x, u1, u2, ts, k, by_, bh, ub, d, hd.mono (fun _ _ => rfl) sub6, hb, hbm, hdm, .inl ⟨hwr, hdd⟩⟩
  · refine told_ok (by decide) (by decide) B (by k_asm) X (by k_asm) T rfl rfl XB TB9 (.head _) hsv'.len hsv'.get hlen9 hx9 hpar hkl (fun q => hwr (.inl q)) (fun q => hwr (.inr (.inl q))) (fun q => Decidable.byContradiction fun z => hwr (.inr (.inr ⟨q, z⟩))) ?_
    rw [← List.flatMap_def]
    intro a h5 tk5 nw5 F5 N5 sub5 hda
    have hok := @ok_res low high ((WW (dg low) (dg high) two times way on ts k by_).length : Int) way k ts hw3 hk2
    have sub6 : ∀ y ∈ nw, y ∈ nw5 := fun y hy => sub5 y (.tail _ (.tail _ hy))
    have hdd := hD.mono sub6
    (repeat' (first | (with_reducible refine unstp ?_; first | ((k_here; k_dflt (refine' ne_same ?N ?Da ?Db ?ok ?hu ?_; (case N => k_asm); (case Da => first | assumption | exact DatIn.mono (fun y hy => .tail _ hy) (by assumption)); (case Db => first | assumption | exact err_in); (case ok => first | assumption | exact ok_err); (case hu => exact (show (3500 : Nat) + 64 < cLine from by decide)); k_whole))) | ((k_here; (with_reducible show wpAny _ _ (call (Value.ref 427) [_] []) _ _ _); refine blkT ?_)) | ((k_here; (with_reducible show wpAny _ _ (binaryOp _ (Value.ref _) (Value.ref _)) _ _ _); k_dflt (refine' add_sv ?F ?N ?hl ?hb ?sx ?sy ?hz ?_; (case F => k_asm); (case N => k_asm); (case hl => k_mem); (case hb => k_mem); (case sx => first | assumption | exact SV.nil | exact SV.cons _ _ SV.nil | exact SV.cons _ _ (SV.cons _ _ SV.nil) | exact SV.cons _ _ (SV.cons _ _ (SV.cons _ _ SV.nil)) | exact SV.cons _ _ (SV.cons _ _ (SV.cons _ _ (SV.cons _ _ SV.nil)))); (case sy => first | assumption | exact SV.nil | exact SV.cons _ _ SV.nil | exact SV.cons _ _ (SV.cons _ _ SV.nil) | exact SV.cons _ _ (SV.cons _ _ (SV.cons _ _ SV.nil)) | exact SV.cons _ _ (SV.cons _ _ (SV.cons _ _ (SV.cons _ _ SV.nil)))); (case hz => ((try simp only [List.length_append, List.length_cons, List.length_nil]); first | (refine Nat.le_trans ?p9 ?q9; (case p9 => repeat' (with_reducible (first | assumption | refine Nat.add_le_add ?_ ?_ | exact Nat.le_refl _))); (case q9 => exact Nat.le_of_ble_eq_true rfl)) | omega)); k_whole); intro D9z' vs9z' h9z' F9z' N9z' l19z hsv9z'; (try dsimp only); (try k_lt l19z))) | (refine goM ?_; k_dflt walk1) | (k_dflt (dsimp only); refine stp ?_)) | (k_unfold; (first | with_reducible refine (?_ : wpAny _ _ _ _ _ _) | (try dsimp only))) | (k_end; wrow_close) | walk1 | (dsimp only; walk1) | (leave1; walk_say "STEP leave1"; try dsimp only) | fail "no step"))
    exact SF.intro (by k_asm) (by k_asm) ⟨two, low, high, times, on, v, x, u1, u2, ts, k, by_, bh, ub, d, hd.mono (fun _ _ => rfl) sub6, hb, hbm, hdm, .inr ⟨hwr, hdd⟩⟩
end


noncomputable def BlkU (P : Prop) : Prop := P

section
variable {w : World} {p : Program} {loose : List Str} {mean : ExcName → Option Value} {mg mb : Str → Option Value}
  {env : Env} {gd : Option (List Code)} {A₀ : Around} {base h₀ : Heap} {L : Addr} {m : Str → Option Value} {news : List (Addr × Obj)} {g : Obj → List (Addr × Obj)} {s : Shared} {Q E : Value → Shared → Prop}
  {D U : Nat} {r dr lt nd : Addr} {t1 t2 t3 tk ka : Tok} {q k : Int} {n : Nat} {l : List Tk}
local macro_rules | `(tactic| k_mem) => `(tactic| walk_at "own:m1")
local macro_rules | `(tactic| walk_at "binaryOp Add ref ref") => `(tactic| (goal_lacks GoM; refine stp ?_))
local macro_rules | `(tactic| walk_at "call ref") => `(tactic| (goal_lacks GoM; refine stp ?_))
local macro_rules | `(tactic| walk_at "compareOp NotEq ref ref") => `(tactic| (goal_lacks GoM; refine stp ?_))
local macro_rules | `(tactic| walk_at "compareOp Eq ref ref") => `(tactic| (goal_lacks GoM; refine stp ?_))
local macro_rules | `(tactic| walk_at "subscriptTail Name Slice ref ref") => `(tactic| (goal_lacks GoM; refine stp ?_))

theorem l_12 {fa : Addr} {cd : Value} {way : Nat} {s₀ : Shared} (B : Below A₀ base [] h₀) (X : (kdef.heap_1 w.params).In h₀) (T : Top p loose mean mg mb h₀) (XB : (kdef.heap_1 w.params).In base) (TB9 : Top p loose mean mg mb base) (hw3 : way ≤ 3) (hs : SF h₀ L (P12 way) s₀ s) :
  wpAny (model PG w) (ctx 700 3500 (lawEnv L fa cd) [] gd) (execs ((lawPack.1.1.drop 15).take 1) (lawEnv L fa cd)) (fun f s' => f = .next ∧ SF h₀ L (fun _ _ => True) s₀ s') E s := by
  obtain ⟨m, h, tk', nw, rfl, F, N, two, low, high, times, on, v, x, u1, u2, ts, k, by_, bh, ub, d, hd, hb, hbm, hdm, hD⟩ := hs
  obtain ⟨⟨w9, wv, ew, hmw, hwm, hsv⟩, K, kv, kn9, hmk, hkm, hkd⟩ := id hd.pt
  have hl := hsv.len
  have lA := @lenA (dg low) (dg high) two times
  have lB := @lenB way on
  have lC := @lenC ts
  have lD := @lenD k by_
  have h2 := hd.tl
  have hlo := hd.lo
  have hk2 := hd.k2
  have lW : (WW (dg low) (dg high) two times way on ts k by_).length ≤ 25 := by simp only [WW, List.length_append]; omega
  have dl := dg_in hlo.a (by have := hlo.b; omega : low ≤ 5)
  have dh := dg_in hlo.c hlo.d
  have shW := sh_WW (two := two) (times := times) (on := on) (ts := ts) (by_ := by_) (sh_dig _ dl) (sh_dig _ dh) hw3 hk2
  obtain ⟨WT, eW⟩ : ∃ WT, (WW (dg low) (dg high) two times way on ts k by_) = dg low :: WT := ⟨_, rfl⟩
  rw [eW] at hsv lW shW
  rw [List.length_cons] at lW
  have hsw := hsv
  cases hsv with
  | cons _ u0 hst =>
  rename_i wt
  have hwl := hst.len
  have shT : WT.all shB = true := by rw [List.all_cons, Bool.and_eq_true] at shW; exact shW.2
  have hx1 : ∀ x ∈ [Str.ofString "1.5"] ++ WT, 0 < x.length ∧ x.length ≤ 1000 := sh_all (by rw [List.all_append, shT]; decide +kernel)
  have hx2 : ∀ x ∈ [Str.ofString "TIMES"] ++ (dg low :: WT), 0 < x.length ∧ x.length ≤ 1000 := sh_all (by rw [List.all_append, shW]; decide +kernel)
  simp only [lawPack, List.take_succ_cons, List.take_zero, List.drop_succ_cons, List.drop_zero, lawEnv]
  (repeat' (first | (with_reducible refine unstp ?_; first | ((k_here; (with_reducible show wpAny _ _ (subscriptTail (PySem.Expr.Name _ _) (PySem.Expr.Slice (some _) none none _) (Value.ref _) (Value.ref _)) _ _ _); k_dflt (refine' slice_1 ?F ?N ?l ?_ ?s ?t ?z; (case F => k_asm); (case N => k_asm); (case l => exact News.isList (by k_asm) (by k_mem)); (case s => with_unfolding_all rfl); (case t => (intro _; with_unfolding_all rfl)); (case z => omega); k_whole); intro D9z' h9z' F9z' N9z' l19z; (try k_lt l19z))) | ((k_here; k_dflt (refine' ne_same ?N ?Da ?Db ?ok ?hu ?_; (case N => k_asm); (case Da => first | assumption | exact DatIn.mono (fun y hy => .tail _ hy) (by assumption)); (case Db => first | assumption | exact err_in); (case ok => first | assumption | exact ok_err); (case hu => exact (show (3500 : Nat) + 64 < cLine from by decide)); k_whole))) | ((k_here; (with_reducible show wpAny _ _ (call (Value.ref 427) [_] []) _ _ _); refine blkT ?_)) | ((k_here; (with_reducible show wpAny _ _ (binaryOp _ (Value.ref _) (Value.ref _)) _ _ _); k_dflt (refine' add_sv ?F ?N ?hl ?hb ?sx ?sy ?hz ?_; (case F => k_asm); (case N => k_asm); (case hl => k_mem); (case hb => k_mem); (case sx => first | assumption | exact SV.nil | exact SV.cons _ _ SV.nil | exact SV.cons _ _ (SV.cons _ _ SV.nil) | exact SV.cons _ _ (SV.cons _ _ (SV.cons _ _ SV.nil)) | exact SV.cons _ _ (SV.cons _ _ (SV.cons _ _ (SV.cons _ _ SV.nil)))); (case sy => first | assumption | exact SV.nil | exact SV.cons _ _ SV.nil | exact SV.cons _ _ (SV.cons _ _ SV.nil) | exact SV.cons _ _ (SV.cons _ _ (SV.cons _ _ SV.nil)) | exact SV.cons _ _ (SV.cons _ _ (SV.cons _ _ (SV.cons _ _ SV.nil)))); (case hz => ((try simp only [List.length_append, List.length_cons, List.length_nil]); first | (refine Nat.le_trans ?p9 ?q9; (case p9 => repeat' (with_reducible (first | assumption | refine Nat.add_le_add ?_ ?_ | exact Nat.le_refl _))); (case q9 => exact Nat.le_of_ble_eq_true rfl)) | omega)); k_whole); intro D9z' vs9z' h9z' F9z' N9z' l19z hsv9z'; (try dsimp only); (try k_lt l19z))) | (refine goM ?_; k_dflt walk1) | (k_dflt (dsimp only); refine stp ?_)) | (k_unfold; (first | with_reducible refine (?_ : wpAny _ _ _ _ _ _) | (try dsimp only))) | (k_end; wrow_close) | walk1 | (dsimp only; walk1) | (leave1; walk_say "STEP leave1"; try dsimp only) | fail "no step"))
  unfold BlkT
  have hsv1 := (by assumption : SV _ ([Str.ofString "1.5"] ++ WT))
  refine told_f1 (by decide) (by decide) B (by k_asm) X (by k_asm) T rfl rfl XB TB9 (.head _) hsv1.len hsv1.get (by simp; omega) hx1 fail1 ?_
  intro a h5 tk5 nw5 F5 N5 sub5 hda
  have hw5 := sub5 _ (.tail _ (.tail _ (.tail _ hwm)))
  (repeat' (first | (with_reducible refine unstp ?_; first | ((k_here; (with_reducible show wpAny _ _ (subscriptTail (PySem.Expr.Name _ _) (PySem.Expr.Slice (some _) none none _) (Value.ref _) (Value.ref _)) _ _ _); k_dflt (refine' slice_1 ?F ?N ?l ?_ ?s ?t ?z; (case F => k_asm); (case N => k_asm); (case l => exact News.isList (by k_asm) (by k_mem)); (case s => with_unfolding_all rfl); (case t => (intro _; with_unfolding_all rfl)); (case z => omega); k_whole); intro D9z' h9z' F9z' N9z' l19z; (try k_lt l19z))) | ((k_here; k_dflt (refine' ne_same ?N ?Da ?Db ?ok ?hu ?_; (case N => k_asm); (case Da => first | assumption | exact DatIn.mono (fun y hy => .tail _ hy) (by assumption)); (case Db => first | assumption | exact err_in); (case ok => first | assumption | exact ok_err); (case hu => exact (show (3500 : Nat) + 64 < cLine from by decide)); k_whole))) | ((k_here; (with_reducible show wpAny _ _ (call (Value.ref 427) [_] []) _ _ _); refine blkT ?_)) | ((k_here; (with_reducible show wpAny _ _ (binaryOp _ (Value.ref _) (Value.ref _)) _ _ _); k_dflt (refine' add_sv ?F ?N ?hl ?hb ?sx ?sy ?hz ?_; (case F => k_asm); (case N => k_asm); (case hl => k_mem); (case hb => k_mem); (case sx => first | assumption | exact SV.nil | exact SV.cons _ _ SV.nil | exact SV.cons _ _ (SV.cons _ _ SV.nil) | exact SV.cons _ _ (SV.cons _ _ (SV.cons _ _ SV.nil)) | exact SV.cons _ _ (SV.cons _ _ (SV.cons _ _ (SV.cons _ _ SV.nil)))); (case sy => first | assumption | exact SV.nil | exact SV.cons _ _ SV.nil | exact SV.cons _ _ (SV.cons _ _ SV.nil) | exact SV.cons _ _ (SV.cons _ _ (SV.cons _ _ SV.nil)) | exact SV.cons _ _ (SV.cons _ _ (SV.cons _ _ (SV.cons _ _ SV.nil)))); (case hz => ((try simp only [List.length_append, List.length_cons, List.length_nil]); first | (refine Nat.le_trans ?p9 ?q9; (case p9 => repeat' (with_reducible (first | assumption | refine Nat.add_le_add ?_ ?_ | exact Nat.le_refl _))); (case q9 => exact Nat.le_of_ble_eq_true rfl)) | omega)); k_whole); intro D9z' vs9z' h9z' F9z' N9z' l19z hsv9z'; (try dsimp only); (try k_lt l19z))) | (refine goM ?_; k_dflt walk1) | (k_dflt (dsimp only); refine stp ?_)) | (k_unfold; (first | with_reducible refine (?_ : wpAny _ _ _ _ _ _) | (try dsimp only))) | (k_end; wrow_close) | walk1 | (dsimp only; walk1) | (leave1; walk_say "STEP leave1"; try dsimp only) | fail "no step"))
  unfold BlkT
  have hsv2 := (by assumption : SV _ ([Str.ofString "TIMES"] ++ (dg low :: WT)))
  refine told_f1 (by decide) (by decide) B (by k_asm) X (by k_asm) T rfl rfl XB TB9 (.head _) hsv2.len hsv2.get (by simp; omega) hx2 fail1t ?_
  intro a7 h7 tk7 nw7 F7 N7 sub7 hda7
  (repeat' (first | (with_reducible refine unstp ?_; first | ((k_here; (with_reducible show wpAny _ _ (subscriptTail (PySem.Expr.Name _ _) (PySem.Expr.Slice (some _) none none _) (Value.ref _) (Value.ref _)) _ _ _); k_dflt (refine' slice_1 ?F ?N ?l ?_ ?s ?t ?z; (case F => k_asm); (case N => k_asm); (case l => exact News.isList (by k_asm) (by k_mem)); (case s => with_unfolding_all rfl); (case t => (intro _; with_unfolding_all rfl)); (case z => omega); k_whole); intro D9z' h9z' F9z' N9z' l19z; (try k_lt l19z))) | ((k_here; k_dflt (refine' ne_same ?N ?Da ?Db ?ok ?hu ?_; (case N => k_asm); (case Da => first | assumption | exact DatIn.mono (fun y hy => .tail _ hy) (by assumption)); (case Db => first | assumption | exact err_in); (case ok => first | assumption | exact ok_err); (case hu => exact (show (3500 : Nat) + 64 < cLine from by decide)); k_whole))) | ((k_here; (with_reducible show wpAny _ _ (call (Value.ref 427) [_] []) _ _ _); refine blkT ?_)) | ((k_here; (with_reducible show wpAny _ _ (binaryOp _ (Value.ref _) (Value.ref _)) _ _ _); k_dflt (refine' add_sv ?F ?N ?hl ?hb ?sx ?sy ?hz ?_; (case F => k_asm); (case N => k_asm); (case hl => k_mem); (case hb => k_mem); (case sx => first | assumption | exact SV.nil | exact SV.cons _ _ SV.nil | exact SV.cons _ _ (SV.cons _ _ SV.nil) | exact SV.cons _ _ (SV.cons _ _ (SV.cons _ _ SV.nil)) | exact SV.cons _ _ (SV.cons _ _ (SV.cons _ _ (SV.cons _ _ SV.nil)))); (case sy => first | assumption | exact SV.nil | exact SV.cons _ _ SV.nil | exact SV.cons _ _ (SV.cons _ _ SV.nil) | exact SV.cons _ _ (SV.cons _ _ (SV.cons _ _ SV.nil)) | exact SV.cons _ _ (SV.cons _ _ (SV.cons _ _ (SV.cons _ _ SV.nil)))); (case hz => ((try simp only [List.length_append, List.length_cons, List.length_nil]); first | (refine Nat.le_trans ?p9 ?q9; (case p9 => repeat' (with_reducible (first | assumption | refine Nat.add_le_add ?_ ?_ | exact Nat.le_refl _))); (case q9 => exact Nat.le_of_ble_eq_true rfl)) | omega)); k_whole); intro D9z' vs9z' h9z' F9z' N9z' l19z hsv9z'; (try dsimp only); (try k_lt l19z))) | (refine goM ?_; k_dflt walk1) | (k_dflt (dsimp only); refine stp ?_)) | (k_unfold; (first | with_reducible refine (?_ : wpAny _ _ _ _ _ _) | (try dsimp only))) | (k_end; wrow_close) | walk1 | (dsimp only; walk1) | (leave1; walk_say "STEP leave1"; try dsimp only) | fail "no step"))
  exact SF.intro (by k_asm) (by k_asm) trivial
end


theorem sv3 {a b c : Str} {u1 u2 u3 : Tok} : SV [.str a u1, .str b u2, .str c u3] [a, b, c] := .cons _ _ (.cons _ _ (.cons _ _ .nil))
theorem sv2 {a b : Str} {u1 u2 : Tok} : SV [.str a u1, .str b u2] [a, b] := .cons _ _ (.cons _ _ .nil)
theorem lit4 {D0 D1 D2 D3 : Addr} {u u1 u2 : Tok} {nw : List (Addr × Obj)} : DatIn ((D0, ({ cls := .type "tuple", data := .seq #[.ref D1, .int 2 u] } : Obj)) :: (D1, ({ cls := .type "tuple", data := .seq #[.int 4 u1, .int 4 u2, .none, .ref D3, .ref D2] } : Obj)) :: (D2, ({ cls := .type "tuple", data := .seq #[] } : Obj)) :: (D3, ({ cls := .type "tuple", data := .seq #[] } : Obj)) :: nw) (.ref D0) (okRes 4 4 none [] [] 2) :=
  due_in (.tail _ (.head _)) (.head _) .none (.tuple (vs := []) (n := 0) (.tail _ (.tail _ (.tail _ (.head _)))) .nil) (.tuple (vs := []) (n := 0) (.tail _ (.tail _ (.head _))) .nil)

section
variable {w : World} {p : Program} {loose : List Str} {mean : ExcName → Option Value} {mg mb : Str → Option Value}
  {env : Env} {gd : Option (List Code)} {A₀ : Around} {base h₀ : Heap} {L : Addr} {m : Str → Option Value} {news : List (Addr × Obj)} {g : Obj → List (Addr × Obj)} {s : Shared} {Q E : Value → Shared → Prop}
  {D U : Nat} {r dr lt nd : Addr} {t1 t2 t3 tk ka : Tok} {q k : Int} {n : Nat} {l : List Tk}
local macro_rules | `(tactic| k_mem) => `(tactic| walk_at "own:m1")
local macro_rules | `(tactic| walk_at "call ref") => `(tactic| (goal_lacks GoM; refine stp ?_))
local macro_rules | `(tactic| walk_at "compareOp NotEq ref ref") => `(tactic| (goal_lacks GoM; refine stp ?_))
local macro_rules | `(tactic| walk_at "compareOp Eq ref ref") => `(tactic| (goal_lacks GoM; refine stp ?_))

theorem l_13 {fa : Addr} {cd : Value} {s₀ : Shared} (B : Below A₀ base [] h₀) (X : (kdef.heap_1 w.params).In h₀) (T : Top p loose mean mg mb h₀) (XB : (kdef.heap_1 w.params).In base) (TB9 : Top p loose mean mg mb base) (hs : SF h₀ L (fun _ _ => True) s₀ s) :
  wpAny (model PG w) (ctx 700 3500 (lawEnv L fa cd) [] gd) (execs (lawPack.1.1.drop 16) (lawEnv L fa cd)) (fun f s' => f = .ret (.bool true) ∧ SF h₀ L (fun _ _ => True) s₀ s') E s := by
  obtain ⟨m, h, tk', nw, rfl, F, N, _⟩ := hs
  have hx1 : ∀ x ∈ [Str.ofString "3", Str.ofString "TO", Str.ofString "X"], 0 < x.length ∧ x.length ≤ 1000 := sh_all (by decide +kernel)
  have hx2 : ∀ x ∈ [Str.ofString "4", Str.ofString "TIMES"], 0 < x.length ∧ x.length ≤ 1000 := sh_all (by decide +kernel)
  simp only [lawPack, List.take_succ_cons, List.take_zero, List.drop_succ_cons, List.drop_zero, lawEnv]
  (repeat' (first | (with_reducible refine unstp ?_; first | ((k_here; k_dflt (refine' eq_same ?N ?Da ?Db ?ok ?hu ?_; (case N => k_asm); (case Db => exact lit4); (case Da => exact DatIn.mono (fun y hy => .tail _ (.tail _ (.tail _ (.tail _ hy)))) (by assumption)); (case ok => assumption); (case hu => exact (show (3500 : Nat) + 64 < cLine from by decide)); k_whole))) | ((k_here; k_dflt (refine' eq_same ?N ?Da ?Db ?ok ?hu ?_; (case N => k_asm); (case Da => first | assumption | exact DatIn.mono (fun y hy => .tail _ hy) (by assumption)); (case Db => first | assumption | exact err_in); (case ok => first | assumption | exact ok_err); (case hu => exact (show (3500 : Nat) + 64 < cLine from by decide)); k_whole))) | ((k_here; (with_reducible show wpAny _ _ (call (Value.ref 427) [_] []) _ _ _); refine blkT ?_)) | (refine goM ?_; k_dflt walk1) | (k_dflt (dsimp only); refine stp ?_)) | (k_unfold; (first | with_reducible refine (?_ : wpAny _ _ _ _ _ _) | (try dsimp only))) | (k_end; wrow_close) | walk1 | (dsimp only; walk1) | (leave1; walk_say "STEP leave1"; try dsimp only) | fail "no step"))
  unfold BlkT
  refine told_f2 (by decide) (by decide) B (by k_asm) X (by k_asm) T rfl rfl XB TB9 (.head _) sv3.len sv3.get (by decide) hx1 fail2 ?_
  intro a h5 tk5 nw5 F5 N5 sub5 hda
  (repeat' (first | (with_reducible refine unstp ?_; first | ((k_here; k_dflt (refine' eq_same ?N ?Da ?Db ?ok ?hu ?_; (case N => k_asm); (case Db => exact lit4); (case Da => exact DatIn.mono (fun y hy => .tail _ (.tail _ (.tail _ (.tail _ hy)))) (by assumption)); (case ok => assumption); (case hu => exact (show (3500 : Nat) + 64 < cLine from by decide)); k_whole))) | ((k_here; k_dflt (refine' eq_same ?N ?Da ?Db ?ok ?hu ?_; (case N => k_asm); (case Da => first | assumption | exact DatIn.mono (fun y hy => .tail _ hy) (by assumption)); (case Db => first | assumption | exact err_in); (case ok => first | assumption | exact ok_err); (case hu => exact (show (3500 : Nat) + 64 < cLine from by decide)); k_whole))) | ((k_here; (with_reducible show wpAny _ _ (call (Value.ref 427) [_] []) _ _ _); refine blkT ?_)) | (refine goM ?_; k_dflt walk1) | (k_dflt (dsimp only); refine stp ?_)) | (k_unfold; (first | with_reducible refine (?_ : wpAny _ _ _ _ _ _) | (try dsimp only))) | (k_end; wrow_close) | walk1 | (dsimp only; walk1) | (leave1; walk_say "STEP leave1"; try dsimp only) | fail "no step"))
  unfold BlkT
  refine told_ok (low := 4) (high := 4) (dep := none) (gs := []) (ix := []) (qD := 2) (by decide) (by decide) B (by k_asm) X (by k_asm) T rfl rfl XB TB9 (.head _) sv2.len sv2.get (by decide) hx2 four (by decide) (by decide) (by decide) (fun _ => rfl) ?_
  intro a7 h7 tk7 nw7 F7 N7 sub7 hda7
  have hok : okD 8 (okRes 4 4 none [] [] 2) = true := by decide +kernel
  replace hda7 : DatIn nw7 (.ref a7) (okRes 4 4 none [] [] 2) := hda7
  (repeat' (first | (with_reducible refine unstp ?_; first | ((k_here; k_dflt (refine' eq_same ?N ?Da ?Db ?ok ?hu ?_; (case N => k_asm); (case Db => exact lit4); (case Da => exact DatIn.mono (fun y hy => .tail _ (.tail _ (.tail _ (.tail _ hy)))) (by assumption)); (case ok => assumption); (case hu => exact (show (3500 : Nat) + 64 < cLine from by decide)); k_whole))) | ((k_here; k_dflt (refine' eq_same ?N ?Da ?Db ?ok ?hu ?_; (case N => k_asm); (case Da => first | assumption | exact DatIn.mono (fun y hy => .tail _ hy) (by assumption)); (case Db => first | assumption | exact err_in); (case ok => first | assumption | exact ok_err); (case hu => exact (show (3500 : Nat) + 64 < cLine from by decide)); k_whole))) | ((k_here; (with_reducible show wpAny _ _ (call (Value.ref 427) [_] []) _ _ _); refine blkT ?_)) | (refine goM ?_; k_dflt walk1) | (k_dflt (dsimp only); refine stp ?_)) | (k_unfold; (first | with_reducible refine (?_ : wpAny _ _ _ _ _ _) | (try dsimp only))) | (k_end; wrow_close) | walk1 | (dsimp only; walk1) | (leave1; walk_say "STEP leave1"; try dsimp only) | fail "no step"))
  exact SF.intro (by k_asm) (by k_asm) trivial
end


section
variable {w : World} {p : Program} {loose : List Str} {mean : ExcName → Option Value} {mg mb : Str → Option Value}
  {env : Env} {outer : List Env} {gd : Option (List Code)} {A₀ : Around} {base h₀ : Heap} {L : Addr} {m : Str → Option Value} {news : List (Addr × Obj)} {g : Obj → List (Addr × Obj)} {s : Shared} {Q E : Value → Shared → Prop}
  {D U : Nat} {r dr lt nd : Addr} {t1 t2 t3 tk ka : Tok} {q k : Int} {n : Nat} {l : List Tk}

theorem l_4 {fa : Addr} {cd : Value} {keep : List (Addr × Obj)} {s₀ : Shared} (B : Below A₀ base outer h₀) (X : (kdef.heap_1 w.params).In h₀) (T : Top p loose mean mg mb h₀) (hs : St h₀ L keep 5 P45 s₀ s) :
  wpAny (model PG w) (ctx 700 3500 (lawEnv L fa cd) outer gd) (execs ((lawPack.1.1.drop 7).take 1) (lawEnv L fa cd)) (fun f s' => f = .next ∧ ∃ way, way ≤ 3 ∧ St h₀ L keep 6 (P5 way) s₀ s') E s := by
  obtain ⟨m', h', tk', ta, e, rest, tp, cl, ns, a, rfl, F, N, ht, hab, hk, hm, way, w0, w1, hP⟩ := hs
  have hw : way = 0 ∨ way = 1 ∨ way = 2 ∨ way = 3 := by omega
  rcases hw with rfl | rfl | rfl | rfl
  · exact wpAny_mono (l_4_0 B X T ⟨m', h', tk', ta, e, rest, tp, cl, ns, a, rfl, F, N, ht, hab, hk, hm, hP⟩) (fun f s' hf => ⟨hf.1, 0, by decide, hf.2⟩) fun _ _ y => y
  · exact wpAny_mono (l_4_1 B X T ⟨m', h', tk', ta, e, rest, tp, cl, ns, a, rfl, F, N, ht, hab, hk, hm, hP⟩) (fun f s' hf => ⟨hf.1, 1, by decide, hf.2⟩) fun _ _ y => y
  · exact wpAny_mono (l_4_2 B X T ⟨m', h', tk', ta, e, rest, tp, cl, ns, a, rfl, F, N, ht, hab, hk, hm, hP⟩) (fun f s' hf => ⟨hf.1, 2, by decide, hf.2⟩) fun _ _ y => y
  · exact wpAny_mono (l_4_3 B X T ⟨m', h', tk', ta, e, rest, tp, cl, ns, a, rfl, F, N, ht, hab, hk, hm, hP⟩) (fun f s' hf => ⟨hf.1, 3, by decide, hf.2⟩) fun _ _ y => y
end

section
variable {w : World} {p : Program} {loose : List Str} {mean : ExcName → Option Value} {mg mb : Str → Option Value}
  {env : Env} {gd : Option (List Code)} {A₀ : Around} {base h₀ : Heap} {L : Addr} {m : Str → Option Value} {news : List (Addr × Obj)} {g : Obj → List (Addr × Obj)} {s : Shared} {Q E : Value → Shared → Prop}
  {D U : Nat} {r dr lt nd : Addr} {t1 t2 t3 tk ka : Tok} {q k : Int} {n : Nat} {l : List Tk}

theorem law_body {fa : Addr} {cd : Value} {oc : Obj} {sc : Addr} {vs : List Value} {ns : List Int} (B : Below A₀ base [] h₀) (X : (kdef.heap_1 w.params).In h₀) (T : Top p loose mean mg mb h₀) (XB : (kdef.heap_1 w.params).In base) (TB9 : Top p loose mean mg mb base) (F : Fr h₀ L s.heap m) (N : News h₀ L s.heap [(L + 1, oc)]) (hoc : oc.data = .cell none)
  (hsc : h₀.IsList sc vs.toArray) (hi : IntsAre vs ns) (hlen : ns.length ≤ 63) (hm : m (Str.ofString "script") = some (.ref sc)) (hE : PassesOwn (model PG w) (ctx 700 3500 (lawEnv L fa cd) [] gd) (lawEnv L fa cd) E) :
  wpAny (model PG w) (ctx 700 3500 (lawEnv L fa cd) [] gd) (execs lawPack.1.1 (lawEnv L fa cd)) (fun f s' => f = .ret (.bool true) ∧ SF h₀ L (fun _ _ => True) s s') E s := by
  have e : lawPack.1.1 = lawPack.1.1.take 1 ++ ((lawPack.1.1.drop 1).take 3 ++ ((lawPack.1.1.drop 4).take 2 ++ ((lawPack.1.1.drop 6).take 1 ++ ((lawPack.1.1.drop 7).take 1 ++ ((lawPack.1.1.drop 8).take 1 ++ ((lawPack.1.1.drop 9).take 1 ++ ((lawPack.1.1.drop 10).take 1 ++ ((lawPack.1.1.drop 11).take 1 ++ ((lawPack.1.1.drop 12).take 1 ++ ((lawPack.1.1.drop 13).take 1 ++ ((lawPack.1.1.drop 14).take 1 ++ ((lawPack.1.1.drop 15).take 1 ++ lawPack.1.1.drop 16)))))))))))) := rfl
  rw [e]
  refine execs_cut (l_0 B F X N T hsc hi hlen hm) fun s1 h1 => ?_
  refine execs_cut (l_1 B X T h1) fun s2 h2 => ?_
  refine execs_cut (l_2 B X T h2) fun s3 h3 => ?_
  refine execs_cut (l_3 B X T h3) fun s4 h4 => ?_
  refine execs_cut (l_4 B X T h4) fun s5 h5 => ?_
  obtain ⟨way, hw, h5⟩ := h5
  refine execs_cut (l_5 B X T h5) fun s6 h6 => ?_
  refine execs_cut (l_6 B X T h6 (.head _) hoc hw hE) fun s7 h7 => ?_
  refine execs_cut (l_7 B X T h7) fun s8 h8 => ?_
  refine execs_cut (l_8 B X T h8) fun s9 h9 => ?_
  refine execs_cut (l_9 B X T h9) fun s10 h10 => ?_
  refine execs_cut (l_10 B X T h10) fun s11 h11 => ?_
  refine execs_cut (l_11 B X T XB TB9 hw h11) fun s12 h12 => ?_
  refine execs_cut (l_12 B X T XB TB9 hw h12) fun s13 h13 => ?_
  exact l_13 B X T XB TB9 h13
end

end Mine
end
section
open PySem PySem.W PySem.W.X PyProof.Rows PySem.Calls
set_option Elab.async false
set_option maxRecDepth 100000
set_option maxHeartbeats 0
namespace Mine
local macro_rules | `(tactic| o_law) => `(tactic| refine holds_law Mine.well fun said => ?_)
-- k_behind asks k_qdec twice, which would lay a twin of the whole program (3.5 MB): the functions' twins are enough
local macro_rules | `(tactic| k_qdec) => `(tactic| ((try rw [PySem.W.Fast.te17448422675489707002]); (try rw [PySem.W.Fast.te821141287760084731]); (try rw [PySem.W.Fast.te2458874890965802552]); kernel_rfl))
theorem hd : PySem.Challenge.rw_pb0259_01.Holds := by
  w_on; o_law
  refine holds_open (q := Vw) (loose := LO) (Xt := fun s => xlAt Vw [] s && recOk (RowW.records R.row.toRowW) s) (XP := XL Vw []) (Yf := HK.obs) (Ya := HK.val) (YP := HK.says) (N := 5772) left HK.of HK.keeps (fun s e => xl_of s (Bool.and_eq_true_iff.mp e).1) XL.keeps (by rfl) (by rfl) (by rfl) (fun s e => recFacts_of (Bool.and_eq_true_iff.mp e).2) (by rfl) (by first | assumption | decide +kernel) (by decide +kernel) ⟨rfl, rfl, rfl, rfl, rfl, by decide +kernel⟩ ?hw ?hc
  case hw => w_witness2
  k_fill
  intro w s₀ s₁ mg mb G Y fa o pm cd doc dV kV ho hd hcd hD hmg hg args vals as hpre hlay hrd hwl hlo
  have KX : (KP w.params).In s₁.heap := by
    have h := kIn_of Y
    rw [kq] at h
    exact h
  clear Y
  k_behind G ho hd hcd hD hmg hpre hlay hrd hwl hlo cd
  refine' wpAny_mono (ctx_mono (D' := 700) (U' := 3500) ?zd ?zu (law_body (E := fun _ _ => False) (fa := fa) ?zB KX ?zT KX ?zT ?zF ?zN ?zo ?zs ?zi ?zl ?zm ?zE)) ?zQ (fun _ _ h => h.elim)
  case zd => exact Nat.le_of_ble_eq_true rfl
  case zu => exact Nat.le_of_ble_eq_true rfl
  case zB => assumption
  case zT => assumption
  case zF => assumption
  case zN => assumption
  case zs => assumption
  case zi => assumption
  case zo =>
    refine Eq.trans (by assumption) ?_
    with_unfolding_all rfl
  case zl => omega
  case zm => rfl
  case zE => exact PassesOwn.never
  case zQ =>
    rintro f s' ⟨rfl, m', h', tk', nw, rfl, F', N', _⟩
    exact goodW_bool F' hg (fun _ => rfl) (by wrow_post)
end Mine

end
theorem PySem.Challenge.cw_pb0259_01_holds : PySem.Challenge.rw_pb0259_01.Holds :=
  Mine.hd
