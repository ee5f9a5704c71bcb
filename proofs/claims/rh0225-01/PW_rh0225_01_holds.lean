import PyProof.Rows.All
import Wide.All
import OpenK.AllK
import Wide.FinOn
import Lean
import PySem.Challenge.RW_rh0225_01
open PySem PySem.W PySem.Calls PyProof.Rows
set_option Elab.async false
set_option maxRecDepth 100000
set_option maxHeartbeats 8000000
namespace Mine
/-- The written part of the heap and the view, as constants: the head's own line lays them; nothing else of this theorem is used (it holds by its premise). -/
theorem pre (h : False) : PySem.Challenge.rw_rh0225_01.row.Holds := by
  w_on
  apply (fun (AL AW AC : Prop) (hl : AL) (hw : AW) (hc : AC) (m : PySem.Challenge.rw_rh0225_01.row.Holds) => m)
  contradiction
  contradiction
  contradiction
  k_head

theorem hd.tw911984361383283675 : True := trivial
theorem hd.tw506717569212085965 : True := trivial
theorem hd.tw10727248033764811480 : True := trivial
theorem hd.tw15360030459910354571 : True := trivial
theorem hd.tw5858630264745516266 : True := trivial
theorem hd.tw12038256508788140161 : True := trivial
theorem hd.tw9520444632078035217 : True := trivial
theorem hd.tw26425463804135960 : True := trivial
theorem hd.tw2380272775587480882 : True := trivial
theorem hd.tw7423620368879189121 : True := trivial
theorem hd.tw12472140842598129695 : True := trivial
theorem hd.tw244737055928404615 : True := trivial
theorem hd.tw13277076834127875243 : True := trivial
theorem hd.tw7763873220885509757 : True := trivial
theorem hd.tw7822882547125802209 : True := trivial
theorem hd.tw4517895374514979327 : True := trivial
theorem hd.tw1798425829259240090 : True := trivial
theorem hd.tw12614811148066621264 : True := trivial
theorem hd.tw961146359098324282 : True := trivial
theorem hd.tw4065347644161347641 : True := trivial
theorem hd.tw7519716089354478335 : True := trivial
theorem hd.tw9014375795449043846 : True := trivial
theorem hd.tw17599816209265215132 : True := trivial
theorem hd.tw13903934854276604550 : True := trivial
theorem hd.tw758273949599710562 : True := trivial
theorem hd.tw18241275227582772068 : True := trivial
theorem hd.tw5366084841770067474 : True := trivial
theorem hd.tw18219297243305740317 : True := trivial
theorem hd.tw13217225542625558698 : True := trivial
theorem hd.tw10403243965636340961 : True := trivial
theorem hd.tw1382963296337349011 : True := trivial
theorem hd.tw11032806212648032379 : True := trivial
theorem hd.tw13483081372092288885 : True := trivial
theorem hd.tw7366208706002141716 : True := trivial
theorem hd.tw1778080364554679531 : True := trivial
theorem hd.tw728884934406724761 : True := trivial
theorem hd.tw402640490398009360 : True := trivial
theorem hd.tw10583446816852156582 : True := trivial
theorem hd.tw978945382295711627 : True := trivial
theorem hd.tw4377701919642642989 : True := trivial
theorem hd.tw1847840615245081061 : True := trivial
theorem hd.tw6830512106363814048 : True := trivial
theorem hd.tw17047115858639842297 : True := trivial
theorem hd.tw9345676750909349944 : True := trivial
theorem hd.tw10879034167726328663 : True := trivial
theorem hd.tw6820862383352777685 : True := trivial
theorem hd.tw12647368939536790636 : True := trivial
theorem hd.tw18103342009636024947 : True := trivial
theorem hd.tw15043168886218598503 : True := trivial
theorem hd.tw6838551448383532254 : True := trivial
theorem hd.tw13855881374063213867 : True := trivial
theorem hd.tw4971549296188076032 : True := trivial
theorem hd.tw3828038474966422129 : True := trivial
theorem hd.tw1241404454085649124 : True := trivial
theorem hd.tw4993660671451451078 : True := trivial
theorem hd.tw9421340871869096474 : True := trivial
theorem hd.tw15642763164714097627 : True := trivial
theorem hd.tw8545014587354053640 : True := trivial
theorem hd.tw3182187488490625086 : True := trivial
theorem hd.tw14103535550066685397 : True := trivial
theorem hd.tw1865391376527767206 : True := trivial
theorem hd.tw16473244170626142550 : True := trivial
theorem hd.tw13409513249864510019 : True := trivial
theorem hd.tw8716120427605611371 : True := trivial
theorem hd.tw6819123309680001836 : True := trivial
theorem hd.tw17606422857730326317 : True := trivial
theorem hd.tw1997569388931296116 : True := trivial
theorem hd.tw1589133516308662214 : True := trivial
theorem hd.tw8112040973832200146 : True := trivial
theorem hd.tw1129884963351977449 : True := trivial
theorem hd.tw5282504435634884242 : True := trivial
theorem hd.tw3789350110615891812 : True := trivial
theorem hd.tw1439246655266547700 : True := trivial
theorem hd.tw17252143746492648416 : True := trivial
theorem hd.tw487960524631912522 : True := trivial
theorem hd.tw17950676927832955104 : True := trivial
theorem hd.tw18166333605607142505 : True := trivial
theorem hd.tw4015398097383911347 : True := trivial
theorem hd.tw11631947586910100387 : True := trivial
theorem hd.tw10603584201595350602 : True := trivial
theorem hd.tw13866372431405929976 : True := trivial
theorem hd.tw15616948245753086127 : True := trivial
theorem hd.tw10792051664901133789 : True := trivial
theorem hd.tw8960069828448710407 : True := trivial
theorem hd.tw6196171512934965099 : True := trivial
theorem hd.tw15837987909243819085 : True := trivial
theorem hd.tw9673543361469618366 : True := trivial
theorem hd.tw4494801613693538912 : True := trivial
theorem hd.tw11660266114150955751 : True := trivial
theorem hd.tw10246146449241189800 : True := trivial
theorem hd.tw3759623122121258479 : True := trivial
theorem hd.tw4115565904173853331 : True := trivial
theorem hd.tw11213053971927718326 : True := trivial
theorem hd.tw14955159897011116063 : True := trivial
theorem hd.tw6931407450589930559 : True := trivial
theorem hd.tw5511420028821071320 : True := trivial
theorem hd.tw4272726840584523970 : True := trivial
theorem hd.tw13919464512627920130 : True := trivial
theorem hd.tw5608270528595127837 : True := trivial
theorem hd.tw3493717111155160527 : True := trivial
theorem hd.tw11210553801493137410 : True := trivial
theorem hd.tw14892549342360969540 : True := trivial
theorem hd.tw6276725880618359904 : True := trivial
theorem hd.tw6060742912462422084 : True := trivial
theorem hd.tw10601615944963115059 : True := trivial
theorem hd.tw12092154237167983948 : True := trivial
theorem hd.tw4851647983119433812 : True := trivial
theorem hd.tw1784385830474605701 : True := trivial
theorem hd.tw6767318904944593275 : True := trivial
theorem hd.tw3008623586974134963 : True := trivial
theorem hd.tw11402939732021071671 : True := trivial
theorem hd.tw18300207936620678264 : True := trivial
theorem hd.tw10360471539772378328 : True := trivial
theorem hd.tw11128854368766332075 : True := trivial
theorem hd.tw10216474801634566288 : True := trivial
theorem hd.tw4846842124234013525 : True := trivial
theorem hd.tw10170382586518783626 : True := trivial
theorem hd.tw4172343393113369950 : True := trivial
theorem hd.tw6545403380812914513 : True := trivial
theorem hd.tw14176624398918483544 : True := trivial
theorem hd.tw6924109203229866365 : True := trivial
theorem hd.tw8228950375871286339 : True := trivial
theorem hd.tw1836080755315867724 : True := trivial
theorem hd.tw14727110085682223627 : True := trivial
theorem hd.tw5732804406350252772 : True := trivial
theorem hd.tw461538923250603899 : True := trivial
theorem hd.tw4706079058837389440 : True := trivial
theorem hd.tw17711083657039698284 : True := trivial
theorem hd.tw8343274005884668182 : True := trivial
theorem hd.tw15967140613478806237 : True := trivial
theorem hd.tw5567388512258382067 : True := trivial
theorem hd.tw5363564295841288755 : True := trivial
theorem hd.tw5781342201191254626 : True := trivial
theorem hd.tw6293948785866598258 : True := trivial
theorem hd.tw13609717118414637909 : True := trivial
theorem hd.tw15368132723985388332 : True := trivial
theorem hd.tw17574625026820762457 : True := trivial
theorem hd.tw3109861748172591687 : True := trivial
theorem hd.tw15833661619300960221 : True := trivial
theorem hd.tw15759970867653108152 : True := trivial
theorem hd.tw11465210709893060100 : True := trivial
theorem as_same (P P' : Params) : (pre.heap_1 P).map (·.1) = (pre.heap_1 P').map (·.1) := rfl
set_option Elab.async true in
/-- The head. Elab.async is on for this theorem alone: what the library's line lays for it then bears names under Mine.hd. -/
theorem hd (h : ∀ d kwd, defOf pre.view_1 PySem.Challenge.rw_rh0225_01.row.name = some (d, kwd) →
    WalkO pre.view_1 [Str.ofString "SnobolError"] (XL pre.view_1 []) (fun w => (kHook pre.heap_1 ((pre.heap_1 w.params).map (·.1)) (as_same w.params)).says w) PySem.Challenge.rw_rh0225_01.row.toRowW d kwd (fun f vs => call f vs)) :
    PySem.Challenge.rw_rh0225_01.Holds := by
  w_on
  o_law
  apply (fun (d : DefRec) (kwd : List (Str × PySem.Expr)) (e : defOf pre.view_1 PySem.Challenge.rw_rh0225_01.row.name = some (d, kwd))
    (hc : WalkO pre.view_1 [Str.ofString "SnobolError"] (XL pre.view_1 []) (fun w => (kHook pre.heap_1 ((pre.heap_1 w.params).map (·.1)) (as_same w.params)).says w) PySem.Challenge.rw_rh0225_01.row.toRowW d kwd (fun f vs => call f vs)) (m : PySem.Challenge.rw_rh0225_01.row.Holds) => m)
  exact rfl
  exact h _ _ rfl
  k_head
  case hw => w_witness2
theorem hd_done : True := trivial
theorem some_pair {α β : Type} {x : Option (α × β)} {a c : α} {b d : β} (h1 : x = some (a, b)) (h2 : x = some (c, d)) : a = c ∧ b = d := by
  cases h1.symm.trans h2
  exact ⟨rfl, rfl⟩
theorem off_B1 : True := by
  w_top off
  exact True.intro
theorem ktr_depth {dp un : Nat} {gd : Option (List Code)} {cn : Str} {cs : Scope} {L a : Addr} {ccd : Value} {cl : List (Str × Addr)} {outer : List Env} : (ktrTop dp un gd cn cs L a ccd cl outer).depth = dp := rfl
theorem ktr_units' {dp un : Nat} {gd : Option (List Code)} {cn : Str} {cs : Scope} {L a : Addr} {ccd : Value} {cl : List (Str × Addr)} {outer : List Env} : (ktrTop dp un gd cn cs L a ccd cl outer).units = un := rfl

theorem units_under_cls {A : Around} {C : Addr} {pos : List Value} {kw : List (Str × Value)} : (A.under (.builtin "type.__call__" ⟨.ref C :: pos, kw⟩)).units = A.units + 1 := by
  first | rfl | simp [Around.under, Code.cUnits, Code.frames, Code.isFrame]

/-! ## keys: tuples of ints and strs -/
inductive Scal where
  | i (n : Int)
  | s (x : Str)
  deriving DecidableEq

noncomputable def Scal.is : Scal → Value → Bool
  | .i n, v => Value.isInt n v
  | .s x, v => Value.isStrOf x v
theorem Scal.is_i {n : Int} {v : Value} (h : Scal.is (.i n) v = true) : ∃ t, v = .int n t := Value.isInt_shape h
theorem Scal.is_s {x : Str} {v : Value} (h : Scal.is (.s x) v = true) : ∃ t, v = .str x t := Value.isStrOf_shape h
noncomputable def Scal.hash (w : World) : Scal → Int
  | .i n => hashInt n
  | .s x => hashStr w x

theorem eqBool_int_str {M : Model} {prog : Program} {w : World} {A : Around} {E : Value → Shared → Prop} {s : Shared} {a : Int} {b : Str} {t u : Tok} {Q : Bool → Shared → Prop} (h : Q false s) :
    wpAny (model prog w) A (eqBool (.int a t) (.str b u)) Q E s := by
  unfold eqBool
  show wpAny _ _ (if (Value.int a t == Value.str b u) = true then rule "eq-bool.same-object" >>= fun _ => pure true else richCompare .Eq (.int a t) (.str b u) >>= truthOfDropped) Q E s
  rw [if_neg (by rintro e; have := eq_of_beq e; cases this)]
  exact wpAny_bind (EqMixed.eq_int_str (Q := fun r s' => wpAny (model prog w) A (truthOfDropped r) Q E s') (wpAny_truthy_bool h))
theorem eqBool_str_int {M : Model} {prog : Program} {w : World} {A : Around} {E : Value → Shared → Prop} {s : Shared} {a : Str} {b : Int} {t u : Tok} {Q : Bool → Shared → Prop} (h : Q false s) :
    wpAny (model prog w) A (eqBool (.str a t) (.int b u)) Q E s := by
  unfold eqBool
  show wpAny _ _ (if (Value.str a t == Value.int b u) = true then rule "eq-bool.same-object" >>= fun _ => pure true else richCompare .Eq (.str a t) (.int b u) >>= truthOfDropped) Q E s
  rw [if_neg (by rintro e; have := eq_of_beq e; cases this)]
  exact wpAny_bind (EqMixed.eq_str_int (Q := fun r s' => wpAny (model prog w) A (truthOfDropped r) Q E s') (wpAny_truthy_bool h))

noncomputable def scalKind (prog : Program) (w : World) : KeyKind prog w Scal where
  is := Scal.is
  hash := Scal.hash w
  inj := fun v a b ha hb => by
    cases a <;> cases b
    · obtain ⟨t, rfl⟩ := Scal.is_i ha; obtain ⟨u, e⟩ := Scal.is_i hb; cases e; rfl
    · obtain ⟨t, rfl⟩ := Scal.is_i ha; obtain ⟨u, e⟩ := Scal.is_s hb; cases e
    · obtain ⟨t, rfl⟩ := Scal.is_s ha; obtain ⟨u, e⟩ := Scal.is_i hb; cases e
    · obtain ⟨t, rfl⟩ := Scal.is_s ha; obtain ⟨u, e⟩ := Scal.is_s hb; cases e; rfl
  byValue := fun k v h => by
    cases k
    · obtain ⟨t, rfl⟩ := Scal.is_i h; rfl
    · obtain ⟨t, rfl⟩ := Scal.is_s h; rfl
  pyHash := fun {A E s k v Q} hv h => by
    cases k
    · obtain ⟨t, rfl⟩ := Scal.is_i hv; exact wpAny_pyHash_int h
    · obtain ⟨t, rfl⟩ := Scal.is_s hv; exact wpAny_pyHash_str h
  eqBool := fun {A E s a b u v Q} hu hv h => by
    rcases a with n | x <;> rcases b with n' | x'
    · obtain ⟨t, rfl⟩ := Scal.is_i hu; obtain ⟨t', rfl⟩ := Scal.is_i hv
      refine wpAny_eqBool_int ?_
      have e : (n == n') = decide (Scal.i n = Scal.i n') := by by_cases q : n = n' <;> simp [q]
      rw [e]; exact h
    · obtain ⟨t, rfl⟩ := Scal.is_i hu; obtain ⟨t', rfl⟩ := Scal.is_s hv
      exact eqBool_int_str (M := model prog w) (by simpa using h)
    · obtain ⟨t, rfl⟩ := Scal.is_s hu; obtain ⟨t', rfl⟩ := Scal.is_i hv
      exact eqBool_str_int (M := model prog w) (by simpa using h)
    · obtain ⟨t, rfl⟩ := Scal.is_s hu; obtain ⟨t', rfl⟩ := Scal.is_s hv
      refine wpAny_eqBool_str ?_
      simpa using h
  «strs» := fun k x t v h => by
    cases k
    · obtain ⟨u, e⟩ := Scal.is_i h; cases e
    · obtain ⟨u, e⟩ := Scal.is_s h
      cases e
      cases v <;> rfl

noncomputable abbrev PR : Program := RowW.prog (OpenRow.toRowW (OpenLaw.row PySem.Challenge.rw_rh0225_01))
noncomputable abbrev tk (w : World) : HeapKind (RowW.prog (OpenRow.toRowW (OpenLaw.row PySem.Challenge.rw_rh0225_01))) w (List Scal) := tupleKind (scalKind _ w)

/-! ## the ledger's facts -/
noncomputable abbrev tupO (vs : List Value) (n : Nat) : Obj := { cls := .type "tuple", data := .seq vs.toArray n }
noncomputable abbrev lstO (vs : List Value) (n : Nat) : Obj := { cls := .type "list", data := .seq vs.toArray n }

/-- a NameRef in the ledger -/
inductive RefD (w : World) (news : List (Addr × Obj)) (x : Addr) (kd : Str) (ow key : Value) : Prop where
  | mk (d : Addr) (t1 : Tok) (t2 : Tok) (t3 : Tok) (u : Tok) (n : Nat)
    (h1 : (x, instObj 117 d) ∈ news)
    (h2 : (d, dictOf [⟨PyData.keyHash w.params (Str.ofString "kind"), .str (Str.ofString "kind") t1, .str kd u⟩, ⟨PyData.keyHash w.params (Str.ofString "owner"), .str (Str.ofString "owner") t2, ow⟩, ⟨PyData.keyHash w.params (Str.ofString "key"), .str (Str.ofString "key") t3, key⟩] n) ∈ news) : RefD w news x kd ow key

inductive TabD (w : World) (news : List (Addr × Obj)) (x : Addr) (num : Int) (eD pD rL : Addr) : Prop where
  | mk (d : Addr) (t1 : Tok) (t2 : Tok) (t3 : Tok) (t4 : Tok) (t5 : Tok) (t6 : Tok) (u1 : Tok) (u2 : Tok) (u3 : Tok) (n : Nat)
    (h1 : (x, instObj 241 d) ∈ news)
    (h2 : (d, dictOf [⟨PyData.keyHash w.params (Str.ofString "word"), .str (Str.ofString "word") t1, .str (Str.ofString "TABLE") u1⟩, ⟨PyData.keyHash w.params (Str.ofString "number"), .str (Str.ofString "number") t2, .int num u2⟩,
   ⟨PyData.keyHash w.params (Str.ofString "mark"), .str (Str.ofString "mark") t3, .int 0 u3⟩, ⟨PyData.keyHash w.params (Str.ofString "entries"), .str (Str.ofString "entries") t4, .ref eD⟩, ⟨PyData.keyHash w.params (Str.ofString "places"), .str (Str.ofString "places") t5, .ref pD⟩, ⟨PyData.keyHash w.params (Str.ofString "rows"), .str (Str.ofString "rows") t6, .ref rL⟩] n) ∈ news) : TabD w news x num eD pD rL

inductive ArrD (w : World) (news : List (Addr × Obj)) (x : Addr) (num : Int) : Prop where
  | mk (d : Addr) (t1 : Tok) (t2 : Tok) (t3 : Tok) (t4 : Tok) (t5 : Tok) (t6 : Tok) (u1 : Tok) (u2 : Tok) (u3 : Tok) (u4 : Tok) (n : Nat) (bA : Addr) (iA : Addr) (bT : Addr) (n2 : Nat) (n3 : Nat) (u5 : Tok) (u6 : Tok)
    (h1 : (x, instObj 222 d) ∈ news)
    (h2 : (d, dictOf [⟨PyData.keyHash w.params (Str.ofString "word"), .str (Str.ofString "word") t1, .str (Str.ofString "ARRAY") u1⟩, ⟨PyData.keyHash w.params (Str.ofString "number"), .str (Str.ofString "number") t2, .int num u2⟩,
   ⟨PyData.keyHash w.params (Str.ofString "mark"), .str (Str.ofString "mark") t3, .int 0 u3⟩, ⟨PyData.keyHash w.params (Str.ofString "told"), .str (Str.ofString "told") t4, .str (Str.ofString "3") u4⟩, ⟨PyData.keyHash w.params (Str.ofString "bounds"), .str (Str.ofString "bounds") t5, .ref bA⟩, ⟨PyData.keyHash w.params (Str.ofString "items"), .str (Str.ofString "items") t6, .ref iA⟩] n) ∈ news)
    (h3 : (bA, lstO [.ref bT] n2) ∈ news)
    (h4 : (bT, tupO [.int 1 u5, .int 3 u6] n3) ∈ news) : ArrD w news x num

theorem neC1 {L x : Nat} (h : L + 1 + 1 + 1 + 1 + 1 < x) : L + 1 ≠ x := by omega
theorem neC2 {L x : Nat} (h : L + 1 + 1 + 1 + 1 + 1 < x) : L + 1 + 1 ≠ x := by omega
theorem neC3 {L x : Nat} (h : L + 1 + 1 + 1 + 1 + 1 < x) : L + 1 + 1 + 1 ≠ x := by omega
theorem neC4 {L x : Nat} (h : L + 1 + 1 + 1 + 1 + 1 < x) : L + 1 + 1 + 1 + 1 ≠ x := by omega
theorem neC5 {L x : Nat} (h : L + 1 + 1 + 1 + 1 + 1 < x) : L + 1 + 1 + 1 + 1 + 1 ≠ x := by omega
theorem ne12 {L : Nat} : L + 1 ≠ L + 1 + 1 := by omega
theorem ne13 {L : Nat} : L + 1 ≠ L + 1 + 1 + 1 := by omega
theorem ne14 {L : Nat} : L + 1 ≠ L + 1 + 1 + 1 + 1 := by omega
theorem ne15 {L : Nat} : L + 1 ≠ L + 1 + 1 + 1 + 1 + 1 := by omega
theorem isC (n : Nat) {prog : Program} {w : World} {A : Around} {as : List Value} {Q E : Value → Shared → Prop} {s : Shared} (h : wpAny (model prog w) A (call (.ref n) as) Q E s) : wpAny (model prog w) A (call (.ref n) as) Q E s := h
theorem neLt {a b : Nat} (h : a < b) : a ≠ b := Nat.ne_of_lt h
theorem News.sub {h₀ h : Heap} {L : Addr} {l l' : List (Addr × Obj)} (N : News h₀ L h l) (hs : ∀ p ∈ l', p ∈ l) : News h₀ L h l' := fun p hp => N p (hs p hp)
theorem of_allLt {d : Addr} : ∀ {l : List (Addr × Obj)}, AllLt d l → ∀ p ∈ l, p.1 < d
  | [], _, _, h => nomatch h
  | _ :: _, x, p, h => by
    rcases List.mem_cons.mp h with rfl | h
    · exact x.1
    · exact of_allLt x.2 p h

local macro_rules | `(tactic| k_room) => `(tactic| ((simp only [depth_under_make, depth_under_kw, depth_in1, depth_deeper, depth_caller, ktr_depth, recursionLimit, Nat.add_assoc, Nat.reduceAdd]); first | exact Nat.lt_trans (Nat.add_lt_add_right (by assumption) _) (by decide) | exact Nat.lt_trans (by assumption) (by decide)))
local macro_rules | `(tactic| k_units) => `(tactic| ((try rw [cLine_is]); (simp only [units_in1, units_deeper, Around.mark_units, units_caller, ktr_units', units_under_cls, Nat.add_assoc, Nat.reduceAdd]); first | exact Nat.lt_trans (Nat.add_lt_add_right (by assumption) _) (by decide) | exact Nat.lt_trans (by assumption) (by decide)))
local macro_rules | `(tactic| ktr_unf) => `(tactic| first | assumption | exact of_allLt (And.right (by assumption)) | exact of_allLt (And.right (And.right (by assumption))) | exact of_allLt (And.right (And.right (And.right (by assumption)))) | exact of_allLt (And.right (And.right (And.right (And.right (by assumption))))) | exact of_allLt (And.right (And.right (And.right (And.right (And.right (by assumption)))))))
local macro_rules | `(tactic| walk_at "ne") => `(tactic| with_reducible first | assumption | (refine neLt ?_; assumption) | (refine neC1 ?_; assumption) | (refine neC2 ?_; assumption) | (refine neC3 ?_; assumption) | (refine neC4 ?_; assumption) | (refine neC5 ?_; assumption) | exact ne12 | exact ne13 | exact ne14 | exact ne15)
local macro_rules | `(tactic| k_ne) => `(tactic| ((try dsimp only); first | walk_at "ne" | (refine Ne.symm ?_; walk_at "ne") | (refine neN ?_; omega)))
local macro_rules | `(tactic| k_all) => `(tactic| first | assumption | exact List.forall_mem_nil _ | (refine' List.forall_mem_cons.mpr ⟨?a, ?b⟩; (case a => k_ne); (case b => k_all)))
local macro_rules | `(tactic| k_mem) => `(tactic| first | with_reducible exact List.mem_cons_self | ktr_member | exact List.mem_cons_self | (refine' List.mem_cons_of_mem _ ?_; k_mem) | (refine' List.mem_append_right _ ?_; k_mem) | (refine' List.mem_append_left _ ?_; k_mem))
local macro_rules | `(tactic| ktr_rel) => `(tactic| first | with_reducible exact fun _ hp => hp | with_reducible exact fun _ hp => List.mem_cons_of_mem _ hp | (intro p hp; ((repeat (first | with_reducible exact hp | with_reducible refine List.mem_cons_of_mem _ ?_ | with_reducible refine List.mem_append_right _ ?_)); done)) | (refine List.forall_mem_cons.mpr ⟨?_, List.forall_mem_nil _⟩; k_mem) | kcf_all)
local macro_rules | `(tactic| kcf_m) => `(tactic| first | with_reducible assumption | k_mem)
local macro_rules | `(tactic| walk_at "bfx") => `(tactic| (rotate_left; k_asm; rotate_left; k_asm; k_asm; rotate_right 2; k_asm; k_asm; (first | k_room | omega); (first | k_units | omega)))
theorem off_B2 : True := by
  w_top off
  exact True.intro
section
variable {w : World} {dp un : Nat} {gd : Option (List Code)} {cn : Str} {nm : List (Str × NameKind)} {ig ic : Bool} {mo : List (Str × Const)} {a : Addr} {ccd : Value} {cl : List (Str × Addr)} {outer : List Env} {A₀ : Around} {base h₀ : Heap} {L : Addr} {m : Str → Option Value} {news : List (Addr × Obj)} {s : Shared}
    {loose : List Str} {mean : ExcName → Option Value} {mg mb : Str → Option Value} {Q E : Value → Shared → Prop}
    (B : Below A₀ base outer h₀) (F : Fr h₀ L s.heap m) (X : (pre.heap_1 w.params).In h₀) (N : News h₀ L s.heap news) (T : Top pre.view_1 loose mean mg mb h₀) (hdp : dp < 900) (hun : un < 9000)
include B F X N T hdp hun

theorem call_tkey_whole {i : Int} {u : Tok} 
    (k : ∀ h' tk' x t1 t2 n news', Fr h₀ L h' m → News h₀ L h' news' → (x, tupO [.str (Str.ofString "INTEGER") t1, .int i t2] n) ∈ news' → (∀ p ∈ news, p ∈ news') → (∀ p ∈ news, p.1 < x) → Q (.ref x) { s with heap := h', toks := tk' }) :
    wpAny (model (RowW.prog (OpenRow.toRowW (OpenLaw.row PySem.Challenge.rw_rh0225_01))) w) (ktrTop dp un gd cn ⟨.function, nm, ig, ic, mo⟩ L a ccd cl outer) (call (.ref 205) [.int i u]) Q E s := by
  have X₁ : (pre.heap_1 w.params).In s.heap := X.keeps F.keep
  k_steps
  exact k _ _ _ _ _ _ _ (by assumption) (by assumption) List.mem_cons_self (by ktr_rel) (by ktr_unf)
theorem call_tkey_text {i : Str} {u : Tok} 
    (k : ∀ h' tk' x t1 t2 n news', Fr h₀ L h' m → News h₀ L h' news' → (x, tupO [.str (Str.ofString "STRING") t1, .str i t2] n) ∈ news' → (∀ p ∈ news, p ∈ news') → (∀ p ∈ news, p.1 < x) → Q (.ref x) { s with heap := h', toks := tk' }) :
    wpAny (model (RowW.prog (OpenRow.toRowW (OpenLaw.row PySem.Challenge.rw_rh0225_01))) w) (ktrTop dp un gd cn ⟨.function, nm, ig, ic, mo⟩ L a ccd cl outer) (call (.ref 205) [.str i u]) Q E s := by
  have X₁ : (pre.heap_1 w.params).In s.heap := X.keeps F.keep
  k_steps
  exact k _ _ _ _ _ _ _ (by assumption) (by assumption) List.mem_cons_self (by ktr_rel) (by ktr_unf)
theorem call_tkey_var {y : Addr} {i : Str} {u : Tok} (h1 : RefD w news y (Str.ofString "var") .none (.str i u))
    (k : ∀ h' tk' x t1 t2 t3 t4 n news', Fr h₀ L h' m → News h₀ L h' news' → (x, tupO [.str (Str.ofString "NAME") t1, .str (Str.ofString "var") t2, .int 0 t3, .str i t4] n) ∈ news' → (∀ p ∈ news, p ∈ news') → (∀ p ∈ news, p.1 < x) → Q (.ref x) { s with heap := h', toks := tk' }) :
    wpAny (model (RowW.prog (OpenRow.toRowW (OpenLaw.row PySem.Challenge.rw_rh0225_01))) w) (ktrTop dp un gd cn ⟨.function, nm, ig, ic, mo⟩ L a ccd cl outer) (call (.ref 205) [.ref y]) Q E s := by
  have X₁ : (pre.heap_1 w.params).In s.heap := X.keeps F.keep
  obtain ⟨d1, _, _, _, _, _, h11, h12⟩ := h1
  k_steps
  exact k _ _ _ _ _ _ _ _ _ (by assumption) (by assumption) List.mem_cons_self (by ktr_rel) (by ktr_unf)
theorem call_tkey_tab {y ta eD pD rL : Addr} {num i : Int} {u : Tok} (h1 : RefD w news y (Str.ofString "item") (.ref ta) (.int i u)) (h2 : TabD w news ta num eD pD rL)
    (k : ∀ h' tk' x t1 t2 t3 t4 n news', Fr h₀ L h' m → News h₀ L h' news' → (x, tupO [.str (Str.ofString "NAME") t1, .str (Str.ofString "item") t2, .int num t3, .int i t4] n) ∈ news' → (∀ p ∈ news, p ∈ news') → (∀ p ∈ news, p.1 < x) → Q (.ref x) { s with heap := h', toks := tk' }) :
    wpAny (model (RowW.prog (OpenRow.toRowW (OpenLaw.row PySem.Challenge.rw_rh0225_01))) w) (ktrTop dp un gd cn ⟨.function, nm, ig, ic, mo⟩ L a ccd cl outer) (call (.ref 205) [.ref y]) Q E s := by
  have X₁ : (pre.heap_1 w.params).In s.heap := X.keeps F.keep
  obtain ⟨d1, _, _, _, _, _, h11, h12⟩ := h1
  obtain ⟨d3, _, _, _, _, _, _, _, _, _, _, h31, h32⟩ := h2
  k_steps
  exact k _ _ _ _ _ _ _ _ _ (by assumption) (by assumption) List.mem_cons_self (by ktr_rel) (by ktr_unf)
theorem call_tkey_arr {y ta : Addr} {num i : Int} {u : Tok} (h1 : RefD w news y (Str.ofString "item") (.ref ta) (.int i u)) (h2 : ArrD w news ta num)
    (k : ∀ h' tk' x t1 t2 t3 t4 n news', Fr h₀ L h' m → News h₀ L h' news' → (x, tupO [.str (Str.ofString "NAME") t1, .str (Str.ofString "item") t2, .int num t3, .int i t4] n) ∈ news' → (∀ p ∈ news, p ∈ news') → (∀ p ∈ news, p.1 < x) → Q (.ref x) { s with heap := h', toks := tk' }) :
    wpAny (model (RowW.prog (OpenRow.toRowW (OpenLaw.row PySem.Challenge.rw_rh0225_01))) w) (ktrTop dp un gd cn ⟨.function, nm, ig, ic, mo⟩ L a ccd cl outer) (call (.ref 205) [.ref y]) Q E s := by
  have X₁ : (pre.heap_1 w.params).In s.heap := X.keeps F.keep
  obtain ⟨d1, _, _, _, _, _, h11, h12⟩ := h1
  obtain ⟨d3, _, _, _, _, _, _, _, _, _, _, _, _, _, _, _, _, _, _, h31, h32, _, _⟩ := h2
  k_steps
  exact k _ _ _ _ _ _ _ _ _ (by assumption) (by assumption) List.mem_cons_self (by ktr_rel) (by ktr_unf)
end

theorem off_B3 : True := by
  w_top off
  exact True.intro
/-! ## dicts keyed by tuples, in the ledger -/
def MarkD (w : World) (news : List (Addr × Obj)) (k : List Scal) (a : Addr) : Prop :=
  ∃ items n, (a, tupO items n) ∈ news ∧ ItemsAre (scalKind (RowW.prog (OpenRow.toRowW (OpenLaw.row PySem.Challenge.rw_rh0225_01))) w) k items
noncomputable abbrev ents (w : World) (xs : List (List Scal × Addr × Value)) : List DictEntry := xs.map (entryOfKey (tk w))
structure DicM (w : World) (news : List (Addr × Obj)) (d : Addr) (xs : List (List Scal × Addr × Value)) : Prop where
  low : (d == sysModules) = false
  marks : ∀ x ∈ xs, MarkD w news x.1 x.2.1
  nodup : (xs.map (·.1)).Nodup
theorem MarkD.mono {w : World} {news news' : List (Addr × Obj)} {k : List Scal} {a : Addr} (h : MarkD w news k a) (hs : ∀ p ∈ news, p ∈ news') : MarkD w news' k a :=
  let ⟨i, n, hm, hi⟩ := h; ⟨i, n, hs _ hm, hi⟩
theorem MarkD.key {w : World} {h₀ h : Heap} {L : Addr} {news : List (Addr × Obj)} {k : List Scal} {a : Addr} (N : News h₀ L h news) (hm : MarkD w news k a) : (tk w).is h k a :=
  let ⟨i, n, hm, hi⟩ := hm; ⟨_, i.toArray, n, N.get hm, rfl, rfl, hi⟩
theorem DicM.dict {w : World} {h₀ h : Heap} {L d : Addr} {rest news : List (Addr × Obj)} {xs : List (List Scal × Addr × Value)} {ep : Nat} (N : News h₀ L h news) (hm : (d, dictOf (ents w xs) ep) ∈ news) (D : DicM w rest d xs) (hs : ∀ p ∈ rest, p ∈ news) : h.DictOfH (tk w) d xs :=
  ⟨_, (ents w xs).toArray, ep, N.get hm, ⟨rfl, rfl, rfl⟩, rfl, by simp, fun x hx => MarkD.key N ((D.marks x hx).mono hs), D.nodup⟩
theorem DicM.snoc {w : World} {rest : List (Addr × Obj)} {d a : Addr} {xs : List (List Scal × Addr × Value)} {k : List Scal} {v : Value} (D : DicM w rest d xs) (M : MarkD w rest k a) (hk : atKey xs k = none) : DicM w rest d (xs ++ [(k, a, v)]) := by
  refine ⟨D.low, fun x hx => ?_, ?_⟩
  · rcases List.mem_append.mp hx with h | h
    · exact D.marks x h
    · rw [List.mem_singleton.mp h]; exact M
  · rw [List.map_append, List.nodup_append]
    refine ⟨D.nodup, by simp, ?_⟩
    intro y hy z hz
    simp only [List.map_cons, List.map_nil, List.mem_singleton] at hz
    subst hz
    rintro rfl
    obtain ⟨x, hx, e⟩ := List.mem_map.mp hy
    have : (xs.find? fun x => decide (x.1 = y)) = none := by simpa [atKey] using hk
    exact absurd e (by simpa using List.find?_eq_none.mp this x hx)
theorem DicM.mono {w : World} {rest rest' : List (Addr × Obj)} {d : Addr} {xs : List (List Scal × Addr × Value)} (D : DicM w rest d xs) (hs : ∀ p ∈ rest, p ∈ rest') : DicM w rest' d xs := ⟨D.low, fun x hx => (D.marks x hx).mono hs, D.nodup⟩

theorem atKey_snoc {xs : List (List Scal × Addr × Value)} {k : List Scal} {a : Addr} {v : Value} (h : atKey xs k = none) : atKey (xs ++ [(k, a, v)]) k = some (a, v) := by
  have e : (xs.find? fun x => decide (x.1 = k)) = none := by simpa [atKey] using h
  simp [atKey, List.find?_append, e]
section
variable {w : World} {A : Around} {E : Value → Shared → Prop} {s : Shared} {h₀ : Heap} {L : Addr} {m : Str → Option Value} {news rest rest' : List (Addr × Obj)}
theorem notin_S {d a : Addr} {k : List Scal} {xs : List (List Scal × Addr × Value)} {ep : Nat} {b : Bool} {Q : Value → Shared → Prop} (hu : A.in1.units < cLine) (N : News h₀ L s.heap news) (hm : (d, dictOf (ents w xs) ep) ∈ news) (D : DicM w rest d xs) (hs : ∀ p ∈ rest, p ∈ news) (M : MarkD w rest' k a) (hs' : ∀ p ∈ rest', p ∈ news)
    (hb : (atKey xs k).isSome = b) (h : ∀ tk', Q (.bool (!b)) { s with toks := tk' }) : wpAny (model (RowW.prog (OpenRow.toRowW (OpenLaw.row PySem.Challenge.rw_rh0225_01))) w) A (compareOp .NotIn (.ref a) (.ref d)) Q E s :=
  wpAny_notIn_heap (knd := tk w) hu ((M.mono hs').key N) D.low (D.dict N hm hs) (by rw [hb]; exact h _)
theorem notin_new {d a : Addr} {k : List Scal} {xs : List (List Scal × Addr × Value)} {ep : Nat} {Q : Value → Shared → Prop} (hu : A.in1.units < cLine) (N : News h₀ L s.heap news) (hm : (d, dictOf (ents w xs) ep) ∈ news) (D : DicM w rest d xs) (hs : ∀ p ∈ rest, p ∈ news) (M : MarkD w rest' k a) (hs' : ∀ p ∈ rest', p ∈ news)
    (hk : atKey xs k = none) (h : ∀ tk', Q (.bool true) { s with toks := tk' }) : wpAny (model (RowW.prog (OpenRow.toRowW (OpenLaw.row PySem.Challenge.rw_rh0225_01))) w) A (compareOp .NotIn (.ref a) (.ref d)) Q E s :=
  notin_S (b := false) hu N hm D hs M hs' (by rw [hk]; rfl) h
theorem notin_old {d a : Addr} {k : List Scal} {xs : List (List Scal × Addr × Value)} {p : Addr × Value} {ep : Nat} {Q : Value → Shared → Prop} (hu : A.in1.units < cLine) (N : News h₀ L s.heap news) (hm : (d, dictOf (ents w xs) ep) ∈ news) (D : DicM w rest d xs) (hs : ∀ p ∈ rest, p ∈ news) (M : MarkD w rest' k a) (hs' : ∀ p ∈ rest', p ∈ news)
    (hk : atKey xs k = some p) (h : ∀ tk', Q (.bool false) { s with toks := tk' }) : wpAny (model (RowW.prog (OpenRow.toRowW (OpenLaw.row PySem.Challenge.rw_rh0225_01))) w) A (compareOp .NotIn (.ref a) (.ref d)) Q E s :=
  notin_S (b := true) hu N hm D hs M hs' (by rw [hk]; rfl) h
theorem getTail_S {d a : Addr} {k : List Scal} {xs : List (List Scal × Addr × Value)} {p : Addr × Value} {ep : Nat} {value slice : Expr} {Q : Value → Shared → Prop} (hu : A.in1.units < cLine) (N : News h₀ L s.heap news) (hm : (d, dictOf (ents w xs) ep) ∈ news) (D : DicM w rest d xs) (hs : ∀ p ∈ rest, p ∈ news) (M : MarkD w rest' k a) (hs' : ∀ p ∈ rest', p ∈ news)
    (hp : atKey xs k = some p) (h : ∀ tk', Q p.2 { s with toks := tk' })
    (h1 : subscripted slice false (.ref d) (.ref a) = operate [.ref d, .ref a] (getItem (.ref d) (.ref a)) := by with_unfolding_all rfl) :
    wpAny (model (RowW.prog (OpenRow.toRowW (OpenLaw.row PySem.Challenge.rw_rh0225_01))) w) A (subscriptTail value slice (.ref d) (.ref a)) Q E s :=
  tail_any (D.dict N hm hs).typeIs slot_dict_getitem.lookup (wpAny_getItem_heap (knd := tk w) hu ((M.mono hs').key N) (D.dict N hm hs) hp (h _)) h1
theorem setItem_S {d a : Addr} {k : List Scal} {xs : List (List Scal × Addr × Value)} {v : Value} {g : Obj → List (Addr × Obj)} {ep : Nat} {Q : Unit → Shared → Prop} (hu : A.in1.units < cLine) (F : Fr h₀ L s.heap m) (N : News h₀ L s.heap news) (U : UpdF d (dictOf (ents w xs) ep) news g)
    (hm : (d, dictOf (ents w xs) ep) ∈ news) (D : DicM w rest d xs) (hsub : ∀ p ∈ rest, p ∈ news) (M : MarkD w rest' k a) (hsub' : ∀ p ∈ rest', p ∈ news) (hk : atKey xs k = none)
    (h : ∀ h' tk' ep', Fr h₀ L h' m → News h₀ L h' (g (dictOf (ents w (xs ++ [(k, a, v)])) ep')) → DicM w (rest' ++ rest) d (xs ++ [(k, a, v)]) → atKey (xs ++ [(k, a, v)]) k = some (a, v) → Q () { s with heap := h', toks := tk' })
    (hsz : xs.length ≤ sizeLine) : wpAny (model (RowW.prog (OpenRow.toRowW (OpenLaw.row PySem.Challenge.rw_rh0225_01))) w) A (setItem (.ref d) (.ref a) v) Q E s := by
  have hdm := hm
  refine wpAny_setItem_heap (knd := tk w) hu ((M.mono hsub').key N) (D.dict N hm hsub) (fun h' hD hs => ?_) hsz
  obtain ⟨pre, post, hn, hg, a1, a2⟩ := U.split
  rw [storedH_new hk] at hD
  obtain ⟨o', es', ep', ho', hx, hd', he', _, _⟩ := hD
  have eo : o' = dictOf (ents w (xs ++ [(k, a, v)])) ep' := by
    obtain ⟨c, dd, dt, sl⟩ := o'
    obtain ⟨e1, e2, e3⟩ := hx
    simp only at e1 e2 e3 hd'
    subst e1 e2 e3 hd'
    have e9 : es' = (ents w (xs ++ [(k, a, v)])).toArray := by have := congrArg List.toArray he'; simpa using this
    rw [e9]
  subst eo
  have hL : d ≠ L := (N _ hdm).2.1
  have h0 : h₀.get? d = none := (N _ hdm).2.2
  refine h h' _ ep' (F.change hs hL h0) ?_ ((D.mono fun p hp => List.mem_append_right _ hp).snoc (M.mono fun p hp => List.mem_append_left _ hp) hk) (atKey_snoc hk)
  rw [hg]
  subst hn
  intro p hp
  rcases List.mem_append.mp hp with q | q
  · have P := N p (List.mem_append_left _ q); exact ⟨(hs.2 _ (a1 p q)).trans P.1, P.2⟩
  · rcases List.mem_cons.mp q with rfl | q
    · exact ⟨ho', hL, h0⟩
    · have P := N p (List.mem_append_right _ (.tail _ q)); exact ⟨(hs.2 _ (a2 p q)).trans P.1, P.2⟩
end

/-! ## lists in the ledger -/
section
variable {prog : Program} {w : World} {A : Around} {E : Value → Shared → Prop} {s : Shared} {h₀ : Heap} {L : Addr} {m : Str → Option Value} {news : List (Addr × Obj)}
theorem len_S {l : Addr} {vs : List Value} {n : Nat} {Q : Value → Shared → Prop} (N : News h₀ L s.heap news) (hl : (l, lstO vs n) ∈ news) (hz : vs.length ≤ 1000)
    (h : ∀ t tk', Q (.int (vs.length : Int) t) { s with toks := tk' }) : wpAny (model prog w) A (call (.builtin "len") [.ref l]) Q E s :=
  len_list (News.isList N hl) (by rw [List.size_toArray]; omega) (by rw [List.size_toArray]; exact h _ _)
theorem item_S {l : Addr} {vs : List Value} {n : Nat} {i : Int} {t : Tok} {x : Value} {value slice : Expr} {Q : Value → Shared → Prop} (N : News h₀ L s.heap news) (hl : (l, lstO vs n) ∈ news) (hx : vs[i.toNat]? = some x) (h0 : 0 ≤ i) (h1 : i < 1000) (h : Q x s)
    (hs : subscripted slice false (.ref l) (.int i t) = operate [.ref l, .int i t] (getItem (.ref l) (.int i t)) := by with_unfolding_all rfl) :
    wpAny (model prog w) A (subscriptTail value slice (.ref l) (.int i t)) Q E s :=
  tail_any (News.isList N hl).typeIs slot_list_getitem.lookup (wpAny_getItem_list (News.isList N hl) h0 (by omega) (by simpa using hx) h) hs
theorem append_S {l : Addr} {vs : List Value} {n : Nat} {x : Value} {g : Obj → List (Addr × Obj)} {Q : Value → Shared → Prop} (F : Fr h₀ L s.heap m) (N : News h₀ L s.heap news) (U : UpdF l (lstO vs n) news g) (hz : vs.length ≤ 1000)
    (h : ∀ h' n', Fr h₀ L h' m → News h₀ L h' (g (lstO (vs ++ [x]) n')) → Q .none { s with heap := h' }) : wpAny (model prog w) A (call (.builtin "list.append") [.ref l, x]) Q E s := by
  obtain ⟨pre, post, rfl, hg, a1, a2⟩ := U.split
  have z := N (l, lstO vs n) (List.mem_append.mpr (.inr (.head _)))
  refine append_at (hsz := by rw [List.size_toArray, sizeLine_eq]; omega) z.1 fun h' hs ho' => h h' (n + 1) (F.change hs z.2.1 z.2.2) ?_
  rw [hg]
  have e : ({ cls := .type "list", data := .seq (vs.toArray.push x) (n + 1) } : Obj) = lstO (vs ++ [x]) (n + 1) := by simp [lstO]
  rw [e] at ho'
  exact news_set N a1 a2 hs ho'
theorem setAt_S {l : Addr} {vs : List Value} {n : Nat} {i : Int} {t : Tok} {x : Value} {g : Obj → List (Addr × Obj)} {Q : Unit → Shared → Prop} (F : Fr h₀ L s.heap m) (N : News h₀ L s.heap news) (U : UpdF l (lstO vs n) news g) (hz : vs.length ≤ 1000) (h0 : 0 ≤ i) (h1 : i < vs.length)
    (h : ∀ h' n', Fr h₀ L h' m → News h₀ L h' (g (lstO (vs.set i.toNat x) n')) → Q () { s with heap := h' }) : wpAny (model prog w) A (setItem (.ref l) (.int i t) x) Q E s := by
  obtain ⟨pre, post, rfl, hg, a1, a2⟩ := U.split
  have z := N (l, lstO vs n) (List.mem_append.mpr (.inr (.head _)))
  refine ki_setAt z.1 h0 (by omega) (by rw [List.size_toArray]; exact h1) (h _ n (F.change (Heap.SameBut.update ..) z.2.1 z.2.2) ?_)
  rw [hg]
  refine ki_turn _ N a1 a2 ?_ ?_
  · show vs.toArray.setIfInBounds i.toNat x = (vs.set i.toNat x).toArray
    apply Array.toList_inj.mp
    simp
  · simp
end


local macro_rules | `(tactic| walk_at "nmd") => `(tactic| (rotate_left; k_asm; (focus k_mem); k_asm; rotate_left; k_asm; rotate_left; k_asm))
local macro_rules | `(tactic| walk_at "ust") => `(tactic| (k_units; (focus ktr_rel); (focus ktr_rel)))
local macro_rules | `(tactic| walk_at "setItem ref ref") => `(tactic| (k_here; k_dflt (apply setItem_S; rotate_left 2; k_asm; rotate_left; (focus k_mem); k_asm; rotate_right 3; k_units; k_asm; (focus k_updF); rotate_left; k_asm; (focus ktr_rel); k_asm; rotate_left; (exact Nat.le_trans (by assumption) (by rw [sizeLine_eq]; decide)); rotate_right 2; (focus ktr_rel)); intro h' tk' ep' F' N' hD' hk'; (try dsimp only at N'); (try k_sweep)))
local macro_rules | `(tactic| walk_at "compareOp NotIn ref ref") => `(tactic| (k_here; k_dflt (first | (apply notin_new; walk_at "nmd"; rotate_right 3; walk_at "ust") | (apply notin_old; walk_at "nmd"; rotate_right 3; walk_at "ust")); intro _; (try k_sweep)))
local macro_rules | `(tactic| walk_at "subscriptTail") => `(tactic| (k_here; (with_reducible show wpAny _ _ (subscriptTail _ _ (Value.ref _) (Value.ref _)) _ _ _); k_dflt (apply getTail_S; walk_at "nmd"; rotate_left; (with_unfolding_all rfl); rotate_right 4; walk_at "ust"); intro _; (try dsimp only); (try k_sweep)))
local macro_rules | `(tactic| walk_at "call builtin:len") => `(tactic| (k_here; (with_reducible show wpAny _ _ (call _ [Value.ref _]) _ _ _); k_dflt (apply len_S; k_asm; (focus k_mem); (first | k_asm | decide); k_whole); intro _ _))
local macro_rules | `(tactic| walk_at "call builtin:list.append") => `(tactic| (k_here; k_dflt (apply append_S; k_asm; k_asm; (focus k_updF); (first | k_asm | decide | omega); k_whole); intro h' n' F' N'; (try dsimp only at N'); (try k_sweep)))
local macro_rules | `(tactic| walk_at "subscriptTail") => `(tactic| (k_here; (with_reducible show wpAny _ _ (subscriptTail _ _ (Value.ref _) (Value.int _ _)) _ _ _); k_dflt (apply item_S; k_asm; (focus k_mem); (first | with_reducible assumption | rfl); (first | with_reducible assumption | decide); (first | with_reducible assumption | decide); rotate_left; (with_unfolding_all rfl); rotate_right); (try dsimp only); (try k_sweep)))
local macro_rules | `(tactic| walk_at "setItem ref int") => `(tactic| (k_here; k_dflt (apply setAt_S; k_asm; k_asm; (focus k_updF); iterate 3 (first | with_reducible assumption | decide | (simp only [List.length_map, List.length_append, List.length_cons, List.length_nil]; omega) | omega)); intro h' n' F' N'; (try dsimp only at N'); (try k_sweep)))
theorem off_B4 : True := by
  w_top off
  exact True.intro
section
variable {w : World} {dp un : Nat} {gd : Option (List Code)} {cn : Str} {nm : List (Str × NameKind)} {ig ic : Bool} {mo : List (Str × Const)} {a : Addr} {ccd : Value} {cl : List (Str × Addr)} {outer : List Env} {A₀ : Around} {base h₀ : Heap} {L : Addr} {m : Str → Option Value} {news : List (Addr × Obj)} {s : Shared}
    {loose : List Str} {mean : ExcName → Option Value} {mg mb : Str → Option Value} {Q E : Value → Shared → Prop}
    (B : Below A₀ base outer h₀) (F : Fr h₀ L s.heap m) (X : (pre.heap_1 w.params).In h₀) (N : News h₀ L s.heap news) (T : Top pre.view_1 loose mean mg mb h₀) (hdp : dp < 900) (hun : un < 9000)
include B F X N T hdp hun


theorem call_put {t eD pD rL mk pr : Addr} {num : Int} {rest : List (Addr × Obj)} {xs ys : List (List Scal × Addr × Value)} {e1 e2 n : Nat} {vs : List Value} {kk : List Scal}
    (hn : news = (eD, dictOf (ents w xs) e1) :: (pD, dictOf (ents w ys) e2) :: (rL, lstO vs n) :: rest) (o1 : eD ≠ pD) (o2 : eD ≠ rL) (o3 : pD ≠ rL) (o4 : ∀ p ∈ rest, p.1 ≠ eD) (o5 : ∀ p ∈ rest, p.1 ≠ pD) (o6 : ∀ p ∈ rest, p.1 ≠ rL)
    (h1 : TabD w rest t num eD pD rL) (D1 : DicM w rest eD xs) (D2 : DicM w rest pD ys) (hk1 : atKey xs kk = none) (hk2 : atKey ys kk = none) (hM : MarkD w rest kk mk) (hz1 : xs.length ≤ 1000) (hz2 : ys.length ≤ 1000) (hz3 : vs.length ≤ 1000)
    (k : ∀ h' tk' e1' e2' n' u, Fr h₀ L h' m → News h₀ L h' ((eD, dictOf (ents w (xs ++ [(kk, mk, .ref pr)])) e1') :: (pD, dictOf (ents w (ys ++ [(kk, mk, .int (vs.length : Int) u)])) e2') :: (rL, lstO (vs ++ [.ref pr]) n') :: rest) → Q .none { s with heap := h', toks := tk' }) :
    wpAny (model (RowW.prog (OpenRow.toRowW (OpenLaw.row PySem.Challenge.rw_rh0225_01))) w) (ktrTop dp un gd cn ⟨.function, nm, ig, ic, mo⟩ L a ccd cl outer) (call (.ref 290) [.ref t, .ref mk, .ref pr]) Q E s := by
  have X₁ : (pre.heap_1 w.params).In s.heap := X.keeps F.keep
  obtain ⟨d3, _, _, _, _, _, _, _, _, _, _, h31, h32⟩ := h1
  subst hn
  k_steps
  exact k _ _ _ _ _ _ (by assumption) (by assumption)
end

theorem off_B5 : True := by
  w_top off
  exact True.intro
/-! ## what a key is -/
inductive Tag where
  | whole (n : Nat)
  | text (n : Nat)
  | var (n : Nat)
  | arr (n : Nat)
  | item (n : Nat)
  deriving DecidableEq
noncomputable def dig : Nat → Str
  | 0 => Str.ofString "0"
  | 1 => Str.ofString "1"
  | _ => Str.ofString "2"
noncomputable def xyz : Nat → Str
  | 0 => Str.ofString "X"
  | 1 => Str.ofString "Y"
  | _ => Str.ofString "Z"
noncomputable def Tag.key : Tag → List Scal
  | .whole n => [.s (Str.ofString "INTEGER"), .i (n : Int)]
  | .text n => [.s (Str.ofString "STRING"), .s (dig n)]
  | .var n => [.s (Str.ofString "NAME"), .s (Str.ofString "var"), .i 0, .s (xyz n)]
  | .arr n => [.s (Str.ofString "NAME"), .s (Str.ofString "item"), .i 6, .i (n : Int)]
  | .item n => [.s (Str.ofString "NAME"), .s (Str.ofString "item"), .i 5, .i (n : Int)]
noncomputable def Tag.tup : Tag → List Scal
  | .whole n => [.s (Str.ofString "whole"), .i (n : Int)]
  | .text n => [.s (Str.ofString "text"), .i (n : Int)]
  | .var n => [.s (Str.ofString "var"), .i (n : Int)]
  | .arr n => [.s (Str.ofString "array"), .i (n : Int)]
  | .item n => [.s (Str.ofString "item"), .i (n : Int)]
def Tag.ok : Tag → Prop
  | .whole n => n < 3
  | .text n => n < 3
  | .var n => n < 3
  | .arr n => n < 3
  | .item _ => True
/-- kv is a value whose table_key is tg's key -/
def KeyV (w : World) (news : List (Addr × Obj)) (t ar : Addr) (kv : Value) : Tag → Prop
  | .whole n => ∃ u, kv = .int (n : Int) u
  | .text n => ∃ u, kv = .str (dig n) u
  | .var n => ∃ x u, kv = .ref x ∧ RefD w news x (Str.ofString "var") .none (.str (xyz n) u)
  | .arr n => ∃ x u, kv = .ref x ∧ RefD w news x (Str.ofString "item") (.ref ar) (.int (n : Int) u)
  | .item n => ∃ x u, kv = .ref x ∧ RefD w news x (Str.ofString "item") (.ref t) (.int (n : Int) u)
theorem refd_mk {w : World} {own : List (Addr × Obj)} {x d : Addr} {kd : Str} {ow key : Value} {t1 t2 t3 u : Tok} {n : Nat} :
    RefD w ((x, instObj 117 d) :: (d, dictOf [⟨PyData.keyHash w.params (Str.ofString "kind"), .str (Str.ofString "kind") t1, .str kd u⟩, ⟨PyData.keyHash w.params (Str.ofString "owner"), .str (Str.ofString "owner") t2, ow⟩, ⟨PyData.keyHash w.params (Str.ofString "key"), .str (Str.ofString "key") t3, key⟩] n) :: own) x kd ow key :=
  ⟨_, _, _, _, _, _, List.mem_cons_self, List.mem_cons_of_mem _ List.mem_cons_self⟩
theorem RefD.mono {w : World} {news news' : List (Addr × Obj)} {x : Addr} {kd : Str} {ow key : Value} (h : RefD w news x kd ow key) (hs : ∀ p ∈ news, p ∈ news') : RefD w news' x kd ow key :=
  let ⟨d, t1, t2, t3, u, n, a, b⟩ := h; ⟨d, t1, t2, t3, u, n, hs _ a, hs _ b⟩
theorem TabD.mono {w : World} {news news' : List (Addr × Obj)} {x eD pD rL : Addr} {n : Int} (h : TabD w news x n eD pD rL) (hs : ∀ p ∈ news, p ∈ news') : TabD w news' x n eD pD rL :=
  let ⟨d, t1, t2, t3, t4, t5, t6, u1, u2, u3, n, a, b⟩ := h; ⟨d, t1, t2, t3, t4, t5, t6, u1, u2, u3, n, hs _ a, hs _ b⟩
theorem ArrD.mono {w : World} {news news' : List (Addr × Obj)} {x : Addr} {n : Int} (h : ArrD w news x n) (hs : ∀ p ∈ news, p ∈ news') : ArrD w news' x n :=
  let ⟨d, t1, t2, t3, t4, t5, t6, u1, u2, u3, u4, n, bA, iA, bT, n2, n3, u5, u6, a, b, c, e⟩ := h; ⟨d, t1, t2, t3, t4, t5, t6, u1, u2, u3, u4, n, bA, iA, bT, n2, n3, u5, u6, hs _ a, hs _ b, hs _ c, hs _ e⟩
theorem KeyV.mono {w : World} {news news' : List (Addr × Obj)} {t ar : Addr} {kv : Value} {tg : Tag} (h : KeyV w news t ar kv tg) (hs : ∀ p ∈ news, p ∈ news') : KeyV w news' t ar kv tg := by
  cases tg with
  | whole n => exact h
  | text n => exact h
  | var n => obtain ⟨x, u, e, r⟩ := h; exact ⟨x, u, e, r.mono hs⟩
  | arr n => obtain ⟨x, u, e, r⟩ := h; exact ⟨x, u, e, r.mono hs⟩
  | item n => obtain ⟨x, u, e, r⟩ := h; exact ⟨x, u, e, r.mono hs⟩
theorem sub_cons {news news' : List (Addr × Obj)} {p : Addr × Obj} (h : p ∈ news') (hs : ∀ q ∈ news, q ∈ news') : ∀ q ∈ p :: news, q ∈ news' := fun q hq => by
  rcases List.mem_cons.mp hq with rfl | hq
  · exact h
  · exact hs q hq
theorem is_int {prog : Program} {w : World} {n : Int} {t : Tok} : (scalKind prog w).is (.i n) (.int n t) = true := by show Value.isInt n (.int n t) = true; simp [Value.isInt]
theorem is_str {prog : Program} {w : World} {x : Str} {t : Tok} : (scalKind prog w).is (.s x) (.str x t) = true := by show Value.isStrOf x (.str x t) = true; simp [Value.isStrOf]
section
variable {w : World} {dp un : Nat} {gd : Option (List Code)} {cn : Str} {nm : List (Str × NameKind)} {ig ic : Bool} {mo : List (Str × Const)} {a : Addr} {ccd : Value} {cl : List (Str × Addr)} {outer : List Env} {A₀ : Around} {base h₀ : Heap} {L : Addr} {m : Str → Option Value} {news : List (Addr × Obj)} {s : Shared}
    {loose : List Str} {mean : ExcName → Option Value} {mg mb : Str → Option Value} {Q E : Value → Shared → Prop}
    (B : Below A₀ base outer h₀) (F : Fr h₀ L s.heap m) (X : (pre.heap_1 w.params).In h₀) (N : News h₀ L s.heap news) (T : Top pre.view_1 loose mean mg mb h₀) (hdp : dp < 900) (hun : un < 9000)
include B F X N T hdp hun


omit B F X N T hdp hun in
theorem mark_one {x : Addr} {items : List Value} {n : Nat} {kk : List Scal} (h : ItemsAre (scalKind (RowW.prog (OpenRow.toRowW (OpenLaw.row PySem.Challenge.rw_rh0225_01))) w) kk items) : MarkD w [(x, tupO items n)] kk x := ⟨items, n, List.mem_singleton.mpr rfl, h⟩
theorem call_tkey {t ar eD pD rL : Addr} {kv : Value} {tg : Tag} (hK : KeyV w news t ar kv tg) (hT : TabD w news t 5 eD pD rL) (hA : ArrD w news ar 6)
    (k : ∀ h' tk' x items n, Fr h₀ L h' m → News h₀ L h' ((x, tupO items n) :: news) → (∀ p ∈ news, p.1 < x) → ItemsAre (scalKind (RowW.prog (OpenRow.toRowW (OpenLaw.row PySem.Challenge.rw_rh0225_01))) w) tg.key items → Q (.ref x) { s with heap := h', toks := tk' }) :
    wpAny (model (RowW.prog (OpenRow.toRowW (OpenLaw.row PySem.Challenge.rw_rh0225_01))) w) (ktrTop dp un gd cn ⟨.function, nm, ig, ic, mo⟩ L a ccd cl outer) (call (.ref 205) [kv]) Q E s := by
  cases tg with
  | whole n =>
    obtain ⟨u, rfl⟩ := hK
    exact call_tkey_whole B F X N T hdp hun fun h' tk' x t1 t2 n news' F' N' hm hs hl => k h' tk' x _ n F' (News.sub N' (sub_cons hm hs)) hl (.cons is_str (.cons is_int .nil))
  | text n =>
    obtain ⟨u, rfl⟩ := hK
    exact call_tkey_text B F X N T hdp hun fun h' tk' x t1 t2 n news' F' N' hm hs hl => k h' tk' x _ n F' (News.sub N' (sub_cons hm hs)) hl (.cons is_str (.cons is_str .nil))
  | var n =>
    obtain ⟨y, u, rfl, hr⟩ := hK
    exact call_tkey_var B F X N T hdp hun hr fun h' tk' x t1 t2 t3 t4 n news' F' N' hm hs hl => k h' tk' x _ n F' (News.sub N' (sub_cons hm hs)) hl (.cons is_str (.cons is_str (.cons is_int (.cons is_str .nil))))
  | arr n =>
    obtain ⟨y, u, rfl, hr⟩ := hK
    exact call_tkey_arr B F X N T hdp hun hr hA fun h' tk' x t1 t2 t3 t4 n news' F' N' hm hs hl => k h' tk' x _ n F' (News.sub N' (sub_cons hm hs)) hl (.cons is_str (.cons is_str (.cons is_int (.cons is_int .nil))))
  | item n =>
    obtain ⟨y, u, rfl, hr⟩ := hK
    exact call_tkey_tab B F X N T hdp hun hr hT fun h' tk' x t1 t2 t3 t4 n news' F' N' hm hs hl => k h' tk' x _ n F' (News.sub N' (sub_cons hm hs)) hl (.cons is_str (.cons is_str (.cons is_int (.cons is_int .nil))))
end

local macro_rules | `(tactic| walk_at "mono") => `(tactic| first | exact RefD.mono (by k_asm) (by ktr_rel) | exact KeyV.mono (by k_asm) (by ktr_rel) | exact TabD.mono (by k_asm) (by ktr_rel) | exact ArrD.mono (by k_asm) (by ktr_rel) | exact DicM.mono (by k_asm) (by ktr_rel))
local macro_rules | `(tactic| walk_at "call ref") => `(tactic| (k_here; (with_reducible refine isC 205 ?_); k_dflt (apply call_tkey; walk_at "bfx"; walk_at "mono"; walk_at "mono"; walk_at "mono"); intro h' tk' x' items' n' F' N' l1 hI'; (try k_lt l1); (have hM' := mark_one (x := x') (n := n') hI'); (try k_sweep)))
theorem off_B6 : True := by
  w_top off
  exact True.intro
section
variable {w : World} {dp un : Nat} {gd : Option (List Code)} {cn : Str} {nm : List (Str × NameKind)} {ig ic : Bool} {mo : List (Str × Const)} {a : Addr} {ccd : Value} {cl : List (Str × Addr)} {outer : List Env} {A₀ : Around} {base h₀ : Heap} {L : Addr} {m : Str → Option Value} {news : List (Addr × Obj)} {s : Shared}
    {loose : List Str} {mean : ExcName → Option Value} {mg mb : Str → Option Value} {Q E : Value → Shared → Prop}
    (B : Below A₀ base outer h₀) (F : Fr h₀ L s.heap m) (X : (pre.heap_1 w.params).In h₀) (N : News h₀ L s.heap news) (T : Top pre.view_1 loose mean mg mb h₀) (hdp : dp < 900) (hun : un < 9000)
include B F X N T hdp hun


theorem call_NameRef {kd : Str} {u : Tok} {ow key : Value}
    (k : ∀ h' tk' x d t1 t2 t3 n, Fr h₀ L h' m → News h₀ L h' ((x, instObj 117 d) :: (d, dictOf [⟨PyData.keyHash w.params (Str.ofString "kind"), .str (Str.ofString "kind") t1, .str kd u⟩, ⟨PyData.keyHash w.params (Str.ofString "owner"), .str (Str.ofString "owner") t2, ow⟩, ⟨PyData.keyHash w.params (Str.ofString "key"), .str (Str.ofString "key") t3, key⟩] n) :: news) → (∀ p ∈ news, p.1 < d) → @LT.lt Nat _ d x → Q (.ref x) { s with heap := h', toks := tk' }) :
    wpAny (model (RowW.prog (OpenRow.toRowW (OpenLaw.row PySem.Challenge.rw_rh0225_01))) w) (ktrTop dp un gd cn ⟨.function, nm, ig, ic, mo⟩ L a ccd cl outer) (call (.ref 117) [.str kd u, ow, key]) Q E s := by
  have X₁ : (pre.heap_1 w.params).In s.heap := X.keeps F.keep
  k_steps
  exact k _ _ _ _ _ _ _ _ (by assumption) (by assumption) (by assumption) (by assumption)
end

local macro_rules | `(tactic| walk_at "call ref") => `(tactic| (k_here; (with_reducible refine isC 117 ?_); k_dflt (apply call_NameRef; walk_at "bfx"); intro h' tk' x' d' t1 t2 t3 n' F' N' l1 l2; (try k_lt l1); (try k_lt2 l2); (try k_sweep)))
theorem off_B7 : True := by
  w_top off
  exact True.intro
/-- what table_entry does to the dicts and the rows: nothing, or one entry more -/
inductive PutR (w : World) (key : List Scal) (kv : Value) (news : List (Addr × Obj)) (xs ys : List (List Scal × Addr × Value)) (vs : List Value) : List (Addr × Obj) → List (List Scal × Addr × Value) → List (List Scal × Addr × Value) → List Value → Addr → Int → Tok → Prop
  | old {own : List (Addr × Obj)} {m2 : Addr} {i : Int} {u : Tok} : atKey ys key = some (m2, .int i u) → PutR w key kv news xs ys vs own xs ys vs m2 i u
  | new {own : List (Addr × Obj)} {mk pr : Addr} {u u3 : Tok} {n2 : Nat} : atKey xs key = none → atKey ys key = none → (pr, lstO [kv, .str (Str.ofString "") u3] n2) ∈ own → MarkD w own key mk → (∀ p ∈ news, p.1 < pr) → (∀ p ∈ news, p.1 < mk) →
      PutR w key kv news xs ys vs own (xs ++ [(key, mk, .ref pr)]) (ys ++ [(key, mk, .int (vs.length : Int) u)]) (vs ++ [.ref pr]) mk (vs.length : Int) u
theorem PutR.weaken {w : World} {key : List Scal} {kv : Value} {news own news2 own2 : List (Addr × Obj)} {xs ys xs' ys' : List (List Scal × Addr × Value)} {vs vs' : List Value} {m2 : Addr} {i : Int} {u : Tok} (h : PutR w key kv news xs ys vs own xs' ys' vs' m2 i u) (ho : ∀ p ∈ own, p ∈ own2) (hn : ∀ p ∈ news2, p ∈ news) : PutR w key kv news2 xs ys vs own2 xs' ys' vs' m2 i u := by
  cases h with
  | old h => exact .old h
  | new h1 h2 h3 h4 h5 h6 => exact .new h1 h2 (ho _ h3) (h4.mono ho) (fun p hp => h5 p (hn p hp)) (fun p hp => h6 p (hn p hp))
theorem PutR.at {w : World} {key : List Scal} {kv : Value} {news own : List (Addr × Obj)} {xs ys xs' ys' : List (List Scal × Addr × Value)} {vs vs' : List Value} {m2 : Addr} {i : Int} {u : Tok} (h : PutR w key kv news xs ys vs own xs' ys' vs' m2 i u) : atKey ys' key = some (m2, .int i u) := by
  cases h with
  | old h => exact h
  | new h1 h2 h3 h4 h5 => exact atKey_snoc h2
section
variable {w : World} {dp un : Nat} {gd : Option (List Code)} {cn : Str} {nm : List (Str × NameKind)} {ig ic : Bool} {mo : List (Str × Const)} {a : Addr} {ccd : Value} {cl : List (Str × Addr)} {outer : List Env} {A₀ : Around} {base h₀ : Heap} {L : Addr} {m : Str → Option Value} {news : List (Addr × Obj)} {s : Shared}
    {loose : List Str} {mean : ExcName → Option Value} {mg mb : Str → Option Value} {Q E : Value → Shared → Prop}
    (B : Below A₀ base outer h₀) (F : Fr h₀ L s.heap m) (X : (pre.heap_1 w.params).In h₀) (N : News h₀ L s.heap news) (T : Top pre.view_1 loose mean mg mb h₀) (hdp : dp < 880) (hun : un < 8900)
include B F X N T hdp hun


theorem te_old {t t0 ar eD pD rL eD0 pD0 rL0 : Addr} {num : Int} {kv : Value} {tg : Tag} {rest : List (Addr × Obj)} {xs ys : List (List Scal × Addr × Value)} {e1 e2 n : Nat} {vs : List Value} {p : Addr × Value}
    (hn : news = (eD, dictOf (ents w xs) e1) :: (pD, dictOf (ents w ys) e2) :: (rL, lstO vs n) :: rest)
    (h1 : TabD w rest t num eD pD rL) (h0 : TabD w rest t0 5 eD0 pD0 rL0) (h2 : ArrD w rest ar 6) (D1 : DicM w rest eD xs) (hk1 : atKey xs tg.key = some p) (hK : KeyV w rest t0 ar kv tg)
    (k : ∀ h' tk' v, Fr h₀ L h' m → News h₀ L h' news → Q v { s with heap := h', toks := tk' }) :
    wpAny (model (RowW.prog (OpenRow.toRowW (OpenLaw.row PySem.Challenge.rw_rh0225_01))) w) (ktrTop dp un gd cn ⟨.function, nm, ig, ic, mo⟩ L a ccd cl outer) (call (.ref 283) [.ref t, kv]) Q E s := by
  have X₁ : (pre.heap_1 w.params).In s.heap := X.keeps F.keep
  have h1' := h1
  obtain ⟨d3, _, _, _, _, _, _, _, _, _, _, h31, h32⟩ := h1'
  subst hn
  k_steps
  exact k _ _ _ (by assumption) (News.sub (by assumption) (by ktr_rel))
theorem te_new {t t0 ar eD pD rL eD0 pD0 rL0 : Addr} {num : Int} {kv : Value} {tg : Tag} {rest : List (Addr × Obj)} {xs ys : List (List Scal × Addr × Value)} {e1 e2 n : Nat} {vs : List Value}
    (hn : news = (eD, dictOf (ents w xs) e1) :: (pD, dictOf (ents w ys) e2) :: (rL, lstO vs n) :: rest) (o1 : eD ≠ pD) (o2 : eD ≠ rL) (o3 : pD ≠ rL) (o4 : ∀ p ∈ rest, p.1 ≠ eD) (o5 : ∀ p ∈ rest, p.1 ≠ pD) (o6 : ∀ p ∈ rest, p.1 ≠ rL)
    (h1 : TabD w rest t num eD pD rL) (h0 : TabD w rest t0 5 eD0 pD0 rL0) (h2 : ArrD w rest ar 6) (D1 : DicM w rest eD xs) (D2 : DicM w rest pD ys) (hk1 : atKey xs tg.key = none) (hk2 : atKey ys tg.key = none) (hK : KeyV w rest t0 ar kv tg) (hz1 : xs.length ≤ 1000) (hz2 : ys.length ≤ 1000) (hz3 : vs.length ≤ 1000)
    (k : ∀ h' tk' mk pr items n0 e1' e2' n' n2 u u3, Fr h₀ L h' m → News h₀ L h' ((eD, dictOf (ents w (xs ++ [(tg.key, mk, .ref pr)])) e1') :: (pD, dictOf (ents w (ys ++ [(tg.key, mk, .int (vs.length : Int) u)])) e2') :: (rL, lstO (vs ++ [.ref pr]) n') ::
      ([(pr, lstO [kv, .str (Str.ofString "") u3] n2), (mk, tupO items n0)] ++ rest)) → MarkD w [(mk, tupO items n0)] tg.key mk → (∀ p ∈ news, p.1 < mk) → @LT.lt Nat _ mk pr → Q (.ref pr) { s with heap := h', toks := tk' }) :
    wpAny (model (RowW.prog (OpenRow.toRowW (OpenLaw.row PySem.Challenge.rw_rh0225_01))) w) (ktrTop dp un gd cn ⟨.function, nm, ig, ic, mo⟩ L a ccd cl outer) (call (.ref 283) [.ref t, kv]) Q E s := by
  have X₁ : (pre.heap_1 w.params).In s.heap := X.keeps F.keep
  have h1' := h1
  obtain ⟨d3, _, _, _, _, _, _, _, _, _, _, h31, h32⟩ := h1'
  subst hn
  k_steps
  refine' k _ _ _ _ _ _ _ _ _ _ _ _ ?qF ?qN ?qM ?ql ?qo
  (case qF => assumption)
  (case qM => assumption)
  (case qN => refine' News.sub ?qA ?qS; (case qA => assumption); (case qS => ktr_rel))
  (case ql =>
    intro p hp
    simp only [List.mem_cons] at hp
    rcases hp with rfl | rfl | rfl | hp
    · dsimp only; refine ltN ?_; omega
    · dsimp only; refine ltN ?_; omega
    · dsimp only; refine ltN ?_; omega
    · exact of_allLt (And.right (And.right (And.right (by assumption)))) p hp)
  (case qo => refine ltN ?_; omega)

theorem call_te {t t0 ar eD pD rL eD0 pD0 rL0 : Addr} {num : Int} {kv : Value} {tg : Tag} {rest : List (Addr × Obj)} {xs ys : List (List Scal × Addr × Value)} {e1 e2 n : Nat} {vs : List Value}
    (hn : news = (eD, dictOf (ents w xs) e1) :: (pD, dictOf (ents w ys) e2) :: (rL, lstO vs n) :: rest) (o1 : eD ≠ pD) (o2 : eD ≠ rL) (o3 : pD ≠ rL) (o4 : ∀ p ∈ rest, p.1 ≠ eD) (o5 : ∀ p ∈ rest, p.1 ≠ pD) (o6 : ∀ p ∈ rest, p.1 ≠ rL)
    (h1 : TabD w rest t num eD pD rL) (h0 : TabD w rest t0 5 eD0 pD0 rL0) (h2 : ArrD w rest ar 6) (D1 : DicM w rest eD xs) (D2 : DicM w rest pD ys) (hkk : (atKey xs tg.key = none ∧ atKey ys tg.key = none) ∨ ∃ p m2 i u, atKey xs tg.key = some p ∧ atKey ys tg.key = some (m2, .int i u)) (hK : KeyV w rest t0 ar kv tg) (hz1 : xs.length ≤ 1000) (hz2 : ys.length ≤ 1000) (hz3 : vs.length ≤ 1000)
    (k : ∀ h' tk' v own xs' ys' vs' e1' e2' n' m2 i u, Fr h₀ L h' m → News h₀ L h' ((eD, dictOf (ents w xs') e1') :: (pD, dictOf (ents w ys') e2') :: (rL, lstO vs' n') :: (own ++ rest)) → PutR w tg.key kv news xs ys vs own xs' ys' vs' m2 i u → DicM w (own ++ rest) pD ys' → atKey ys' tg.key = some (m2, .int i u) → (∀ p ∈ news, ∀ q ∈ own, @LT.lt Nat _ p.1 q.1) → Q v { s with heap := h', toks := tk' }) :
    wpAny (model (RowW.prog (OpenRow.toRowW (OpenLaw.row PySem.Challenge.rw_rh0225_01))) w) (ktrTop dp un gd cn ⟨.function, nm, ig, ic, mo⟩ L a ccd cl outer) (call (.ref 283) [.ref t, kv]) Q E s := by
  rcases hkk with ⟨hk1, hk2⟩ | ⟨p, m2, i, u, hk1, hk2⟩
  · refine te_new B F X N T hdp hun hn o1 o2 o3 o4 o5 o6 h1 h0 h2 D1 D2 hk1 hk2 hK hz1 hz2 hz3 fun h' tk' mk pr items n0 e1' e2' n' n2 u u3 F' N' M lt o => ?_
    refine k h' tk' _ [(pr, lstO [kv, .str (Str.ofString "") u3] n2), (mk, tupO items n0)] _ _ _ _ _ _ _ _ _ F' N' (.new hk1 hk2 List.mem_cons_self (M.mono fun p hp => List.mem_cons_of_mem _ hp) (fun p hp => Nat.lt_trans (lt p hp) o) lt) ?_ (atKey_snoc hk2) (fun p hp => List.forall_mem_cons.mpr ⟨Nat.lt_trans (lt p hp) o, List.forall_mem_cons.mpr ⟨lt p hp, List.forall_mem_nil _⟩⟩)
    exact (D2.mono fun p hp => List.mem_append_right _ hp).snoc (M.mono fun p hp => List.mem_append_left _ (List.mem_cons_of_mem _ hp)) hk2
  · refine te_old B F X N T hdp hun hn h1 h0 h2 D1 hk1 hK fun h' tk' v F' N' => ?_
    subst hn
    exact k h' tk' v [] _ _ _ _ _ _ _ _ _ F' N' (.old hk2) D2 hk2 (fun _ _ => List.forall_mem_nil _)
theorem call_te1 {t t0 ar eD pD rL eD0 pD0 rL0 : Addr} {num : Int} {kv : Value} {tg : Tag} {c : Addr × Obj} {rest : List (Addr × Obj)} {xs ys : List (List Scal × Addr × Value)} {e1 e2 n : Nat} {vs : List Value}
    (hn : news = c :: (eD, dictOf (ents w xs) e1) :: (pD, dictOf (ents w ys) e2) :: (rL, lstO vs n) :: rest) (o1 : eD ≠ pD) (o2 : eD ≠ rL) (o3 : pD ≠ rL) (o4 : ∀ p ∈ c :: rest, p.1 ≠ eD) (o5 : ∀ p ∈ c :: rest, p.1 ≠ pD) (o6 : ∀ p ∈ c :: rest, p.1 ≠ rL)
    (h1 : TabD w rest t num eD pD rL) (h0 : TabD w rest t0 5 eD0 pD0 rL0) (h2 : ArrD w rest ar 6) (D1 : DicM w rest eD xs) (D2 : DicM w rest pD ys) (hkk : (atKey xs tg.key = none ∧ atKey ys tg.key = none) ∨ ∃ p m2 i u, atKey xs tg.key = some p ∧ atKey ys tg.key = some (m2, .int i u)) (hK : KeyV w rest t0 ar kv tg) (hz1 : xs.length ≤ 1000) (hz2 : ys.length ≤ 1000) (hz3 : vs.length ≤ 1000)
    (k : ∀ h' tk' v own xs' ys' vs' e1' e2' n' m2 i u, Fr h₀ L h' m → News h₀ L h' ((eD, dictOf (ents w xs') e1') :: (pD, dictOf (ents w ys') e2') :: (rL, lstO vs' n') :: (own ++ (c :: rest))) → PutR w tg.key kv ((eD, dictOf (ents w xs) e1) :: (pD, dictOf (ents w ys) e2) :: (rL, lstO vs n) :: c :: rest) xs ys vs own xs' ys' vs' m2 i u → DicM w (own ++ (c :: rest)) pD ys' → atKey ys' tg.key = some (m2, .int i u) → (∀ p ∈ ((eD, dictOf (ents w xs) e1) :: (pD, dictOf (ents w ys) e2) :: (rL, lstO vs n) :: c :: rest), ∀ q ∈ own, @LT.lt Nat _ p.1 q.1) → Q v { s with heap := h', toks := tk' }) :
    wpAny (model (RowW.prog (OpenRow.toRowW (OpenLaw.row PySem.Challenge.rw_rh0225_01))) w) (ktrTop dp un gd cn ⟨.function, nm, ig, ic, mo⟩ L a ccd cl outer) (call (.ref 283) [.ref t, kv]) Q E s := by
  subst hn
  have hs : ∀ p ∈ rest, p ∈ c :: rest := fun p hp => List.mem_cons_of_mem _ hp
  refine call_te B F X (N := News.sub (l' := (eD, dictOf (ents w xs) e1) :: (pD, dictOf (ents w ys) e2) :: (rL, lstO vs n) :: c :: rest) N ?_) T hdp hun rfl o1 o2 o3 o4 o5 o6 (h1.mono hs) (h0.mono hs) (h2.mono hs) (D1.mono hs) (D2.mono hs) hkk (hK.mono hs) hz1 hz2 hz3 k
  intro p hp
  simp only [List.mem_cons] at hp ⊢
  rcases hp with h | h | h | h | h
  · exact .inr (.inl h)
  · exact .inr (.inr (.inl h))
  · exact .inr (.inr (.inr (.inl h)))
  · exact .inl h
  · exact .inr (.inr (.inr (.inr h)))
end

local macro_rules | `(tactic| walk_at "call ref") => `(tactic| (k_here; (with_reducible refine isC 283 ?_); k_dflt (apply call_te1; walk_at "bfx"; (exact rfl); k_asm; k_asm; k_asm; k_all; k_all; k_all; rotate_left 3; walk_at "mono"; walk_at "mono"; k_asm; walk_at "mono"; k_asm; k_asm; k_asm; rotate_right 3; iterate 3 walk_at "mono"); intro h' tk' v' own' xs' ys' vs' e1' e2' n' m2' i' u' F' N' hP' hD' hk' hl'; (try k_sweep)))
theorem off_B8 : True := by
  w_top off
  exact True.intro
theorem sub_fin {α : Type} {A B C X D U c : α} {own rest : List α} : ∀ p ∈ A :: B :: C :: ((X :: D :: own) ++ rest), p ∈ X :: D :: U :: A :: B :: C :: (own ++ (c :: rest)) := by
  intro p hp
  simp only [List.mem_cons, List.mem_append] at *
  rcases hp with h | h | h | (h | h | h) | h <;> simp [h]
theorem fresh_item {eD pD rL d x y : Addr} {o1 o2 o3 ox od : Obj} {c : Addr × Obj} {own rest : List (Addr × Obj)} (l1 : @LT.lt Nat _ y d ∧ eD < d ∧ pD < d ∧ rL < d ∧ AllLt d (own ++ c :: rest)) (l2 : @LT.lt Nat _ d x)
    (hl : ∀ p ∈ (eD, o1) :: (pD, o2) :: (rL, o3) :: c :: rest, ∀ q ∈ own, @LT.lt Nat _ p.1 q.1) : ∀ p ∈ (eD, o1) :: (pD, o2) :: (rL, o3) :: rest, ∀ q ∈ (x, ox) :: (d, od) :: own, @LT.lt Nat _ p.1 q.1 := by
  intro p hp q hq
  have h9 : @LT.lt Nat _ p.1 d ∧ p ∈ (eD, o1) :: (pD, o2) :: (rL, o3) :: c :: rest := by
    rcases List.mem_cons.mp hp with rfl | hp
    · exact ⟨l1.2.1, .head _⟩
    rcases List.mem_cons.mp hp with rfl | hp
    · exact ⟨l1.2.2.1, .tail _ (.head _)⟩
    rcases List.mem_cons.mp hp with rfl | hp
    · exact ⟨l1.2.2.2.1, .tail _ (.tail _ (.head _))⟩
    · exact ⟨of_allLt l1.2.2.2.2 p (List.mem_append_right _ (.tail _ hp)), .tail _ (.tail _ (.tail _ (.tail _ hp)))⟩
  rcases List.mem_cons.mp hq with rfl | hq
  · exact Nat.lt_trans h9.1 l2
  rcases List.mem_cons.mp hq with rfl | hq
  · exact h9.1
  · exact hl p h9.2 q hq
section
variable {w : World} {dp un : Nat} {gd : Option (List Code)} {cn : Str} {nm : List (Str × NameKind)} {ig ic : Bool} {mo : List (Str × Const)} {a : Addr} {ccd : Value} {cl : List (Str × Addr)} {outer : List Env} {A₀ : Around} {base h₀ : Heap} {L : Addr} {m : Str → Option Value} {news : List (Addr × Obj)} {s : Shared}
    {loose : List Str} {mean : ExcName → Option Value} {mg mb : Str → Option Value} {Q E : Value → Shared → Prop}
    (B : Below A₀ base outer h₀) (F : Fr h₀ L s.heap m) (X : (pre.heap_1 w.params).In h₀) (N : News h₀ L s.heap news) (T : Top pre.view_1 loose mean mg mb h₀) (hdp : dp < 860) (hun : un < 8800)
include B F X N T hdp hun


theorem item_tab {t t0 ar eD pD rL eD0 pD0 rL0 kl : Addr} {num : Int} {kv : Value} {tg : Tag} {rest : List (Addr × Obj)} {xs ys : List (List Scal × Addr × Value)} {e1 e2 n n' : Nat} {vs : List Value} {u2 : Tok}
    (hn : news = (eD, dictOf (ents w xs) e1) :: (pD, dictOf (ents w ys) e2) :: (rL, lstO vs n) :: rest) (o1 : eD ≠ pD) (o2 : eD ≠ rL) (o3 : pD ≠ rL) (o4 : ∀ p ∈ rest, p.1 ≠ eD) (o5 : ∀ p ∈ rest, p.1 ≠ pD) (o6 : ∀ p ∈ rest, p.1 ≠ rL)
    (h1 : TabD w rest t num eD pD rL) (h0 : TabD w rest t0 5 eD0 pD0 rL0) (h2 : ArrD w rest ar 6) (D1 : DicM w rest eD xs) (D2 : DicM w rest pD ys) (hkk : (atKey xs tg.key = none ∧ atKey ys tg.key = none) ∨ ∃ p m2 i u, atKey xs tg.key = some p ∧ atKey ys tg.key = some (m2, .int i u)) (hK : KeyV w rest t0 ar kv tg) (hkl : (kl, lstO [kv] n') ∈ rest) (hz1 : xs.length ≤ 1000) (hz2 : ys.length ≤ 1000) (hz3 : vs.length ≤ 1000)
    (k : ∀ h' tk' x own xs' ys' vs' e1' e2' n' m2 i u, Fr h₀ L h' m → News h₀ L h' ((eD, dictOf (ents w xs') e1') :: (pD, dictOf (ents w ys') e2') :: (rL, lstO vs' n') :: (own ++ rest)) → PutR w tg.key kv news xs ys vs own xs' ys' vs' m2 i u → RefD w own x (Str.ofString "item") (.ref t) (.int i u) → (∀ p ∈ news, ∀ q ∈ own, @LT.lt Nat _ p.1 q.1) → Q (.ref x) { s with heap := h', toks := tk' }) :
    wpAny (model (RowW.prog (OpenRow.toRowW (OpenLaw.row PySem.Challenge.rw_rh0225_01))) w) (ktrTop dp un gd cn ⟨.function, nm, ig, ic, mo⟩ L a ccd cl outer) (call (.ref 295) [.ref t, .ref kl, .int 32 u2]) Q E s := by
  have X₁ : (pre.heap_1 w.params).In s.heap := X.keeps F.keep
  have h1' := h1
  obtain ⟨d3, _, _, _, _, _, _, _, _, _, _, h31, h32⟩ := h1'
  subst hn
  k_steps
  refine' k _ _ _ (_ :: _ :: _) _ _ _ _ _ _ _ _ _ ?qF ?qN ?qP ?qR ?qO
  (case qF => assumption)
  (case qP => exact PutR.weaken (by assumption) (fun p hp => List.mem_cons_of_mem _ (List.mem_cons_of_mem _ hp)) (by ktr_rel))
  (case qN => exact News.sub (by assumption) sub_fin)
  (case qR => exact refd_mk)
  (case qO => exact fresh_item (by assumption) (by assumption) (by assumption))
end

theorem off_B9 : True := by
  w_top off
  exact True.intro
section
variable {w : World} {dp un : Nat} {gd : Option (List Code)} {cn : Str} {nm : List (Str × NameKind)} {ig ic : Bool} {mo : List (Str × Const)} {a : Addr} {ccd : Value} {cl : List (Str × Addr)} {outer : List Env} {A₀ : Around} {base h₀ : Heap} {L : Addr} {m : Str → Option Value} {news : List (Addr × Obj)} {s : Shared}
    {loose : List Str} {mean : ExcName → Option Value} {mg mb : Str → Option Value} {Q E : Value → Shared → Prop}
    (B : Below A₀ base outer h₀) (F : Fr h₀ L s.heap m) (X : (pre.heap_1 w.params).In h₀) (N : News h₀ L s.heap news) (T : Top pre.view_1 loose mean mg mb h₀) (hdp : dp < 900) (hun : un < 9000)
include B F X N T hdp hun


theorem call_sget {x t eD pD rL pr : Addr} {num i : Int} {u : Tok} {vs : List Value} {n n2 : Nat} {v0 v1 : Value}
    (h1 : RefD w news x (Str.ofString "item") (.ref t) (.int i u)) (h2 : TabD w news t num eD pD rL) (h3 : (rL, lstO vs n) ∈ news) (h4 : vs[i.toNat]? = some (.ref pr)) (h5 : (pr, lstO [v0, v1] n2) ∈ news) (hi0 : 0 ≤ i) (hi1 : i < 1000)
    (k : ∀ h' tk', Fr h₀ L h' m → News h₀ L h' news → Q v1 { s with heap := h', toks := tk' }) :
    wpAny (model (RowW.prog (OpenRow.toRowW (OpenLaw.row PySem.Challenge.rw_rh0225_01))) w) (ktrTop dp un gd cn ⟨.function, nm, ig, ic, mo⟩ L a ccd cl outer) (call (.ref 302) [.ref x]) Q E s := by
  have X₁ : (pre.heap_1 w.params).In s.heap := X.keeps F.keep
  obtain ⟨d1, _, _, _, _, _, h11, h12⟩ := h1
  obtain ⟨d3, _, _, _, _, _, _, _, _, _, _, h31, h32⟩ := h2
  k_steps
  exact k _ _ (by assumption) (by assumption)
theorem call_sset {x t eD pD rL pr : Addr} {num i : Int} {u : Tok} {vs : List Value} {n n2 : Nat} {v0 v1 v : Value} {rest : List (Addr × Obj)}
    (hn : news = (pr, lstO [v0, v1] n2) :: rest) (ho : ∀ p ∈ rest, p.1 ≠ pr)
    (h1 : RefD w rest x (Str.ofString "item") (.ref t) (.int i u)) (h2 : TabD w rest t num eD pD rL) (h3 : (rL, lstO vs n) ∈ rest) (h4 : vs[i.toNat]? = some (.ref pr)) (hi0 : 0 ≤ i) (hi1 : i < 1000)
    (k : ∀ h' tk' n3, Fr h₀ L h' m → News h₀ L h' ((pr, lstO [v0, v] n3) :: rest) → Q .none { s with heap := h', toks := tk' }) :
    wpAny (model (RowW.prog (OpenRow.toRowW (OpenLaw.row PySem.Challenge.rw_rh0225_01))) w) (ktrTop dp un gd cn ⟨.function, nm, ig, ic, mo⟩ L a ccd cl outer) (call (.ref 309) [.ref x, v]) Q E s := by
  have X₁ : (pre.heap_1 w.params).In s.heap := X.keeps F.keep
  subst hn
  obtain ⟨d1, _, _, _, _, _, h11, h12⟩ := h1
  obtain ⟨d3, _, _, _, _, _, _, _, _, _, _, h31, h32⟩ := h2
  k_steps
  exact k _ _ _ (by assumption) (by assumption)
end

theorem off_B10 : True := by
  w_top off
  exact True.intro
/-! ## for (a, b), c in zip(l1, l2), the lists of one item -/
/-- a post that the walk leaves alone -/
def EndIs (P : Flow → Shared → Prop) (f : Flow) (s : Shared) : Prop := P f s
section
variable {prog : Program} {w : World} {A : Around} {E : Value → Shared → Prop} {s : Shared} {env : Env} {h₀ : Heap} {m : Str → Option Value} {news : List (Addr × Obj)}
theorem zip_loop1 {R : Result → Shared → Prop} {x1 x2 x3 : Str} {p1 p2 p3 p4 p5 : Pos} {k1 k2 : Nat} {body : List Stmt} {b k t : Addr} {v1 v2 v3 : Value}
    (hh : A.handled = none) (h1 : env.kindOf x1 = some .local) (h2 : env.kindOf x2 = some .local) (h3 : env.kindOf x3 = some .local)
    (hp : (env.scope.kind == .class || (env.scope.kind == .module && env.locals != env.globals)) = false)
    (F : Fr h₀ env.locals s.heap m) (N : News h₀ env.locals s.heap news) (hB : ∀ h m, Fr h₀ env.locals h m → News h₀ env.locals h news → h.IsList b #[.ref t]) (hK : ∀ h m, Fr h₀ env.locals h m → News h₀ env.locals h news → h.IsList k #[v3]) (ht : IsTup s.heap t #[v1, v2])
    (turn : ∀ h' tk zl, Fr h₀ env.locals h' (fun y => if y = x3 then some v3 else if y = x2 then some v2 else if y = x1 then some v1 else m y) → News h₀ env.locals h' (zl ++ news) →
      wpAny (model prog w) A (execs body env) (EndIs fun f s₃ => f = .next ∧ ∃ h'' tk'' m'', s₃ = { s with heap := h'', toks := tk'' } ∧ Fr h₀ env.locals h'' m'' ∧ News h₀ env.locals h'' (zl ++ news) ∧
        ∀ h₂, Fr h₀ env.locals h₂ m'' → News h₀ env.locals h₂ news → R (.ok .next) { s with heap := h₂, toks := tk'' }) (notedBy (model prog w) A env fun e s' => R (.error e) s') { s with heap := h', toks := tk }) :
    wpAny (model prog w) A (call (.type "zip") [.ref b, .ref k]) (fun x s₁ => wpAny (model prog w) A (pyIter x) (fun it s₂ =>
      codeAny (model prog w) A (.forLoop (.Tuple [.Tuple [.Name x1 p1, .Name x2 p2] k1 p4, .Name x3 p3] k2 p5) it body [] env) R s₂) E s₁) E s := by
  have hb := hB _ _ F N
  have hk := hK _ _ F N
  refine call_zip_2 hb hk fun h' hz hTI hTO hi1 hi2 hsz hkeep => ?_
  generalize hn : s.heap.objs.size = n at *
  refine wpAny_pyIter_zip hz ?_
  have blt : @LT.lt Nat _ b n := by obtain ⟨_, e, _⟩ := hb; rw [← hn]; exact Heap.lt_size e
  have klt : @LT.lt Nat _ k n := by obtain ⟨_, e, _⟩ := hk; rw [← hn]; exact Heap.lt_size e
  have tlt : @LT.lt Nat _ t n := by obtain ⟨_, e, _⟩ := ht; rw [← hn]; exact Heap.lt_size e
  have Llt : @LT.lt Nat _ env.locals n := by rw [← hn]; exact F.ns.lt
  have D : ZipApart (n + 4) (n + 2) (n + 3) n (n + 1) b k := by
    constructor <;> (refine neN ?_; omega)
  have hb' : h'.IsList b #[.ref t] := hb.at fun o e => hkeep b o e
  have hk' : h'.IsList k #[v3] := hk.at fun o e => hkeep k o e
  have F' : Fr h₀ env.locals h' m := F.keeps hkeep
  have N' : News h₀ env.locals h' news := N.grown hkeep
  have low : ∀ p ∈ news, @LT.lt Nat _ p.1 n := fun p hp => hn ▸ Heap.lt_size (N p hp).1
  have low0 : ∀ c o, h₀.get? c = some o → @LT.lt Nat _ c n := fun c o e => hn ▸ Heap.lt_size (F.keep c o e)
  refine codeAny_forLoop_any (fun q s' => (q = 1 ∧ s' = { s with heap := h' }) ∨ (q = 0 ∧ ∃ h'' tk'' m'', s' = { s with heap := h'', toks := tk'' } ∧ Fr h₀ env.locals h'' m'' ∧ News h₀ env.locals h'' news ∧
      IsZip h'' (n + 4) (n + 2) (n + 3) .none ∧ IsPair h'' (n + 2) (.ref n) (.ref (n + 1)) ∧ (∃ a b, IsPair h'' (n + 3) a b) ∧ h''.IsListIter n b 1 ∧ h''.IsListIter (n + 1) k 1 ∧ h''.IsList b #[.ref t] ∧ h''.IsList k #[v3] ∧
      ∀ h₂, Fr h₀ env.locals h₂ m'' → News h₀ env.locals h₂ news → R (.ok .next) { s with heap := h₂, toks := tk'' })) ?_ 1 (.inl ⟨rfl, rfl⟩)
  rintro q s' (⟨rfl, rfl⟩ | ⟨rfl, h'', tk'', m'', rfl, F2, N2, z1, z2, ⟨a3, b3, z3⟩, z4, z5, z6, z7, fin⟩)
  · refine wpAny_pyNext_zip_item (s := { s with heap := h' }) D hz hTI hTO hi1 hi2 hb' hk' rfl rfl fun g1 a1 a2 a3 a4 a5 a6 a7 => ?_
    have hs5 : h'.objs.size = n + 5 := hsz
    simp only [hs5] at a1 a5 ⊢
    refine wpAny_letOwnedTupleGo_zip (s := { s with heap := g1 }) a1 fun g2 b1 b2 => ?_
    have keep2 : ∀ c o, @LT.lt Nat _ c n → h'.get? c = some o → g2.get? c = some o := fun c o hc e => b2.extBut c o (by refine neN ?_; omega) (a7 c o (by refine neN ?_; omega) (by refine neN ?_; omega) (by refine neN ?_; omega) (by refine neN ?_; omega) e)
    have F2 : Fr h₀ env.locals g2 m := ⟨F'.ns.at fun o e => keep2 _ o Llt e, fun c o e => keep2 c o (low0 c o e) (F'.keep c o e), F'.above⟩
    have N2 : News h₀ env.locals g2 news := fun p hp => ⟨keep2 _ _ (low p hp) (N' p hp).1, (N' p hp).2⟩
    have T2 : IsTup g2 (n + 5) #[.ref t, v3] := ⟨_, b2.extBut _ _ (by refine neN ?_; omega) a5, rfl, _, rfl⟩
    have t2 : IsTup g2 t #[v1, v2] := by obtain ⟨o, e, r⟩ := ht; exact ⟨o, keep2 t o tlt (hkeep t o e), r⟩
    refine assign_Tuple_tuple (s := { s with heap := g2 }) hh T2 rfl rfl fun g3 c3 => ?_
    have k3 : ∀ c o, g2.get? c = some o → g3.get? c = some o := fun c o e => c3 c o (Nat.ne_of_lt (Heap.lt_size e)) e
    refine assignInOrder_cons ?_
    show wpAny _ _ (assign (.Tuple [.Name x1 p1, .Name x2 p2] k1 p4) env (.ref t)) _ _ _
    refine assign_Tuple_tuple (s := { s with heap := g3 }) hh (by obtain ⟨o, e, r⟩ := t2; exact ⟨o, k3 _ _ e, r⟩) rfl rfl fun g4 c4 => ?_
    have k4 : ∀ c o, g2.get? c = some o → g4.get? c = some o := fun c o e => c4 c o (Nat.ne_of_lt (Heap.lt_size (k3 c o e))) (k3 c o e)
    refine assignInOrder_cons (wpAny_assign_Name (wpAny_storeName_local h1 (F2.keeps k4).ns (fun g5 n5 s5 => ?_) hp))
    refine assignInOrder_cons (wpAny_assign_Name (wpAny_storeName_local h2 n5 (fun g6 n6 s6 => ?_) hp))
    refine assignInOrder_nil ?_
    refine assignInOrder_cons (wpAny_assign_Name (wpAny_storeName_local h3 n6 (fun g7 n7 s7 => ?_) hp))
    refine assignInOrder_nil ?_
    have k7 : ∀ c o, c ≠ env.locals → g2.get? c = some o → g7.get? c = some o := fun c o hc e => s7.extBut c o hc (s6.extBut c o hc (s5.extBut c o hc (k4 c o e)))
    have hL0 : h₀.get? env.locals = none := Heap.get?_none_of_le F.above
    have F7 : Fr h₀ env.locals g7 (fun y => if y = x3 then some v3 else if y = x2 then some v2 else if y = x1 then some v1 else m y) :=
      ⟨n7, fun c o e => k7 c o (by rintro rfl; rw [hL0] at e; cases e) (F2.keep c o e), F.above⟩
    have N7 : News h₀ env.locals g7 news := fun p hp => ⟨k7 _ _ (N2 p hp).2.1 (N2 p hp).1, (N2 p hp).2⟩
    have g0 : ∀ c, n ≤ c → h₀.get? c = none := fun c hc => by
      cases e : h₀.get? c with
      | none => rfl
      | some o => exact absurd (low0 c o e) (Nat.not_lt.mpr hc)
    have gL : ∀ c : Nat, n ≤ c → (@Ne Nat c env.locals) := fun c hc q => Nat.lt_irrefl _ (Nat.lt_of_lt_of_le (q ▸ Llt) hc)
    obtain ⟨o1, q1, r1⟩ := a3.extBut b2.extBut D.i1z
    obtain ⟨o2, q2, r2⟩ := a4.extBut b2.extBut D.i2z
    have K7 : ∀ (c : Nat) o, n ≤ c → g2.get? c = some o → g7.get? c = some o ∧ c ≠ env.locals ∧ h₀.get? c = none := fun c o hc e => ⟨k7 c o (gL c hc) e, gL c hc, g0 c hc⟩
    have NZ : News h₀ env.locals g7 ([(n + 4, { cls := .type "zip", dict := none, data := .fields #[.none, .bool false, .bool false, .ref (n + 2), .ref (n + 3)], slots := #[] }), (n + 2, { cls := .type "tuple", data := .seq #[.ref n, .ref (n + 1)] }), (n + 3, { cls := .type "tuple", data := .seq #[.ref t, v3] }), (n, o1), (n + 1, o2)] ++ news) := by
      intro p hp
      rcases List.mem_append.mp hp with hp | hp
      · simp only [List.mem_cons, List.not_mem_nil, or_false] at hp
        rcases hp with rfl | rfl | rfl | rfl | rfl
        · exact K7 _ _ (Nat.le_add_right _ _) b1
        · exact K7 _ _ (Nat.le_add_right _ _) (b2.extBut _ _ D.TIz (a7 _ _ D.TIz D.TITO D.TIi1 D.TIi2 hTI))
        · exact K7 _ _ (Nat.le_add_right _ _) (b2.extBut _ _ D.TOz a2)
        · exact K7 _ _ (Nat.le_refl _) q1
        · exact K7 _ _ (Nat.le_add_right _ _) q2
      · exact N7 p hp
    refine wpAny_mono (turn g7 _ _ F7 NZ) (fun f s₃ h₃ => ?_) fun _ _ e => e
    obtain ⟨rfl, h9, tk9, m9, rfl, F9, N9, fin9⟩ := h₃
    have N9n : News h₀ env.locals h9 news := fun p hp => N9 p (List.mem_append_right _ hp)
    refine ⟨0, Nat.zero_lt_one, .inr ⟨rfl, h9, tk9, m9, rfl, F9, N9n, (N9 (n + 4, _) (List.mem_append_left _ List.mem_cons_self)).1, (N9 (n + 2, _) (List.mem_append_left _ (List.mem_cons_of_mem _ List.mem_cons_self))).1,
      ⟨_, _, (N9 (n + 3, _) (List.mem_append_left _ (List.mem_cons_of_mem _ (List.mem_cons_of_mem _ List.mem_cons_self)))).1⟩, ⟨o1, (N9 (n, o1) (by simp)).1, r1⟩, ⟨o2, (N9 (n + 1, o2) (by simp)).1, r2⟩, hB _ _ F9 N9n, hK _ _ F9 N9n, fin9⟩⟩
  · refine wpAny_pyNext_zip_end (s := { s with heap := h'', toks := tk'' }) hh D z1 z2 z3 z4 z5 z6 z7 (.inl rfl) fun g kk => ?_
    refine wpAny_execs_nil ?_
    have kg : ∀ c o, @LT.lt Nat _ c n → h''.get? c = some o → g.get? c = some o := fun c o hc e => kk c o (by refine neN ?_; omega) (by refine neN ?_; omega) (by refine neN ?_; omega) (by refine neN ?_; omega) e
    exact fin g ⟨F2.ns.at fun o e => kg _ o Llt e, fun c o e => kg c o (low0 c o e) (F2.keep c o e), F.above⟩ fun p hp => ⟨kg _ _ (low p hp) (N2 p hp).1, (N2 p hp).2⟩
end

theorem off_B11 : True := by
  w_top off
  exact True.intro
section
variable {w : World} {dp un : Nat} {gd : Option (List Code)} {cn : Str} {nm : List (Str × NameKind)} {ig ic : Bool} {mo : List (Str × Const)} {a : Addr} {ccd : Value} {cl : List (Str × Addr)} {outer : List Env} {A₀ : Around} {base h₀ : Heap} {L : Addr} {m : Str → Option Value} {news : List (Addr × Obj)} {s : Shared}
    {loose : List Str} {mean : ExcName → Option Value} {mg mb : Str → Option Value} {Q E : Value → Shared → Prop}
    (B : Below A₀ base outer h₀) (F : Fr h₀ L s.heap m) (X : (pre.heap_1 w.params).In h₀) (N : News h₀ L s.heap news) (T : Top pre.view_1 loose mean mg mb h₀) (hdp : dp < 900) (hun : un < 9000)
include B F X N T hdp hun


theorem call_aplace {ar kl : Addr} {i : Int} {u : Tok} {n' : Nat}
    (h2 : ArrD w news ar 6) (hkl : (kl, lstO [.int i u] n') ∈ news) (hi0 : 1 ≤ i) (hi1 : i ≤ 3)
    (k : ∀ h' tk' u', Fr h₀ L h' m → News h₀ L h' news → Q (.int (i - 1) u') { s with heap := h', toks := tk' }) :
    wpAny (model (RowW.prog (OpenRow.toRowW (OpenLaw.row PySem.Challenge.rw_rh0225_01))) w) (ktrTop dp un gd cn ⟨.function, nm, ig, ic, mo⟩ L a ccd cl outer) (call (.ref 276) [.ref ar, .ref kl]) Q E s := by
  have X₁ : (pre.heap_1 w.params).In s.heap := X.keeps F.keep
  obtain ⟨d3, _, _, _, _, _, _, _, _, _, _, _, bA, iA, bT, _, _, u5, u6, h31, h32, h33, h34⟩ := h2
  k_steps
  refine wpAny_For ?_ (by intro _; rfl)
  k_steps
  refine zip_loop1 (v1 := .int 1 u5) (v2 := .int 3 u6) (t := bT) (v3 := .int i u) rfl rfl rfl rfl rfl (by assumption) (by assumption) (fun h m F N => News.isList N h33) (fun h m F N => News.isList N hkl) (News.isTup (by assumption) h34) ?_
  intro h9 tk9 zl F9 N9
  k_steps
  refine ⟨rfl, _, _, _, rfl, by assumption, by assumption, ?_⟩
  intro h₂ F₂ N₂
  dsimp only
  k_steps
  have e9 : (0 * (3 - 1 + 1) + i - 1 : Int) = i - 1 := by omega
  rw [e9]
  exact k _ _ _ (by assumption) (by assumption)
end

theorem off_B12 : True := by
  w_top off
  exact True.intro
theorem sub_fin2 {α : Type} {X D U V : α} {rest : List α} : ∀ p ∈ (X :: D :: []) ++ rest, p ∈ X :: D :: U :: V :: rest := by
  intro p hp
  simp only [List.mem_cons, List.mem_append, List.not_mem_nil, or_false] at *
  rcases hp with (h | h) | h <;> simp [h]
theorem ints_one {ys : List Value} {i : Int} (h : IntsAre ys (List.map (fun k => k) [i])) : ∃ t, ys = [.int i t] := by
  rw [List.map_id'] at h
  cases h with
  | cons a t h => cases h; exact ⟨t, rfl⟩
section
variable {w : World} {dp un : Nat} {gd : Option (List Code)} {cn : Str} {nm : List (Str × NameKind)} {ig ic : Bool} {mo : List (Str × Const)} {a : Addr} {ccd : Value} {cl : List (Str × Addr)} {outer : List Env} {A₀ : Around} {base h₀ : Heap} {L : Addr} {m : Str → Option Value} {news : List (Addr × Obj)} {s : Shared}
    {loose : List Str} {mean : ExcName → Option Value} {mg mb : Str → Option Value} {Q E : Value → Shared → Prop}
    (B : Below A₀ base outer h₀) (F : Fr h₀ L s.heap m) (X : (pre.heap_1 w.params).In h₀) (N : News h₀ L s.heap news) (T : Top pre.view_1 loose mean mg mb h₀) (hdp : dp < 880) (hun : un < 8900)
include B F X N T hdp hun


theorem item_arr {ar kl : Addr} {i : Int} {u u2 : Tok} {n' : Nat}
    (h2 : ArrD w news ar 6) (hkl : (kl, lstO [.int i u] n') ∈ news) (hi0 : 1 ≤ i) (hi1 : i ≤ 3)
    (k : ∀ h' tk' x own u', Fr h₀ L h' m → News h₀ L h' (own ++ news) → RefD w own x (Str.ofString "item") (.ref ar) (.int (i - 1) u') → (∀ p ∈ news, ∀ q ∈ own, p.1 < q.1) → Q (.ref x) { s with heap := h', toks := tk' }) :
    wpAny (model (RowW.prog (OpenRow.toRowW (OpenLaw.row PySem.Challenge.rw_rh0225_01))) w) (ktrTop dp un gd cn ⟨.function, nm, ig, ic, mo⟩ L a ccd cl outer) (call (.ref 295) [.ref ar, .ref kl, .int 32 u2]) Q E s := by
  have X₁ : (pre.heap_1 w.params).In s.heap := X.keeps F.keep
  have h2' := h2
  obtain ⟨d3, _, _, _, _, _, _, _, _, _, _, _, bA, iA, bT, _, _, _, _, h31, h32, h33, h34⟩ := h2'
  repeat' ((fail_if_success (with_reducible show wpAny _ _ (call (Value.ref 276) _) _ _ _)); (first | (k_unfold; (try dsimp only)) | (k_end; wrow_close) | walk1 | (dsimp only; walk1) | (leave1; walk_say "STEP leave1"; try dsimp only)))
  (with_reducible rename IntsAre _ _ => hI9)
  obtain ⟨t9, e9⟩ := ints_one hI9
  subst e9
  refine' call_aplace ?qB ?qF ?qX ?qN ?qT ?qd ?qu ?qh2 ?qhk hi0 hi1 ?_
  (case qF => k_asm)
  (case qN => k_asm)
  (case qB => k_asm)
  (case qX => k_asm)
  (case qT => k_asm)
  (case qd => k_room)
  (case qu => k_units)
  (case qh2 => exact ArrD.mono h2 (by ktr_rel))
  (case qhk => exact List.mem_cons_self)
  intro h' tk' u' F' N'
  k_steps
  refine' k _ _ _ (_ :: _ :: []) _ ?qF ?qN ?qR ?ql
  (case qF => assumption)
  (case qN => exact News.sub (by assumption) sub_fin2)
  (case qR => exact refd_mk)
  (case ql =>
    intro p hp q hq
    have hl := of_allLt (And.right (And.right (by assumption))) p hp
    simp only [List.mem_cons, List.not_mem_nil, or_false] at hq
    rcases hq with rfl | rfl
    · exact Nat.lt_trans hl (by assumption)
    · exact hl)
end

local macro_rules | `(tactic| walk_at "call ref") => `(tactic| (k_here; (with_reducible refine isC 295 ?_); k_dflt (apply item_arr; walk_at "bfx"; walk_at "mono"; (focus k_mem); omega; omega); intro h' tk' x' own' u' F' N' hR' hl'; (try k_sweep)))
theorem off_B13 : True := by
  w_top off
  exact True.intro
/-! ## a for over a list of the ledger, with any target -/
section
variable {prog : Program} {w : World} {A : Around} {E : Value → Shared → Prop} {s : Shared} {env : Env} {h₀ : Heap} {m : Str → Option Value} {news : List (Addr × Obj)}
/-- the end of a turn -/
def TurnIs (h₀ : Heap) (L : Addr) (s : Shared) (I : Addr) (oI : Obj) (Jn : (Str → Option Value) → List (Addr × Obj) → Prop) (R : Result → Shared → Prop) (f : Flow) (s₃ : Shared) : Prop := match f with
  | .brk => R (.ok .next) s₃
  | .ret v => R (.ok (.ret v)) s₃
  | _ => ∃ h' tk' m' news', s₃ = { s with heap := h', toks := tk' } ∧ Fr h₀ L h' m' ∧ News h₀ L h' ((I, oI) :: news') ∧ (∀ p ∈ news', p.1 ≠ I) ∧ Jn m' news'
theorem for_list {R : Result → Shared → Prop} {target : Expr} {body : List Stmt} {l : Addr} {its : Array Value} (J : Nat → (Str → Option Value) → List (Addr × Obj) → Prop)
    (hh : A.handled = none) (hgo : ∀ (I : Addr) (v : Value) (i : Nat) (s' : Shared) (Q' : Unit → Shared → Prop) (E' : Value → Shared → Prop), its[i]? = some v → s'.heap.IsListIter I l (i + 1) → Q' () s' → wpAny (model prog w) A (letOwnedTupleGo target (.ref I) v) Q' E' s')
    (hS : ∀ i m news, J i m news → LCg.SrcAt h₀ l its news) (F : Fr h₀ env.locals s.heap m) (N : News h₀ env.locals s.heap news) (h0 : J 0 m news)
    (turn : ∀ i v m₁ news₁ I oI h tk, its[i]? = some v → J i m₁ news₁ → Fr h₀ env.locals h m₁ → News h₀ env.locals h ((I, oI) :: news₁) → (∀ p ∈ news₁, p.1 ≠ I) →
      wpAny (model prog w) A (assign target env v) (fun _ s₂ => wpAny (model prog w) A (execs body env) (TurnIs h₀ env.locals s I oI (J (i + 1)) R) (notedBy (model prog w) A env fun e s' => R (.error e) s') s₂) (notedBy (model prog w) A env fun e s' => R (.error e) s') { s with heap := h, toks := tk })
    (done : ∀ h tk m₁ news₁, Fr h₀ env.locals h m₁ → News h₀ env.locals h news₁ → J its.size m₁ news₁ → R (.ok .next) { s with heap := h, toks := tk }) :
    wpAny (model prog w) A (pyIter (.ref l)) (fun it s₂ => codeAny (model prog w) A (.forLoop target it body [] env) R s₂) E s := by
  have hl := (hS 0 m news h0).list F.keep N
  have llt : @LT.lt Nat _ l s.heap.objs.size := by obtain ⟨_, e, _⟩ := hl; exact Heap.lt_size e
  refine wpAny_pyIter_list hl ?_
  have W := Walks.list (prog := prog) (w := w) hh s.heap.objs.size l (Nat.ne_of_lt llt) its
  generalize hI : s.heap.objs.size = I at *
  have hL : env.locals ≠ I := by rw [← hI]; exact Nat.ne_of_lt F.ns.lt
  have hI0 : h₀.get? I = none := by
    cases e : h₀.get? I with
    | none => rfl
    | some o => have := Heap.lt_size (F.keep I o e); rw [hI] at this; exact absurd this (Nat.lt_irrefl _)
  have offN : ∀ p ∈ news, p.1 ≠ I := fun p hp => by rw [← hI]; exact Nat.ne_of_lt (Heap.lt_size (N p hp).1)
  have pI : (s.heap.push { cls := .type "list_iterator", data := .fields #[.ref l, .int 0 0] }).get? I = some { cls := .type "list_iterator", data := .fields #[.ref l, .int 0 0] } := by rw [← hI]; exact Heap.get?_push_size _ rfl
  refine codeAny_forLoop_any (fun q s' => ∃ i h tk m₁ news₁ oI, q = its.size + 1 - i ∧ i ≤ its.size ∧ s' = { s with heap := h, toks := tk } ∧ Fr h₀ env.locals h m₁ ∧ News h₀ env.locals h ((I, oI) :: news₁) ∧ (∀ p ∈ news₁, p.1 ≠ I) ∧ J i m₁ news₁ ∧ (oI.cls = .type "list_iterator" ∧ oI.data = .fields #[.ref l, .int i 0])) ?_ (its.size + 1)
    ⟨0, _, s.toks, m, news, { cls := .type "list_iterator", data := .fields #[.ref l, .int 0 0] }, rfl, Nat.zero_le _, rfl, F.push _, ?_, offN, h0, rfl, rfl⟩
  · rintro q s' ⟨i, h, tk, m₁, news₁, oI, rfl, hi, rfl, F₁, N₁, off, hJ, hc, hd⟩
    have N₁' : News h₀ env.locals h news₁ := fun p hp => N₁ p (List.mem_cons_of_mem _ hp)
    have hit : h.IsListIter I l i := ⟨oI, (N₁ (I, oI) List.mem_cons_self).1, hc, hd⟩
    have hls := (hS i m₁ news₁ hJ).list F₁.keep N₁'
    by_cases hlt : i < its.size
    · refine W.item i { s with heap := h, toks := tk } _ _ hlt ⟨hit, hls⟩ fun v h' tk' hv hst hk => ?_
      obtain ⟨⟨oI', eI', cI', dI'⟩, _⟩ := hst
      have F₂ : Fr h₀ env.locals h' m₁ := LCg.fr_but F₁ hk hL hI0
      have N₂ : News h₀ env.locals h' ((I, oI') :: news₁) := fun p hp => by
        rcases List.mem_cons.mp hp with rfl | hp
        · exact ⟨eI', Ne.symm hL, hI0⟩
        · exact LCg.news_but N₁' hk off p hp
      dsimp only
      refine hgo I v i _ _ _ hv ⟨oI', eI', cI', dI'⟩ ?_
      refine wpAny_mono (turn i v m₁ news₁ I oI' h' tk' hv hJ F₂ N₂ off) (fun _ s₂ h₂ => wpAny_mono h₂ (fun f s₃ h₃ => ?_) fun _ _ e => e) fun _ _ e => e
      have fin : (∃ h' tk' m' news', s₃ = { s with heap := h', toks := tk' } ∧ Fr h₀ env.locals h' m' ∧ News h₀ env.locals h' ((I, oI') :: news') ∧ (∀ p ∈ news', p.1 ≠ I) ∧ J (i + 1) m' news') →
          ∃ q', q' < its.size + 1 - i ∧ ∃ i h tk m₁ news₁ oI, q' = its.size + 1 - i ∧ i ≤ its.size ∧ s₃ = { s with heap := h, toks := tk } ∧ Fr h₀ env.locals h m₁ ∧ News h₀ env.locals h ((I, oI) :: news₁) ∧ (∀ p ∈ news₁, p.1 ≠ I) ∧ J i m₁ news₁ ∧ (oI.cls = .type "list_iterator" ∧ oI.data = .fields #[.ref l, .int i 0]) := by
        rintro ⟨h₅, tk₅, m₅, news₅, rfl, F₅, N₅, off₅, J₅⟩
        exact ⟨its.size + 1 - (i + 1), by omega, i + 1, h₅, tk₅, m₅, news₅, oI', rfl, hlt, rfl, F₅, N₅, off₅, J₅, cI', dI'⟩
      cases f with
      | next => exact fin h₃
      | cont => exact fin h₃
      | brk => exact h₃
      | ret v => exact h₃
    · obtain rfl : i = its.size := Nat.le_antisymm hi (Nat.not_lt.mp hlt)
      refine W.done { s with heap := h, toks := tk } _ _ ⟨hit, hls⟩ fun h' tk' hk => ?_
      dsimp only
      refine wpAny_execs_nil ?_
      exact done h' tk' m₁ news₁ (LCg.fr_but F₁ hk hL hI0) (LCg.news_but N₁' hk off) hJ
  · intro p hp
    rcases List.mem_cons.mp hp with rfl | hp
    · exact ⟨pI, Ne.symm hL, hI0⟩
    · exact ⟨Heap.get?_push_of_some _ (N p hp).1, (N p hp).2⟩
theorem go_tuple {elts : List Expr} {x1 : Nat} {pos : Pos} {l : Addr} (I : Addr) (v : Value) (i : Nat) (s' : Shared) (Q' : Unit → Shared → Prop) (E' : Value → Shared → Prop) (t : Addr) (hv : v = .ref t) (hi : s'.heap.IsListIter I l (i + 1)) (h : Q' () s') : wpAny (model prog w) A (letOwnedTupleGo (.Tuple elts x1 pos) (.ref I) v) Q' E' s' := by
  subst hv
  exact wpAny_letOwnedTupleGo_listiter hi h
theorem go_name {x : Str} {pos : Pos} {l : Addr} {I : Addr} {v : Value} {i : Nat} {s' : Shared} {Q' : Unit → Shared → Prop} {E' : Value → Shared → Prop} (hi : s'.heap.IsListIter I l (i + 1)) (h : Q' () s') : wpAny (model prog w) A (letOwnedTupleGo (.Name x pos) (.ref I) v) Q' E' s' := wpAny_pure h
end
section
variable {prog : Program} {w : World} {A : Around} {E : Value → Shared → Prop} {s : Shared} {env : Env} {h₀ : Heap} {m : Str → Option Value} {news : List (Addr × Obj)}
theorem assign_pair {x1 x2 : Str} {p1 p2 pos : Pos} {k : Nat} {t : Addr} {v1 v2 : Value} {n : Nat} {Q : Unit → Shared → Prop} (hh : A.handled = none) (h1 : env.kindOf x1 = some .local) (h2 : env.kindOf x2 = some .local)
    (hp : (env.scope.kind == .class || (env.scope.kind == .module && env.locals != env.globals)) = false) (F : Fr h₀ env.locals s.heap m) (N : News h₀ env.locals s.heap news) (ht : (t, tupO [v1, v2] n) ∈ news)
    (hQ : ∀ h' tk', Fr h₀ env.locals h' (fun y => if y = x2 then some v2 else if y = x1 then some v1 else m y) → News h₀ env.locals h' news → Q () { s with heap := h', toks := tk' }) :
    wpAny (model prog w) A (assign (.Tuple [.Name x1 p1, .Name x2 p2] k pos) env (.ref t)) Q E s := by
  refine assign_Tuple_tuple hh (News.isTup N ht) rfl rfl fun g he => ?_
  have up : ∀ c o, s.heap.get? c = some o → g.get? c = some o := fun c o e => he c o (Nat.ne_of_lt (Heap.lt_size e)) e
  refine assignInOrder_cons (wpAny_assign_Name (wpAny_storeName_local h1 (F.keeps up).ns (fun g1 n1 s1 => ?_) hp))
  refine assignInOrder_cons (wpAny_assign_Name (wpAny_storeName_local h2 n1 (fun g2 n2 s2 => ?_) hp))
  refine assignInOrder_nil ?_
  exact hQ g2 _ (((F.keeps up).set n1 s1).set n2 s2) (((N.grown up).set s1).set s2)
end
theorem frKnow {h₀ h : Heap} {L : Addr} {m : Str → Option Value} (F : Fr h₀ L h m) (x : Str) (v : Value) (hx : m x = some v) : Fr h₀ L h (fun y => if y = x then some v else m y) := by
  have e : (fun y => if y = x then some v else m y) = m := by
    funext y
    by_cases q : y = x
    · rw [if_pos q, q, hx]
    · rw [if_neg q]
  rw [e]
  exact F

theorem off_B14 : True := by
  w_top off
  exact True.intro
theorem dict_nil {prog : Program} {w : World} {K : Type} [DecidableEq K] {knd : KeyKind prog w K} {o : Obj} (h : o.IsDictOf knd []) : ∃ ep, o = dictOf [] ep := by
  obtain ⟨es, ep, hx, hd, hk, hp, _⟩ := h
  obtain ⟨c, dd, dt, sl⟩ := o
  obtain ⟨e1, e2, e3⟩ := hx
  simp only at e1 e2 e3 hd
  subst e1 e2 e3 hd
  have : es.toList = [] := by cases h : es.toList with | nil => rfl | cons a l => rw [h] at hp; cases hp
  have : es = #[] := by cases es; simpa using this
  subst this
  exact ⟨ep, rfl⟩
theorem arrd_mk {w : World} {news : List (Addr × Obj)} {x d bA iA bT : Addr} {num : Int} {t1 t2 t3 t4 t5 t6 u1 u2 u3 u4 u5 u6 : Tok} {n n2 n3 : Nat} {p q : Addr × Obj} (h1 : (bA, lstO [.ref bT] n2) ∈ news) (h2 : (bT, tupO [.int 1 u5, .int 3 u6] n3) ∈ news) :
    ArrD w ((p :: q :: (x, instObj 222 d) :: (d, dictOf [⟨PyData.keyHash w.params (Str.ofString "word"), .str (Str.ofString "word") t1, .str (Str.ofString "ARRAY") u1⟩, ⟨PyData.keyHash w.params (Str.ofString "number"), .str (Str.ofString "number") t2, .int num u2⟩,
   ⟨PyData.keyHash w.params (Str.ofString "mark"), .str (Str.ofString "mark") t3, .int 0 u3⟩, ⟨PyData.keyHash w.params (Str.ofString "told"), .str (Str.ofString "told") t4, .str (Str.ofString "3") u4⟩, ⟨PyData.keyHash w.params (Str.ofString "bounds"), .str (Str.ofString "bounds") t5, .ref bA⟩, ⟨PyData.keyHash w.params (Str.ofString "items"), .str (Str.ofString "items") t6, .ref iA⟩] n) :: []) ++ news) x num :=
  ⟨d, t1, t2, t3, t4, t5, t6, u1, u2, u3, u4, n, bA, iA, bT, n2, n3, u5, u6, List.mem_cons_of_mem _ (List.mem_cons_of_mem _ List.mem_cons_self), List.mem_cons_of_mem _ (List.mem_cons_of_mem _ (List.mem_cons_of_mem _ List.mem_cons_self)),
    List.mem_append_right _ h1, List.mem_append_right _ h2⟩
theorem mul_S {prog : Program} {w : World} {A : Around} {E : Value → Shared → Prop} {s : Shared} {h₀ : Heap} {L l : Addr} {m : Str → Option Value} {news : List (Addr × Obj)} {v : Value} {n : Nat} {t : Tok} {Q : Value → Shared → Prop}
    (F : Fr h₀ L s.heap m) (N : News h₀ L s.heap news) (hm : (l, lstO [v] n) ∈ news) (k : ∀ l' o h', Fr h₀ L h' m → News h₀ L h' ((l', o) :: news) → (∀ p ∈ news, p.1 < l') → Q (.ref l') { s with heap := h' }) :
    wpAny (model prog w) A (binaryOp .Mult (.ref l) (.int 3 t)) Q E s :=
  mul_list F N (News.get N hm) (by decide) (by decide) (by simp) fun h' F' N' => k _ _ h' F' N' fun p hp => Heap.lt_size (N p hp).1
section
variable {w : World} {dp un : Nat} {gd : Option (List Code)} {cn : Str} {nm : List (Str × NameKind)} {ig ic : Bool} {mo : List (Str × Const)} {a : Addr} {ccd : Value} {cl : List (Str × Addr)} {outer : List Env} {A₀ : Around} {base h₀ : Heap} {L : Addr} {m : Str → Option Value} {news : List (Addr × Obj)} {s : Shared}
    {loose : List Str} {mean : ExcName → Option Value} {mg mb : Str → Option Value} {Q E : Value → Shared → Prop}
    (B : Below A₀ base outer h₀) (F : Fr h₀ L s.heap m) (X : (pre.heap_1 w.params).In h₀) (N : News h₀ L s.heap news) (T : Top pre.view_1 loose mean mg mb h₀) (hdp : dp < 900) (hun : un < 9000)
include B F X N T hdp hun


theorem call_sob {bl bt : Addr} {n1 n2 : Nat} {u5 u6 : Tok} (h1 : (bl, lstO [.ref bt] n1) ∈ news) (h2 : (bt, tupO [.int 1 u5, .int 3 u6] n2) ∈ news)
    (k : ∀ h' tk' t, Fr h₀ L h' m → News h₀ L h' news → Q (.int 3 t) { s with heap := h', toks := tk' }) :
    wpAny (model (RowW.prog (OpenRow.toRowW (OpenLaw.row PySem.Challenge.rw_rh0225_01))) w) (ktrTop dp un gd cn ⟨.function, nm, ig, ic, mo⟩ L a ccd cl outer) (call (.ref 269) [.ref bl]) Q E s := by
  have X₁ : (pre.heap_1 w.params).In s.heap := X.keeps F.keep
  k_steps
  refine wpAny_For ?_ (by intro _; rfl)
  k_steps
  refine for_list (its := #[.ref bt]) (fun i m₁ news₁ => news₁ = news ∧ ∃ t, m₁ (Str.ofString "found") = some (.int (if i = 0 then 1 else 3) t)) rfl (fun I v i s' Q' E' hv hi hq => ?_) (fun i m n hj => .inr ⟨_, hj.1 ▸ h1, rfl, _, rfl⟩) (by assumption) (by assumption) ⟨rfl, _, rfl⟩ ?_ ?_
  · obtain ⟨hi', e⟩ := List.getElem?_eq_some_iff.mp (by simpa using hv)
    exact go_tuple I v i s' Q' E' bt (by cases i <;> simp_all) hi hq
  · rintro i v m₁ news₁ I oI h tk hv ⟨rfl, t, hm⟩ F₁ N₁ off
    obtain ⟨rfl, rfl⟩ : i = 0 ∧ v = .ref bt := by cases i <;> simp_all
    refine assign_pair rfl rfl rfl rfl F₁ N₁ (List.mem_cons_of_mem _ h2) fun h' tk' F₂ N₂ => ?_
    have F3 := frKnow F₂ (Str.ofString "found") (.int 1 t) hm
    clear F₁ N₁ F₂
    k_steps
    exact ⟨_, _, _, _, rfl, by assumption, by assumption, off, rfl, _, rfl⟩
  · intro h tk m₁ news₁ F₁ N₁ hJ
    obtain ⟨rfl, t, hm⟩ := hJ
    have F3 := frKnow F₁ (Str.ofString "found") (.int 3 t) hm
    clear F₁
    dsimp only
    k_steps
    exact k _ _ _ (by assumption) (by assumption)
theorem call_Table {n : Int} {u : Tok}
    (k : ∀ h' tk' x d eD pD rL e1 e2 n1 t1 t2 t3 t4 t5 t6 u1 u2 u3 n0, Fr h₀ L h' m → News h₀ L h' ((rL, lstO [] n1) :: (pD, dictOf [] e2) :: (eD, dictOf [] e1) :: (x, instObj 241 d) :: (d, dictOf [⟨PyData.keyHash w.params (Str.ofString "word"), .str (Str.ofString "word") t1, .str (Str.ofString "TABLE") u1⟩, ⟨PyData.keyHash w.params (Str.ofString "number"), .str (Str.ofString "number") t2, .int n u2⟩,
   ⟨PyData.keyHash w.params (Str.ofString "mark"), .str (Str.ofString "mark") t3, .int 0 u3⟩, ⟨PyData.keyHash w.params (Str.ofString "entries"), .str (Str.ofString "entries") t4, .ref eD⟩, ⟨PyData.keyHash w.params (Str.ofString "places"), .str (Str.ofString "places") t5, .ref pD⟩, ⟨PyData.keyHash w.params (Str.ofString "rows"), .str (Str.ofString "rows") t6, .ref rL⟩] n0) :: news) →
      (eD == sysModules) = false → (pD == sysModules) = false → (∀ p ∈ news, p.1 < d) → @LT.lt Nat _ d x → @LT.lt Nat _ x eD → @LT.lt Nat _ eD pD → @LT.lt Nat _ pD rL → Q (.ref x) { s with heap := h', toks := tk' }) :
    wpAny (model (RowW.prog (OpenRow.toRowW (OpenLaw.row PySem.Challenge.rw_rh0225_01))) w) (ktrTop dp un gd cn ⟨.function, nm, ig, ic, mo⟩ L a ccd cl outer) (call (.ref 241) [.int n u]) Q E s := by
  have X₁ : (pre.heap_1 w.params).In s.heap := X.keeps F.keep
  k_steps
  (with_reducible rename Obj.IsDictOf (intKind _ _) _ _ => hq1)
  obtain ⟨ep1, eq1⟩ := dict_nil hq1
  clear hq1
  (with_reducible rename Obj.IsDictOf (intKind _ _) _ _ => hq2)
  obtain ⟨ep2, eq2⟩ := dict_nil hq2
  subst eq1 eq2
  refine' k _ _ _ _ _ _ _ _ _ _ _ _ _ _ _ _ _ _ _ _ ?qF ?qN ?qa ?qb ?qc ?qd ?qe ?qf ?qg
  (case qF => assumption)
  (case qN => assumption)
  (case qa => assumption)
  (case qb => assumption)
  (case qc => assumption)
  all_goals (refine ltN ?_; omega)
end
section
variable {w : World} {dp un : Nat} {gd : Option (List Code)} {cn : Str} {nm : List (Str × NameKind)} {ig ic : Bool} {mo : List (Str × Const)} {a : Addr} {ccd : Value} {cl : List (Str × Addr)} {outer : List Env} {A₀ : Around} {base h₀ : Heap} {L : Addr} {m : Str → Option Value} {news : List (Addr × Obj)} {s : Shared}
    {loose : List Str} {mean : ExcName → Option Value} {mg mb : Str → Option Value} {Q E : Value → Shared → Prop}
    (B : Below A₀ base outer h₀) (F : Fr h₀ L s.heap m) (X : (pre.heap_1 w.params).In h₀) (N : News h₀ L s.heap news) (T : Top pre.view_1 loose mean mg mb h₀) (hdp : dp < 880) (hun : un < 8900)
include B F X N T hdp hun

theorem call_Array {n : Int} {u u' u'' : Tok} {bl bt : Addr} {n1 n2 : Nat} {u5 u6 : Tok} (h1 : (bl, lstO [.ref bt] n1) ∈ news) (h2 : (bt, tupO [.int 1 u5, .int 3 u6] n2) ∈ news)
    (k : ∀ h' tk' x own, Fr h₀ L h' m → News h₀ L h' (own ++ news) → ArrD w (own ++ [(bl, lstO [.ref bt] n1), (bt, tupO [.int 1 u5, .int 3 u6] n2)]) x n → (∀ p ∈ news, ∀ q ∈ own, p.1 < q.1) → Q (.ref x) { s with heap := h', toks := tk' }) :
    wpAny (model (RowW.prog (OpenRow.toRowW (OpenLaw.row PySem.Challenge.rw_rh0225_01))) w) (ktrTop dp un gd cn ⟨.function, nm, ig, ic, mo⟩ L a ccd cl outer) (call (.ref 222) [.int n u, .str (Str.ofString "3") u', .ref bl, .str (Str.ofString "") u'']) Q E s := by
  have X₁ : (pre.heap_1 w.params).In s.heap := X.keeps F.keep
  repeat' ((fail_if_success (with_reducible show wpAny _ _ (call (Value.ref 269) _) _ _ _)); (first | (k_unfold; (try dsimp only)) | (k_end; wrow_close) | walk1 | (dsimp only; walk1) | (leave1; walk_say "STEP leave1"; try dsimp only)))
  refine' call_sob ?qB ?qF ?qX ?qN ?qT ?qd ?qu ?qh1 ?qh2 ?_
  (case qF => k_asm)
  (case qN => k_asm)
  (case qB => k_asm)
  (case qX => k_asm)
  (case qT => k_asm)
  (case qd => k_room)
  (case qu => k_units)
  (case qh1 => k_mem)
  (case qh2 => k_mem)
  intro h' tk' t' F' N'
  k_steps
  refine mul_S (by assumption) (by assumption) List.mem_cons_self ?_
  intro l' o' h' F' N' l1
  k_lt l1
  k_steps
  refine' k _ _ _ (_ :: _ :: _ :: _ :: []) ?qF ?qN ?qA ?ql
  (case qF => assumption)
  (case qN => assumption)
  (case qA => exact arrd_mk List.mem_cons_self (List.mem_cons_of_mem _ List.mem_cons_self))
  (case ql =>
    intro p hp q hq
    (rename (∀ p ∈ news, p.1 < _) => hl0)
    have hl : @LT.lt Nat _ p.1 _ := hl0 p hp
    simp only [List.mem_cons, List.not_mem_nil, or_false] at hq
    rcases hq with rfl | rfl | rfl | rfl <;> (refine ltN ?_; (dsimp only at *); omega))
end

theorem off_B15 : True := by
  w_top off
  exact True.intro
section
variable {w : World} {dp un : Nat} {gd : Option (List Code)} {cn : Str} {nm : List (Str × NameKind)} {ig ic : Bool} {mo : List (Str × Const)} {a : Addr} {ccd : Value} {cl : List (Str × Addr)} {outer : List Env} {A₀ : Around} {base h₀ : Heap} {L : Addr} {m : Str → Option Value} {news : List (Addr × Obj)} {s : Shared}
    {loose : List Str} {mean : ExcName → Option Value} {mg mb : Str → Option Value} {Q E : Value → Shared → Prop}
    (B : Below A₀ base outer h₀) (F : Fr h₀ L s.heap m) (X : (pre.heap_1 w.params).In h₀) (N : News h₀ L s.heap news) (T : Top pre.view_1 loose mean mg mb h₀) (hdp : dp < 900) (hun : un < 9000)
include B F X N T hdp hun


theorem call_same_ref {x y ta tb eD1 pD1 rL1 eD2 pD2 rL2 : Addr} {i j n1 n2 : Int} {u1 u2 : Tok}
    (h1 : RefD w news x (Str.ofString "item") (.ref ta) (.int i u1)) (h2 : RefD w news y (Str.ofString "item") (.ref tb) (.int j u2)) (ht1 : TabD w news ta n1 eD1 pD1 rL1) (ht2 : TabD w news tb n2 eD2 pD2 rL2)
    (k : ∀ h' tk', Fr h₀ L h' m → News h₀ L h' news → Q (.bool (decide (i = j) && decide (n1 = n2))) { s with heap := h', toks := tk' }) :
    wpAny (model (RowW.prog (OpenRow.toRowW (OpenLaw.row PySem.Challenge.rw_rh0225_01))) w) (ktrTop dp un gd cn ⟨.function, nm, ig, ic, mo⟩ L a ccd cl outer) (call (.ref 198) [.ref x, .ref y]) Q E s := by
  have X₁ : (pre.heap_1 w.params).In s.heap := X.keeps F.keep
  obtain ⟨d1, _, _, _, _, _, h11, h12⟩ := h1
  obtain ⟨d2, _, _, _, _, _, h21, h22⟩ := h2
  obtain ⟨d3, _, _, _, _, _, _, _, _, _, _, h31, h32⟩ := ht1
  obtain ⟨d4, _, _, _, _, _, _, _, _, _, _, h41, h42⟩ := ht2
  k_steps
  all_goals (first
    | (have e9 : (decide (i = j) && decide (n1 = n2)) = false := by simp_all
       rw [e9] at k; exact k _ _ (by assumption) (by assumption))
    | (have e9 : decide (i = j) = true := by first | exact decide_eq_true (by assumption) | (simp_all)
       rw [e9, Bool.true_and] at k
       first | exact k _ _ (by assumption) (by assumption) | (simp only [beq_iff_eq, Bool.beq_eq_decide_eq] at *; exact k _ _ (by assumption) (by assumption)))
    | fail "same_ref")
omit B F X N T hdp hun in
theorem cut_end {a b : Int} {P : Prop} (h : 0 < b) (k : ∀ r : Nat, a.fmod b = (r : Int) → (r : Int) < b → P) : P := by
  obtain ⟨r, e⟩ := Int.eq_ofNat_of_zero_le (Int.fmod_nonneg_of_pos a h)
  exact k r e (by rw [← e]; exact Int.fmod_lt_of_pos a h)
theorem call_cut {pn S : Addr} {p mny : Int} {u u' : Tok} {n n' : Nat} {vs : List Value} {ns : List Int} {rest : List (Addr × Obj)}
    (hn : news = (pn, lstO [.int p u, .ref S] n) :: rest) (ho : ∀ p ∈ rest, p.1 ≠ pn) (hS : (S, lstO vs n') ∈ rest) (hI : IntsAre vs ns) (hlen : vs.length ≤ 1000) (hp0 : 0 ≤ p) (hp1 : p < 900) (hm : mny = 7 ∨ mny = 3 ∨ mny = 9)
    (k : ∀ h' tk' (r : Nat) t u2 n2, Fr h₀ L h' m → News h₀ L h' ((pn, lstO [.int (p + 1) u2, .ref S] n2) :: rest) → (r : Int) < mny → Q (.int (r : Int) t) { s with heap := h', toks := tk' }) :
    wpAny (model (RowW.prog (OpenRow.toRowW (OpenLaw.row PySem.Challenge.rw_rh0225_01))) w) (ktrTop dp un gd cn ⟨.function, nm, ig, ic, mo⟩ L a ccd cl outer) (call (.ref 328) [.ref pn, .int mny u']) Q E s := by
  have X₁ : (pre.heap_1 w.params).In s.heap := X.keeps F.keep
  subst hn
  have hm0 : 0 < mny := by omega
  k_steps
  all_goals (exact cut_end hm0 fun r e hr => by rw [e]; exact k _ _ r _ _ _ (by assumption) (by assumption) hr)
end

local macro_rules | `(tactic| walk_at "call ref") => `(tactic| (k_here; (with_reducible refine isC 328 ?_); k_dflt (apply call_cut; walk_at "bfx"; (exact rfl); k_asm; (focus k_mem); k_asm; k_asm; omega; omega; decide); intro h' tk' r' t' u2' n2' F' N' hr1'; (try k_sweep)))
theorem off_P1 : True := by
  w_top off
  exact True.intro
/-! ## lists of marks, empty lists, sums of lists -/
def TagV (w : World) (l : List (Addr × Obj)) (kk : List Scal) (v : Value) : Prop :=
  ∃ x items n, v = .ref x ∧ (x, tupO items n) ∈ l ∧ ItemsAre (scalKind (RowW.prog (OpenRow.toRowW (OpenLaw.row PySem.Challenge.rw_rh0225_01))) w) kk items
theorem TagV.mono {w : World} {l l' : List (Addr × Obj)} {kk : List Scal} {v : Value} (h : TagV w l kk v) (hs : ∀ p ∈ l, p ∈ l') : TagV w l' kk v :=
  let ⟨x, i, n, e, hm, hi⟩ := h; ⟨x, i, n, e, hs _ hm, hi⟩
def TagsV (w : World) (l : List (Addr × Obj)) (ks : List (List Scal)) (vs : List Value) : Prop :=
  ks.length = vs.length ∧ ∀ (j : Nat) k v, ks[j]? = some k → vs[j]? = some v → TagV w l k v
theorem TagsV.mono {w : World} {l l' : List (Addr × Obj)} {ks : List (List Scal)} {vs : List Value} (h : TagsV w l ks vs) (hs : ∀ p ∈ l, p ∈ l') : TagsV w l' ks vs :=
  ⟨h.1, fun j k v a b => (h.2 j k v a b).mono hs⟩
theorem itemsAre_any {prog prog' : Program} {w w' : World} : ∀ {ks : List Scal} {vs : List Value}, ItemsAre (scalKind prog w) ks vs → ItemsAre (scalKind prog' w') ks vs
  | _, _, .nil => .nil
  | _, _, .cons h r => .cons h (itemsAre_any r)
section
open PySem.SeqAt
theorem tagV_eqAt {w : World} {A : Around} {s : Shared} {h₀ : Heap} {L : Addr} {news : List (Addr × Obj)} {k1 k2 : List Scal} {v x : Value} (N : News h₀ L s.heap news) (hv : TagV w news k1 v) (hx : TagV w news k2 x) (hu : A.units < cLine) : EqAt A s v x (decide (k1 = k2)) := by
  obtain ⟨a, i1, n1, rfl, m1, I1⟩ := hv
  obtain ⟨b, i2, n2, rfl, m2, I2⟩ := hx
  intro prog w' E Q hq
  exact wpAny_eqBool_tuple (knd := scalKind prog w') hu ⟨_, i1.toArray, n1, N.get m1, rfl, rfl, itemsAre_any I1⟩ ⟨_, i2.toArray, n2, N.get m2, rfl, rfl, itemsAre_any I2⟩ hq
theorem tagV_inj {w : World} {h h₀ : Heap} {L : Addr} {news : List (Addr × Obj)} {k1 k2 : List Scal} {v : Value} (N : News h₀ L h news) (h1 : TagV w news k1 v) (h2 : TagV w news k2 v) : k1 = k2 := by
  obtain ⟨a, i1, n1, rfl, m1, I1⟩ := h1
  obtain ⟨b, i2, n2, e, m2, I2⟩ := h2
  cases e
  have z := (N.get m1).symm.trans (N.get m2)
  have z2 := congrArg Obj.data (Option.some.inj z)
  simp only [Data.seq.injEq] at z2
  have : i1 = i2 := by simpa using congrArg Array.toList z2.1
  subst this
  exact ItemsAre.inj I1 I2
section
variable {w : World} {A : Around} {E : Value → Shared → Prop} {s : Shared} {h₀ : Heap} {L : Addr} {m : Str → Option Value} {news rest : List (Addr × Obj)} {prog : Program}
open Classical in
theorem notin_tags {l : Addr} {x : Value} {vs : List Value} {n : Nat} {ks : List (List Scal)} {kk : List Scal} {b : Bool} {Q : Value → Shared → Prop} (hu : A.in1.units < cLine) (N : News h₀ L s.heap news) (hl : (l, lstO vs n) ∈ news) (hk : TagsV w news ks vs) (hx : TagV w news kk x)
    (hb : (!decide (kk ∈ ks)) = b) (h : Q (.bool b) s) : wpAny (model prog w) A (compareOp .NotIn x (.ref l)) Q E s := by
  have tg : ∀ y ∈ vs, ∃ k ∈ ks, TagV w news k y := by
    intro y hy
    obtain ⟨j, hj, e⟩ := List.mem_iff_getElem.mp hy
    have hj' : j < ks.length := by rw [hk.1]; exact hj
    exact ⟨ks[j], List.getElem_mem hj', hk.2 j _ _ (List.getElem?_eq_getElem hj') (by rw [List.getElem?_eq_getElem hj, e])⟩
  refine notIn_listAt (items := vs.toArray) (fun y => decide (TagV w news kk y)) (News.isList N hl) ?_ ?_
  · intro y hy
    obtain ⟨k, _, hk'⟩ := tg y (by simpa using hy)
    have e : decide (TagV w news kk y) = decide (k = kk) := by
      apply decide_eq_decide.mpr
      exact ⟨fun h => tagV_inj N hk' h, fun h => h ▸ hk'⟩
    rw [e]
    exact tagV_eqAt N hk' hx hu
  · have e : (vs.toArray.any fun y => decide (TagV w news kk y)) = decide (kk ∈ ks) := by
      rw [Bool.eq_iff_iff]
      simp only [List.any_toArray, List.any_eq_true, decide_eq_true_eq]
      constructor
      · rintro ⟨y, hy, h1⟩
        obtain ⟨k, hk1, hk2⟩ := tg y hy
        rw [← tagV_inj N hk2 h1]; exact hk1
      · intro hkk
        obtain ⟨j, hj, e⟩ := List.mem_iff_getElem.mp hkk
        have hj' : j < vs.length := by rw [← hk.1]; exact hj
        exact ⟨vs[j], List.getElem_mem hj', hk.2 j _ _ (by rw [List.getElem?_eq_getElem hj, e]) (List.getElem?_eq_getElem hj')⟩
    rw [e, hb]; exact h
theorem notin_tags_new {l : Addr} {x : Value} {vs : List Value} {n : Nat} {ks : List (List Scal)} {kk : List Scal} {Q : Value → Shared → Prop} (hu : A.in1.units < cLine) (N : News h₀ L s.heap news) (hl : (l, lstO vs n) ∈ news) (hk : TagsV w news ks vs) (hx : TagV w news kk x)
    (hb : kk ∉ ks) (h : Q (.bool true) s) : wpAny (model prog w) A (compareOp .NotIn x (.ref l)) Q E s :=
  notin_tags hu N hl hk hx (by simp [hb]) h
theorem notin_tags_old {l : Addr} {x : Value} {vs : List Value} {n : Nat} {ks : List (List Scal)} {kk : List Scal} {Q : Value → Shared → Prop} (hu : A.in1.units < cLine) (N : News h₀ L s.heap news) (hl : (l, lstO vs n) ∈ news) (hk : TagsV w news ks vs) (hx : TagV w news kk x)
    (hb : kk ∈ ks) (h : Q (.bool false) s) : wpAny (model prog w) A (compareOp .NotIn x (.ref l)) Q E s :=
  notin_tags hu N hl hk hx (by simp [hb]) h
open Classical in
theorem index_tags {l : Addr} {x : Value} {vs : List Value} {n j : Nat} {ks : List (List Scal)} {kk : List Scal} {Q : Value → Shared → Prop} (hu : A.in1.units < cLine) (N : News h₀ L s.heap news) (hl : (l, lstO vs n) ∈ news) (hk : TagsV w news ks vs) (hx : TagV w news kk x)
    (hn : ks.Nodup) (hj : ks[j]? = some kk) (hz : vs.length ≤ 1000) (h : ∀ t tk', Q (.int (j : Int) t) { s with toks := tk' }) : wpAny (model prog w) A (call (.builtin "list.index") [.ref l, x]) Q E s := by
  have hj1 : j < ks.length := (List.getElem?_eq_some_iff.mp hj).1
  have hj2 : j < vs.length := by rw [← hk.1]; exact hj1
  have tg : ∀ i (hi : i < vs.length), ∃ hi' : i < ks.length, TagV w news ks[i] vs[i] := by
    intro i hi
    have hi' : i < ks.length := by rw [hk.1]; exact hi
    exact ⟨hi', hk.2 i _ _ (List.getElem?_eq_getElem hi') (List.getElem?_eq_getElem hi)⟩
  refine call_meets PySem.F.slot_list_index ⟨_, (N.get hl), rfl⟩ PySem.F.entry_list_index (PySem.F.args_list_index_2 _ _)
    (list_indexAt l vs.toArray n none #[] x (fun y => decide (TagV w news kk y)) j (by simpa using hj2) (by omega) ?_ ?_) ⟨(N.get hl), ?_, h _ _⟩
  · obtain ⟨hi', h1⟩ := tg j hj2
    have e : ks[j] = kk := by have := List.getElem?_eq_getElem hj1; rw [hj] at this; exact (Option.some.inj this).symm
    rw [e] at h1
    simpa using h1
  · intro i hi hlt
    obtain ⟨hi', h1⟩ := tg i (by simpa using hi)
    simp only [decide_eq_false_iff_not]
    intro h2
    have e := tagV_inj N (by simpa using h2) h1
    have : i = j := by
      have hj3 : ks[i]? = some kk := by rw [List.getElem?_eq_getElem hi', e]
      have := (List.getElem?_inj (i := i) (j := j) hi' hn).mp (by rw [hj3, hj])
      exact this
    omega
  · intro y hy
    obtain ⟨i, hi, e⟩ := List.mem_iff_getElem.mp (by simpa using hy : y ∈ vs)
    obtain ⟨hi', h1⟩ := tg i hi
    rw [e] at h1
    have e2 : decide (TagV w news kk y) = decide (ks[i] = kk) := by
      apply decide_eq_decide.mpr
      exact ⟨fun h => tagV_inj N h1 h, fun h => h ▸ h1⟩
    rw [e2]
    exact tagV_eqAt N h1 hx hu
theorem eq_nil {l b : Addr} {vs : List Value} {n n2 : Nat} {Q : Value → Shared → Prop} (hu : A.units < cLine) (N : News h₀ L s.heap news) (hl : (l, lstO vs n) ∈ news) (hb : (b, lstO [] n2) ∈ news) (h : Q (.bool (decide (vs = []))) s) : wpAny (model prog w) A (compareOp .Eq (.ref l) (.ref b)) Q E s := by
  cases vs with
  | nil => exact eq_listAt (e := fun _ => true) (News.isList N hl) (News.isList N hb) rfl hu (fun j h1 => absurd h1 (Nat.not_lt_zero j)) h
  | cons v r => exact eq_list_lengthsAt (News.isList N hl) (News.isList N hb) (by simp) hu (by simpa using h)
theorem ne_nil {l b : Addr} {vs : List Value} {n n2 : Nat} {Q : Value → Shared → Prop} (hu : A.units < cLine) (N : News h₀ L s.heap news) (hl : (l, lstO vs n) ∈ news) (hb : (b, lstO [] n2) ∈ news) (h : Q (.bool (!decide (vs = []))) s) : wpAny (model prog w) A (compareOp .NotEq (.ref l) (.ref b)) Q E s := by
  cases vs with
  | nil => exact RcNeAt.lists (e := fun _ => true) (News.isList N hl) (News.isList N hb) rfl hu (fun j h1 => absurd h1 (Nat.not_lt_zero j)) prog w E Q h
  | cons v r => exact RcNeAt.lists_lengths (News.isList N hl) (News.isList N hb) (by simp) hu prog w E Q (by simpa using h)
theorem last_S {l : Addr} {vs : List Value} {n : Nat} {t : Tok} {x : Value} {value slice : Expr} {Q : Value → Shared → Prop} (N : News h₀ L s.heap news) (hl : (l, lstO vs n) ∈ news) (hx : vs[vs.length - 1]? = some x) (h : Q x s)
    (hs : subscripted slice false (.ref l) (.int (-1) t) = operate [.ref l, .int (-1) t] (getItem (.ref l) (.int (-1) t)) := by with_unfolding_all rfl) :
    wpAny (model prog w) A (subscriptTail value slice (.ref l) (.int (-1) t)) Q E s := by
  have hp : vs.length - 1 < vs.length := (List.getElem?_eq_some_iff.mp hx).1
  refine tail_any (News.isList N hl).typeIs slot_list_getitem.lookup (wpAny_getItem_list_neg (News.isList N hl) (by decide) (by rw [List.size_toArray]; omega) (by decide) ?_ h) hs
  rw [List.size_toArray]
  have e : (-1 + (vs.length : Int)).toNat = vs.length - 1 := by omega
  rw [e]; simpa using hx
theorem add_S {a b : Addr} {vs ws : List Value} {n n2 : Nat} {Q : Value → Shared → Prop} (F : Fr h₀ L s.heap m) (N : News h₀ L s.heap news) (ha : (a, lstO vs n) ∈ news) (hb : (b, lstO ws n2) ∈ news) (hz : vs.length ≤ 1000) (hz2 : ws.length ≤ 1000)
    (h : ∀ D h', Fr h₀ L h' m → News h₀ L h' ((D, lstO (vs ++ ws) 0) :: news) → (∀ p ∈ news, p.1 < D) → Q (.ref D) { s with heap := h' }) : wpAny (model prog w) A (binaryOp .Add (.ref a) (.ref b)) Q E s := by
  refine add_lists F N (News.isList N ha) (News.isList N hb) (fun h' F' N' => ?_) (by rw [sizeLine_eq]; omega)
  exact h _ h' F' N' fun p hp => Heap.lt_size (N p hp).1
theorem last_any {l : Addr} {vs : List Value} {n : Nat} {t : Tok} {value slice : Expr} {Q : Value → Shared → Prop} (N : News h₀ L s.heap news) (hl : (l, lstO vs n) ∈ news) (hne : ¬ vs = []) (h : ∀ (x : Value) (j : Nat), vs[j]? = some x → Q x s)
    (hs : subscripted slice false (.ref l) (.int (-1) t) = operate [.ref l, .int (-1) t] (getItem (.ref l) (.int (-1) t)) := by with_unfolding_all rfl) :
    wpAny (model prog w) A (subscriptTail value slice (.ref l) (.int (-1) t)) Q E s := by
  have hp : 0 < vs.length := List.length_pos_iff.mpr hne
  have hx := List.getElem?_eq_getElem (l := vs) (i := vs.length - 1) (by omega)
  exact last_S N hl hx (h _ _ hx) hs
theorem item_mod {l : Addr} {vs : List Value} {n : Nat} {r : Int} {t : Tok} {value slice : Expr} {Q : Value → Shared → Prop} (N : News h₀ L s.heap news) (hl : (l, lstO vs n) ∈ news) (hne : ¬ vs = []) (hz : vs.length ≤ 1000) (h : ∀ (x : Value) (j : Nat), vs[j]? = some x → Q x s)
    (hs : subscripted slice false (.ref l) (.int (r.fmod (vs.length : Int)) t) = operate [.ref l, .int (r.fmod (vs.length : Int)) t] (getItem (.ref l) (.int (r.fmod (vs.length : Int)) t)) := by with_unfolding_all rfl) :
    wpAny (model prog w) A (subscriptTail value slice (.ref l) (.int (r.fmod (vs.length : Int)) t)) Q E s := by
  have hp : 0 < vs.length := List.length_pos_iff.mpr hne
  have h0 := Int.fmod_nonneg_of_pos r (b := (vs.length : Int)) (by omega)
  have h1 := Int.fmod_lt_of_pos r (b := (vs.length : Int)) (by omega)
  have hx := List.getElem?_eq_getElem (l := vs) (i := (r.fmod (vs.length : Int)).toNat) (by omega)
  exact item_S N hl hx h0 (by omega) (h _ _ hx) hs
end
end

local macro_rules | `(tactic| walk_at "nil") => `(tactic| (rotate_left; k_asm; rotate_left; (focus k_mem); rotate_right 2; k_units; (focus k_mem)))
local macro_rules | `(tactic| walk_at "compareOp Eq ref ref") => `(tactic| (k_here; k_dflt (apply eq_nil; walk_at "nil")))
local macro_rules | `(tactic| walk_at "compareOp NotEq ref ref") => `(tactic| (k_here; k_dflt (apply ne_nil; walk_at "nil")))
local macro_rules | `(tactic| walk_at "subscriptTail") => `(tactic| (k_here; (with_reducible show wpAny _ _ (subscriptTail _ _ (Value.ref _) (Value.int (-1) _)) _ _ _); k_dflt (apply last_S; k_asm; (focus k_mem); (first | with_reducible assumption | rfl); rotate_left; (with_unfolding_all rfl); rotate_right); (try dsimp only); (try k_sweep)))
local macro_rules | `(tactic| walk_at "binaryOp Add ref ref") => `(tactic| (k_here; k_dflt (apply add_S; k_asm; k_asm; (focus k_mem); (focus k_mem); iterate 2 (first | k_asm | exact Nat.le_of_ble_eq_true rfl)); intro D' h' F' N' l1; (try k_lt l1); (try k_sweep)))
theorem off_B16 : True := by
  w_top off
  exact True.intro
theorem sub_k2 {α : Type} {A B C P : α} {rest : List α} : ∀ p ∈ P :: ((A :: B :: []) ++ rest), p ∈ A :: B :: C :: P :: rest := by
  intro p hp
  simp only [List.mem_cons, List.mem_append, List.not_mem_nil, or_false] at *
  rcases hp with h | (h | h) | h <;> simp [h]
theorem sub_k2' {α : Type} {A B C D P : α} {rest : List α} : ∀ p ∈ P :: ((A :: B :: []) ++ rest), p ∈ A :: B :: D :: C :: P :: rest := by
  intro p hp
  simp only [List.mem_cons, List.mem_append, List.not_mem_nil, or_false] at *
  rcases hp with h | (h | h) | h <;> simp [h]
theorem sub_k4 {α : Type} {A B X Y C P : α} {rest : List α} : ∀ p ∈ P :: ((A :: B :: X :: Y :: []) ++ rest), p ∈ A :: B :: X :: Y :: C :: P :: rest := by
  intro p hp
  simp only [List.mem_cons, List.mem_append, List.not_mem_nil, or_false] at *
  rcases hp with h | (h | h | h | h) | h <;> simp [h]
theorem sub_k3 {α : Type} {A B C D P : α} {own rest : List α} : ∀ p ∈ P :: ((A :: B :: own) ++ rest), p ∈ A :: B :: (own ++ C :: D :: P :: rest) := by
  intro p hp
  simp only [List.mem_cons, List.mem_append, List.not_mem_nil, or_false] at *
  rcases hp with h | (h | h | h) | h <;> simp [h]
theorem sub_k3' {α : Type} {A B C D G P : α} {own rest : List α} : ∀ p ∈ P :: ((A :: B :: own) ++ rest), p ∈ A :: B :: (own ++ C :: G :: D :: P :: rest) := by
  intro p hp
  simp only [List.mem_cons, List.mem_append, List.not_mem_nil, or_false] at *
  rcases hp with h | (h | h | h) | h <;> simp [h]
theorem fresh_own {pn : Addr} {o : Obj} {rest own : List (Addr × Obj)} (h : ∀ q ∈ own, pn < q.1 ∧ AllLt q.1 rest) : ∀ p ∈ (pn, o) :: rest, ∀ q ∈ own, p.1 < q.1 := by
  intro p hp q hq
  rcases List.mem_cons.mp hp with rfl | hp
  · exact (h q hq).1
  · exact of_allLt (h q hq).2 p hp
theorem same_addr {pn : Addr} {o o2 : Obj} {rest : List (Addr × Obj)} : ∀ p ∈ (pn, o) :: rest, ∃ q ∈ (pn, o2) :: rest, p.1 = q.1 := by
  intro p hp
  rcases List.mem_cons.mp hp with rfl | hp
  · exact ⟨_, List.mem_cons_self, rfl⟩
  · exact ⟨p, .tail _ hp, rfl⟩
theorem fresh_arr {D D1 : Addr} {o o1 : Obj} {l l1 l2 own : List (Addr × Obj)} (h9 : ∀ p ∈ l, ∃ q ∈ l1, p.1 = q.1) (h0 : ∀ p ∈ l1, p ∈ l2) (hl : ∀ p ∈ l2, ∀ q ∈ own, p.1 < q.1) (h1 : ∀ p ∈ own ++ l2, p.1 < D1) (h2 : AllLt D (own ++ l2)) : ∀ p ∈ l, ∀ q ∈ (D, o) :: (D1, o1) :: own, p.1 < q.1 := by
  intro p hp q hq
  obtain ⟨p', hp', e⟩ := h9 p hp
  have hp2 := h0 p' hp'
  rw [e]
  rcases List.mem_cons.mp hq with rfl | hq
  · exact of_allLt h2 p' (List.mem_append_right _ hp2)
  rcases List.mem_cons.mp hq with rfl | hq
  · exact h1 p' (List.mem_append_right _ hp2)
  · exact hl p' hp2 q hq
theorem allLt_up {x y : Addr} (h : x < y) : ∀ {l : List (Addr × Obj)}, AllLt x l → AllLt y l
  | [], _ => trivial
  | _ :: _, z => ⟨Nat.lt_trans z.1 h, allLt_up h z.2⟩
theorem fresh_x {c pn d x : Addr} {o1 o2 : Obj} {rest : List (Addr × Obj)} (h : c < d ∧ pn < d ∧ AllLt d rest) (h2 : d < x) : ∀ q ∈ (x, o1) :: (d, o2) :: [], pn < q.1 ∧ AllLt q.1 rest :=
  List.forall_mem_cons.mpr ⟨⟨Nat.lt_trans h.2.1 h2, allLt_up h2 h.2.2⟩, List.forall_mem_cons.mpr ⟨h.2, List.forall_mem_nil _⟩⟩
theorem xyz_eq : ∀ {n : Nat}, (n : Int) < 3 → Txt.item (Str.ofString "XYZ") (n : Int) = xyz n
  | 0, _ => by decide
  | 1, _ => by decide
  | 2, _ => by decide
  | _ + 3, h => absurd h (by omega)
theorem dig_eq : ∀ {n : Nat}, (n : Int) < 3 → Str.ofString (toString (n : Int)) = dig n
  | 0, _ => rfl
  | 1, _ => rfl
  | 2, _ => rfl
  | _ + 3, h => absurd h (by omega)
section
variable {w : World} {dp un : Nat} {gd : Option (List Code)} {cn : Str} {nm : List (Str × NameKind)} {ig ic : Bool} {mo : List (Str × Const)} {a : Addr} {ccd : Value} {cl : List (Str × Addr)} {outer : List Env} {A₀ : Around} {base h₀ : Heap} {L : Addr} {m : Str → Option Value} {news : List (Addr × Obj)} {s : Shared}
    {loose : List Str} {mean : ExcName → Option Value} {mg mb : Str → Option Value} {Q E : Value → Shared → Prop}
    (B : Below A₀ base outer h₀) (F : Fr h₀ L s.heap m) (X : (pre.heap_1 w.params).In h₀) (N : News h₀ L s.heap news) (T : Top pre.view_1 loose mean mg mb h₀) (hdp : dp < 850) (hun : un < 8700)
include B F X N T hdp hun


omit B F X N T hdp hun in
theorem var_end {rest : List (Addr × Obj)} {x d D D1 : Addr} {o o1 : Obj} {r : Nat} {t1 t2 t3 u u2 : Tok} {n : Nat} (h : (r : Int) < 3) : RefD w (((D, o) :: (D1, o1) :: (x, instObj 117 d) :: (d, dictOf [⟨PyData.keyHash w.params (Str.ofString "kind"), .str (Str.ofString "kind") t1, .str (Str.ofString "var") u⟩, ⟨PyData.keyHash w.params (Str.ofString "owner"), .str (Str.ofString "owner") t2, .none⟩, ⟨PyData.keyHash w.params (Str.ofString "key"), .str (Str.ofString "key") t3, .str (Txt.item (Str.ofString "XYZ") (r : Int)) u2⟩] n) :: []) ++ rest) x (Str.ofString "var") .none (.str (xyz r) u2) := by
  rw [← xyz_eq h]
  exact refd_mk.mono fun p hp => List.mem_append_left _ (.tail _ (.tail _ hp))
omit B F X N T hdp hun in
theorem arr_end {own rest : List (Addr × Obj)} {x ar D D1 : Addr} {o o1 : Obj} {r : Nat} {u : Tok} (h : RefD w own x (Str.ofString "item") (.ref ar) (.int ((r : Int) + 1 - 1) u)) : RefD w (((D, o) :: (D1, o1) :: own) ++ rest) x (Str.ofString "item") (.ref ar) (.int (r : Int) u) := by
  have e : (r : Int) + 1 - 1 = r := by omega
  rw [e] at h
  exact h.mono fun p hp => List.mem_append_left _ (.tail _ (.tail _ hp))
theorem call_key {pn S md t ar : Addr} {p : Int} {u : Tok} {n n' n3 : Nat} {vs mvs : List Value} {ns : List Int} {rest rest0 : List (Addr × Obj)}
    (hn : news = (pn, lstO [.int p u, .ref S] n) :: rest) (ho : ∀ p ∈ rest, p.1 ≠ pn) (hS : (S, lstO vs n') ∈ rest) (hI : IntsAre vs ns) (hlen : vs.length ≤ 1000) (hp0 : 0 ≤ p) (hp1 : p < 800)
    (hmd : (md, lstO mvs n3) ∈ rest) (hml : mvs.length ≤ 1000) (hm : ∀ (j : Nat) (v : Value), mvs[j]? = some v → ∃ (mt nm : Addr) (n4 : Nat) (u5 u6 : Tok) (sp : Nat), v = Value.ref mt ∧ (mt, tupO [.ref nm, .int (sp : Int) u5] n4) ∈ rest ∧ RefD w rest0 nm (Str.ofString "item") (.ref t) (.int (sp : Int) u6)) (hA : ArrD w rest ar 6)
    (k : ∀ h' tk' tp own tg kv ta items n4 n5 u2 n2, Fr h₀ L h' m → News h₀ L h' ((pn, lstO [.int (p + 2) u2, .ref S] n2) :: (own ++ rest)) → (tp, tupO [kv, .ref ta] n4) ∈ own → (ta, tupO items n5) ∈ own → ItemsAre (scalKind (RowW.prog (OpenRow.toRowW (OpenLaw.row PySem.Challenge.rw_rh0225_01))) w) (Tag.tup tg) items → KeyV w (own ++ rest0) t ar kv tg → Tag.ok tg → (∀ p ∈ news, ∀ q ∈ own, p.1 < q.1) → Q (.ref tp) { s with heap := h', toks := tk' }) :
    wpAny (model (RowW.prog (OpenRow.toRowW (OpenLaw.row PySem.Challenge.rw_rh0225_01))) w) (ktrTop dp un gd cn ⟨.function, nm, ig, ic, mo⟩ L a ccd cl outer) (call (.ref 335) [.ref pn, .ref md, .ref ar]) Q E s := by
  have X₁ : (pre.heap_1 w.params).In s.heap := X.keeps F.keep
  subst hn
  have ep : p + 2 = p + 1 + 1 := by omega
  rw [ep] at k
  clear ep
  k_steps
  all_goals (try (
    (with_reducible show wpAny _ _ (subscriptTail _ _ (Value.ref md) (Value.int (-1) _)) _ _ _)
    refine' last_any ?qN ?qm ?qne ?_ ?qh1
    (case qN => k_asm)
    (case qm => k_mem)
    (case qne => assumption)
    (case qh1 => with_unfolding_all rfl)
    intro x9 j9 hx9
    obtain ⟨mt, nmA, n4, u5, u6, sp, e9, hmt, hrf⟩ := hm _ _ hx9
    subst e9
    k_steps))
  all_goals (try (
    (with_reducible show wpAny _ _ (subscriptTail _ _ (Value.ref md) (Value.int (Int.fmod _ _) _)) _ _ _)
    refine' item_mod ?qN ?qm ?qne ?qz ?_ ?qh1
    (case qN => k_asm)
    (case qm => k_mem)
    (case qne => assumption)
    (case qz => assumption)
    (case qh1 => with_unfolding_all rfl)
    intro x9 j9 hx9
    obtain ⟨mt, nmA, n4, u5, u6, sp, e9, hmt, hrf⟩ := hm _ _ hx9
    subst e9
    k_steps))
  all_goals (try (exfalso; (with_reducible rename ¬(mvs = []) => hne); (with_reducible rename ((mvs.length : Int) = 0) => hz9); exact hne (List.length_eq_zero_iff.mp (by omega))))
  · exact k _ _ _ (_ :: _ :: []) (Tag.whole _) _ _ [_, _] _ _ _ _ (by assumption) (News.sub (by assumption) sub_k2) (List.mem_cons_self) (List.mem_cons_of_mem _ List.mem_cons_self) (.cons is_str (.cons is_int .nil)) (⟨_, rfl⟩) (Int.ofNat_lt.mp (by assumption)) (fresh_own (List.forall_mem_cons.mpr ⟨And.right (And.right (by assumption)), List.forall_mem_cons.mpr ⟨And.right (by assumption), List.forall_mem_nil _⟩⟩))
  · exact k _ _ _ (_ :: _ :: []) (Tag.text _) _ _ [_, _] _ _ _ _ (by assumption) (News.sub (by assumption) sub_k2) (List.mem_cons_self) (List.mem_cons_of_mem _ List.mem_cons_self) (.cons is_str (.cons is_int .nil)) (⟨_, by rw [dig_eq (by assumption)]⟩) (Int.ofNat_lt.mp (by assumption)) (fresh_own (List.forall_mem_cons.mpr ⟨And.right (And.right (by assumption)), List.forall_mem_cons.mpr ⟨And.right (by assumption), List.forall_mem_nil _⟩⟩))
  · exact k _ _ _ (_ :: _ :: _ :: _ :: []) (Tag.var _) _ _ [_, _] _ _ _ _ (by assumption) (News.sub (by assumption) sub_k4) (List.mem_cons_self) (List.mem_cons_of_mem _ List.mem_cons_self) (.cons is_str (.cons is_int .nil)) (⟨_, _, rfl, var_end (by assumption)⟩) (Int.ofNat_lt.mp (by assumption)) (fresh_own (List.forall_mem_cons.mpr ⟨And.right (And.right (And.right (And.right (by assumption)))), List.forall_mem_cons.mpr ⟨And.right (And.right (And.right (by assumption))), fresh_x (by assumption) (by assumption)⟩⟩))
  · exact k _ _ _ (_ :: _ :: _) (Tag.arr _) _ _ [_, _] _ _ _ _ (by assumption) (News.sub (by assumption) sub_k3) (List.mem_cons_self) (List.mem_cons_of_mem _ List.mem_cons_self) (.cons is_str (.cons is_int .nil)) (⟨_, _, rfl, arr_end (by assumption)⟩) (Int.ofNat_lt.mp (by assumption)) (fresh_arr same_addr (fun _ h => .tail _ (.tail _ h)) (by assumption) (by assumption) (And.right (by assumption)))
  · exact k _ _ _ (_ :: _ :: _) (Tag.arr _) _ _ [_, _] _ _ _ _ (by assumption) (News.sub (by assumption) sub_k3') (List.mem_cons_self) (List.mem_cons_of_mem _ List.mem_cons_self) (.cons is_str (.cons is_int .nil)) (⟨_, _, rfl, arr_end (by assumption)⟩) (Int.ofNat_lt.mp (by assumption)) (fresh_arr same_addr (fun _ h => .tail _ (.tail _ (.tail _ h))) (by assumption) (by assumption) (And.right (by assumption)))
  all_goals exact k _ _ _ (_ :: _ :: []) (Tag.item _) _ _ [_, _] _ _ _ _ (by assumption) (News.sub (by assumption) sub_k2') (List.mem_cons_self) (List.mem_cons_of_mem _ List.mem_cons_self) (.cons is_str (.cons is_int .nil)) (⟨_, _, rfl, RefD.mono hrf fun p hp => List.mem_append_right _ hp⟩) (trivial) (fresh_own (List.forall_mem_cons.mpr ⟨And.right (And.right (And.right (by assumption))), List.forall_mem_cons.mpr ⟨And.right (And.right (by assumption)), List.forall_mem_nil _⟩⟩))
end

theorem off_P2 : True := by
  w_top off
  exact True.intro
/-- the walk halts here -/
structure Held (P : Prop) : Prop where
  get : P
theorem held {P : Prop} (h : Held P) : P := h.get
theorem heldC (l : List Nat) {prog : Program} {w : World} {A : Around} {n : Nat} {as : List Value} {Q E : Value → Shared → Prop} {s : Shared} (_ : n ∈ l) (h : Held (wpAny (model prog w) A (call (.ref n) as) Q E s)) : wpAny (model prog w) A (call (.ref n) as) Q E s := h.get
theorem held_get {P : Prop} (h : Held P) : P := h.get
theorem held_open {P : Prop} (h : P) : Held P := ⟨h⟩
/-! ## a list comprehension of one clause, over any iterator, with any target and tests -/
section
open LCg
variable {prog : Program} {w : World} {A : Around} {E : Value → Shared → Prop} {s : Shared} {h₀ : Heap} {L : Addr} {m : Str → Option Value} {env : Env}
theorem cg_loop {elt target iter : Expr} {ifs : List Expr} {scope : Scope} {pos : Pos} {it acc : Value} {env : Env} {R : Result → Shared → Prop} (I : Nat → Shared → Prop)
    (turn : ∀ n s, I n s → wpAny (model prog w) A (pyNext it) (fun r s₁ => match r with
      | none => R (.ok .next) s₁
      | some v => wpAny (model prog w) A (letOwnedTupleGo target it v) (fun _ s₀ => wpAny (model prog w) A (assign target env v) (fun _ s₂ =>
          wpAny (model prog w) A (forIn ifs true fun c r => if r = true then do let ok ← isTrue c env (eval c env); pure (ForInStep.yield ok) else pure (ForInStep.yield r)) (fun ok s₃ =>
            if ok = true then wpAny (model prog w) A (eval elt env) (fun x s₄ =>
              wpAny (model prog w) A (call (.builtin "list.append") [acc, x]) (fun _ s₅ => ∃ m, m < n ∧ I m s₅) (notedBy (model prog w) A env fun e s' => R (.error e) s') s₄) (notedBy (model prog w) A env fun e s' => R (.error e) s') s₃
            else ∃ m, m < n ∧ I m s₃) (notedBy (model prog w) A env fun e s' => R (.error e) s') s₂)
          (notedBy (model prog w) A env fun e s' => R (.error e) s') s₀) (notedBy (model prog w) A env fun e s' => R (.error e) s') s₁) (notedBy (model prog w) A env fun e s' => R (.error e) s') s)
    (n : Nat) (h : I n s) : codeAny (model prog w) A (.compLoop (.ListComp elt [⟨target, iter, ifs, 0⟩] scope pos) 0 it acc env) R s := by
  refine codeAny_loop rfl I (fun n s hI => ?_) n h
  show wpAny _ A ((compTurn (.ListComp elt [⟨target, iter, ifs, 0⟩] scope pos) 0 it acc env).onRaise (fun x => do noteFrame x env; theTreesLotGoes x)) _ _ s
  refine wpAny_noted ?_
  rw [compTurn_list]
  refine wpAny_bind (wpAny_standAt (wpAny_bind (wpAny_mono (turn n s hI) (fun r s₁ h₁ => ?_) fun _ _ h' => h')))
  cases r with
  | none => exact wpAny_pure h₁
  | some v =>
    refine wpAny_bind (wpAny_mono h₁ (fun _ s₀ h₀' => ?_) fun _ _ h' => h')
    refine wpAny_bind (wpAny_mono h₀' (fun _ s₂ h₂ => wpAny_bind (wpAny_mono h₂ (fun ok s₃ h₃ => ?_) fun _ _ h' => h')) fun _ _ h' => h')
    cases ok with
    | false => exact wpAny_pure ⟨rfl, h₃⟩
    | true =>
      exact wpAny_bind (wpAny_bind (wpAny_mono h₃ (fun x s₄ h₄ => wpAny_bind (wpAny_mono h₄ (fun _ s₅ h₅ => wpAny_pure (wpAny_pure ⟨rfl, h₅⟩)) fun _ _ h' => h')) fun _ _ h' => h'))

theorem cg_pre {target : Expr} {it : Value} {X : Shared → Prop} {Q2 : Value → Shared → Prop}
    (h : wpAny (model prog w) A (pyNext it) (fun r s₁ => ∃ v, r = some v ∧ wpAny (model prog w) A (letOwnedTupleGo target it v) (fun _ s₀ => Q2 v s₀) E s₁) E s) :
    wpAny (model prog w) A (pyNext it) (fun r s₁ => match r with
      | none => X s₁
      | some v => wpAny (model prog w) A (letOwnedTupleGo target it v) (fun _ s₀ => Q2 v s₀) E s₁) E s :=
  wpAny_mono h (fun r s₁ h₁ => by obtain ⟨v, rfl, h₂⟩ := h₁; exact h₂) fun _ _ e => e

/-- the end of a turn of a comprehension -/
def CGEnd (h₀ : Heap) (L : Addr) (m : Str → Option Value) (s : Shared) (C D : Addr) (wl : List (Addr × Obj)) (ys : List Value) (J : List Value → List (Addr × Obj) → Prop) (ys' : List Value) (s' : Shared) : Prop :=
  ∃ h' tk' oC' m'' news', s' = { s with heap := h', toks := tk' } ∧ NsObj oC' m'' ∧ Fr h₀ L h' m ∧ News h₀ L h' ((C, oC') :: (D, lst ys) :: (wl ++ news')) ∧ (∀ p ∈ news', p.1 ≠ C ∧ p.1 ≠ D ∧ ∀ q ∈ wl, p.1 ≠ q.1) ∧ J ys' news'

/-- what an iterator, behind it, must meet -/
structure CGo (prog : Program) (w : World) (A : Around) (h₀ : Heap) (L : Addr) (m : Str → Option Value) (env : Env) (elt target : Expr) (ifs : List Expr) (scope : Scope) (cl : List (Str × Addr)) (s : Shared) (Fin : List Value → List (Addr × Obj) → Prop)
    (I : Addr) (wr : List Addr) (srcs : List (Addr × Obj)) (n : Nat) (P : Nat → Value → Heap → Prop) (St : Nat → Heap → Prop) (J : Nat → List Value → List (Addr × Obj) → Prop) (news : List (Addr × Obj)) : Prop where
  frame : ∀ i h h', St i h → (∀ b ∈ wr ++ srcs.map (·.1), ∀ o, h.get? b = some o → h'.get? b = some o) → St i h'
  item : ∀ i (s : Shared) (Q : Value → Shared → Prop) (E : Value → Shared → Prop), i < n → St i s.heap →
    (∀ v h' tk, P i v h' → St (i + 1) h' → (∀ b o, b ∉ wr → s.heap.get? b = some o → h'.get? b = some o) → Q v { s with heap := h', toks := tk }) →
    wpAny (model prog w) A (pyNext (.ref I)) (fun r s₁ => ∃ v, r = some v ∧ wpAny (model prog w) A (letOwnedTupleGo target (.ref I) v) (fun _ s₂ => Q v s₂) E s₁) E s
  done : ∀ (s : Shared) (Q : Option Value → Shared → Prop) (E : Value → Shared → Prop), St n s.heap →
    (∀ h' tk, (∀ b o, b ∉ wr → s.heap.get? b = some o → h'.get? b = some o) → Q none { s with heap := h', toks := tk }) → wpAny (model prog w) A (pyNext (.ref I)) Q E s
  self : ∀ (s : Shared) (Q : Value → Shared → Prop) (E : Value → Shared → Prop), St 0 s.heap → Q (.ref I) s → wpAny (model prog w) A (pyIter (.ref I)) Q E s
  has : ∀ i h, St i h → ∀ b ∈ wr, ∃ o, h.get? b = some o
  st0 : St 0 s.heap
  F : Fr h₀ L s.heap m
  N : News h₀ L s.heap news
  wrL : ∀ b ∈ wr, b ≠ L ∧ h₀.get? b = none
  off : ∀ p ∈ news, p.1 ∉ wr
  src : ∀ i ys news, J i ys news → ∀ p ∈ srcs, p ∈ news
  few : ∀ i ys news, J i ys news → ys.length ≤ i
  size : n ≤ sizeLine
  J0 : J 0 [] news
  turn : ∀ i v ys news wl C oC m' D h tk (E' : Value → Shared → Prop), i < n → J i ys news → P i v h → NsObj oC m' → Fr h₀ L h m → News h₀ L h ((C, oC) :: (D, lst ys) :: (wl ++ news)) → (∀ p ∈ news, p.1 ≠ C ∧ p.1 ≠ D) → (∀ p ∈ wl, p.1 ≠ C ∧ p.1 ≠ D) → C ≠ D → (∀ p ∈ news, ∀ q ∈ wl, p.1 ≠ q.1) →
    wpAny (model prog w) A (assign target (compEnvC scope cl C env) v) (fun _ s₂ =>
      wpAny (model prog w) A (forIn ifs true fun c r => if r = true then do let ok ← isTrue c (compEnvC scope cl C env) (eval c (compEnvC scope cl C env)); pure (ForInStep.yield ok) else pure (ForInStep.yield r)) (fun ok s₃ =>
        if ok = true then wpAny (model prog w) A (eval elt (compEnvC scope cl C env)) (fun y s₄ => CGEnd h₀ L m s C D wl ys (J (i + 1)) (ys ++ [y]) s₄) E' s₃ else CGEnd h₀ L m s C D wl ys (J (i + 1)) ys s₃) E' s₂) E' { s with heap := h, toks := tk }
  fin : ∀ ys news', J n ys news' → Fin ys news'

theorem cg_wl {h : Heap} : ∀ {wr : List Addr}, (∀ b ∈ wr, ∃ o, h.get? b = some o) → ∃ wl : List (Addr × Obj), (∀ p ∈ wl, p.1 ∈ wr ∧ h.get? p.1 = some p.2) ∧ ∀ b ∈ wr, ∃ p ∈ wl, p.1 = b
  | [], _ => ⟨[], by simp, by simp⟩
  | b :: r, h => by
    obtain ⟨o, e⟩ := h b List.mem_cons_self
    obtain ⟨wl, h1, h2⟩ := cg_wl (wr := r) fun c hc => h c (List.mem_cons_of_mem _ hc)
    refine ⟨(b, o) :: wl, fun p hp => ?_, fun c hc => ?_⟩
    · rcases List.mem_cons.mp hp with rfl | hp
      · exact ⟨List.mem_cons_self, e⟩
      · exact ⟨List.mem_cons_of_mem _ (h1 p hp).1, (h1 p hp).2⟩
    · rcases List.mem_cons.mp hc with rfl | hc
      · exact ⟨_, List.mem_cons_self, rfl⟩
      · obtain ⟨p, hp, e⟩ := h2 c hc
        exact ⟨p, List.mem_cons_of_mem _ hp, e⟩

theorem cg_block {elt target iter : Expr} {ifs : List Expr} {scope : Scope} {cl : List (Str × Addr)} {pos : Pos} {s₂ : Shared} {I : Addr} {wr : List Addr} {srcs : List (Addr × Obj)} {n : Nat} {P : Nat → Value → Heap → Prop} {St : Nat → Heap → Prop} {J : Nat → List Value → List (Addr × Obj) → Prop} {news : List (Addr × Obj)}
    {Fin : List Value → List (Addr × Obj) → Prop} {RR : Value → Addr → Result → Shared → Prop}
    (G : CGo prog w A h₀ L m env elt target ifs scope cl s₂ Fin I wr srcs n P St J news)
    (hcell : ∀ y ∈ scope.names, y.2 ≠ .cell) (hkind : scope.kind = .function)
    (hRR : ∀ D C h tk m' ys news', Fr h₀ L h m → News h₀ L h ((D, lst ys) :: news') → (∀ p ∈ news', p.1 ≠ D) → h.Ns C m' → h₀.get? C = none → h₀.get? D = none → C ≠ L → D ≠ L → C ≠ D → (∀ p ∈ news', p.1 ≠ C) → Fin ys news' → RR (.ref D) C (.ok .next) { s₂ with heap := h, toks := tk }) :
    wpAny (model prog w) A (newList []) (fun acc s₃ => wpAny (model prog w) A (newFunctionEnv scope env.globals cl [] env.qual none .none (some env)) (fun cenv s₄ =>
      codeAny (model prog w) A (.compStart (.ListComp elt [⟨target, iter, ifs, 0⟩] scope pos) 0 (.ref I) acc { cenv with scope := relabel scope env }) (RR acc cenv.locals) s₄) E s₃) E s₂ := by
  have F := G.F
  have N := G.N
  refine wpAny_newObj_type (wpAny_newFunctionEnv hcell (by intro y hy; simp at hy) (fun h₁ hns₁ hsb₁ => ?_) hkind)
  dsimp only at hns₁ hsb₁ ⊢
  generalize hH2 : s₂.heap.push { cls := .type "list", dict := none, data := .seq ([] : List Value).toArray } = H2 at hns₁ hsb₁ ⊢
  have hC : H2.objs.size = s₂.heap.objs.size + 1 := by rw [← hH2, Heap.size_push]
  have hDC : s₂.heap.objs.size ≠ H2.objs.size := by rw [hC]; exact Nat.ne_of_lt (Nat.lt_succ_self _)
  have below : ∀ b, b < s₂.heap.objs.size → b ≠ H2.objs.size ∧ b ≠ s₂.heap.objs.size := fun b hb => ⟨by rw [hC]; exact Nat.ne_of_lt (Nat.lt_succ_of_lt hb), Nat.ne_of_lt hb⟩
  have old : ∀ b o, s₂.heap.get? b = some o → h₁.get? b = some o := fun b o e => hsb₁.extBut b o (below b (Heap.lt_size e)).1 (Heap.get?_push_of_some _ (hH2 ▸ Heap.get?_push_of_some _ e))
  have hacc : h₁.get? s₂.heap.objs.size = some (lst []) := hsb₁.extBut _ _ hDC (Heap.get?_push_of_some _ (hH2 ▸ Heap.get?_push_size _ rfl))
  have hst₁ : St 0 h₁ := G.frame _ _ _ G.st0 fun b _ o e => old b o e
  have fresh : ∀ a, s₂.heap.objs.size ≤ a → s₂.heap.get? a = none := fun a ha => by
    cases e : s₂.heap.get? a with
    | none => rfl
    | some o' => exact absurd (Heap.lt_size e) (Nat.not_lt.mpr ha)
  have fresh₀ : ∀ a, s₂.heap.objs.size ≤ a → h₀.get? a = none := fun a ha => by
    cases e : h₀.get? a with
    | none => rfl
    | some o' => have := F.keep a o' e; rw [fresh a ha] at this; cases this
  have hD₀ : h₀.get? s₂.heap.objs.size = none := fresh₀ _ (Nat.le_refl _)
  have hC₀ : h₀.get? H2.objs.size = none := fresh₀ _ (by rw [hC]; exact Nat.le_succ _)
  have hLlt : L < s₂.heap.objs.size := F.ns.lt
  have hDL : s₂.heap.objs.size ≠ L := Ne.symm (below L hLlt).2
  have hCL : H2.objs.size ≠ L := Ne.symm (below L hLlt).1
  have hwC : ∀ b ∈ wr, b ≠ H2.objs.size ∧ b ≠ s₂.heap.objs.size := fun b hb => by
    obtain ⟨o, e⟩ := G.has _ _ G.st0 b hb
    exact below b (Heap.lt_size e)
  have offN : ∀ p ∈ news, p.1 ≠ H2.objs.size ∧ p.1 ≠ s₂.heap.objs.size := fun p hp => below _ (Heap.lt_size (N p hp).1)
  generalize hDe : s₂.heap.objs.size = D at *
  generalize hCe : H2.objs.size = C at *
  have loop : ∀ s₃ : Shared, s₃ = { s₂ with heap := h₁, toks := s₂.toks + ([] : List (Str × Value)).length } →
      codeAny (model prog w) A (.compLoop (.ListComp elt [⟨target, iter, ifs, 0⟩] scope pos) 0 (.ref I) (.ref D) (compEnvC scope cl C env)) (RR (.ref D) C) s₃ := by
    rintro s₃ rfl
    refine cg_loop
      (fun k s' => ∃ h' tk i ys oC m' news', s' = { s₂ with heap := h', toks := tk } ∧ i ≤ n ∧ k = n + 1 - i ∧ St i h' ∧ Fr h₀ L h' m ∧ NsObj oC m' ∧ News h₀ L h' ((C, oC) :: (D, lst ys) :: news') ∧
        (∀ p ∈ news', p.1 ≠ C ∧ p.1 ≠ D ∧ p.1 ∉ wr) ∧ J i ys news') ?_ (n + 1)
      ?_
    · rintro k s' ⟨h', tk, i, ys, oC, m', news', rfl, hi, rfl, hst', F', hoC, N', off', hJ⟩
      have hIC : ∀ b o, b ∉ wr → h'.get? b = some o → True := fun _ _ _ _ => trivial
      by_cases hlt : i < n
      · refine cg_pre (G.item i { s₂ with heap := h', toks := tk } _ _ hlt hst' fun v h₂ tk₂ hPv hst₂ hk₂ => ?_)
        have N₂ : News h₀ L h₂ ((C, oC) :: (D, lst ys) :: news') := fun p hp => by
          refine ⟨hk₂ _ _ ?_ (N' p hp).1, (N' p hp).2⟩
          rcases List.mem_cons.mp hp with rfl | hp
          · exact fun hm => (hwC _ hm).1 rfl
          rcases List.mem_cons.mp hp with rfl | hp
          · exact fun hm => (hwC _ hm).2 rfl
          · exact (off' p hp).2.2
        have F₂ : Fr h₀ L h₂ m := ⟨F'.ns.at' fun o e => hk₂ L o (fun hm => (G.wrL _ hm).1 rfl) e, fun b o e => hk₂ b o (fun hm => by rw [(G.wrL _ hm).2] at e; cases e) (F'.keep b o e), F'.above⟩
        obtain ⟨wl, hw1, hw2⟩ := cg_wl (G.has _ _ hst₂)
        have N₃ : News h₀ L h₂ ((C, oC) :: (D, lst ys) :: (wl ++ news')) := fun p hp => by
          rcases List.mem_cons.mp hp with rfl | hp
          · exact N₂ _ List.mem_cons_self
          rcases List.mem_cons.mp hp with rfl | hp
          · exact N₂ _ (.tail _ (.head _))
          rcases List.mem_append.mp hp with hp | hp
          · exact ⟨(hw1 p hp).2, G.wrL _ (hw1 p hp).1⟩
          · exact N₂ _ (.tail _ (.tail _ hp))
        have hCD : C ≠ D := Ne.symm hDC
        have back : ∀ ys' s₄, CGEnd h₀ L m s₂ C D wl ys (J (i + 1)) ys' s₄ → ∃ h₄ tk₄ oC' m'' news₄, s₄ = { s₂ with heap := h₄, toks := tk₄ } ∧ NsObj oC' m'' ∧ Fr h₀ L h₄ m ∧ News h₀ L h₄ ((C, oC') :: (D, lst ys) :: news₄) ∧ (∀ p ∈ news₄, p.1 ≠ C ∧ p.1 ≠ D ∧ p.1 ∉ wr) ∧ J (i + 1) ys' news₄ ∧ St (i + 1) h₄ := by
          rintro ys' s₄ ⟨h₄, tk₄, oC', m'', news₄, rfl, z1, z2, z3, z4, z5⟩
          refine ⟨h₄, tk₄, oC', m'', news₄, rfl, z1, z2, fun p hp => z3 p ?_, fun p hp => ⟨(z4 p hp).1, (z4 p hp).2.1, fun hm => by obtain ⟨q, hq, e⟩ := hw2 _ hm; exact (z4 p hp).2.2 q hq e.symm⟩, z5, G.frame _ _ _ hst₂ fun b hb o e => ?_⟩
          · rcases List.mem_cons.mp hp with rfl | hp
            · exact List.mem_cons_self
            rcases List.mem_cons.mp hp with rfl | hp
            · exact .tail _ (.head _)
            · exact .tail _ (.tail _ (List.mem_append_right _ hp))
          · rcases List.mem_append.mp hb with hb | hb
            · obtain ⟨p, hp, rfl⟩ := hw2 b hb
              have e2 := (hw1 p hp).2
              rw [e] at e2
              cases e2
              exact (z3 p (.tail _ (.tail _ (List.mem_append_left _ hp)))).1
            · obtain ⟨p, hp, rfl⟩ := List.mem_map.mp hb
              have e2 := (N₂ p (.tail _ (.tail _ (G.src _ _ _ hJ p hp)))).1
              rw [e] at e2
              cases e2
              exact (z3 p (.tail _ (.tail _ (List.mem_append_right _ (G.src _ _ _ z5 p hp))))).1
        refine wpAny_mono (G.turn i v ys news' wl C oC m' D h₂ tk₂ _ hlt hJ hPv hoC F₂ N₃ (fun p hp => ⟨(off' p hp).1, (off' p hp).2.1⟩) (fun p hp => hwC _ (hw1 p hp).1) hCD (fun p hp q hq e => (off' p hp).2.2 (e ▸ (hw1 q hq).1))) (fun _ s₄ h₄ => ?_) fun _ _ e => e
        refine wpAny_mono h₄ (fun ok s₅ h₅ => ?_) fun _ _ e => e
        cases ok with
        | true =>
          simp only [if_true] at h₅ ⊢
          refine wpAny_mono h₅ (fun y s₆ h₆ => ?_) fun _ _ e => e
          obtain ⟨h₄, tk₄, oC', m'', news₄, rfl, z1, z2, z3, z4, z5, z6⟩ := back _ _ h₆
          have zD := (z3 (D, lst ys) (.tail _ (.head _))).1
          have hyl : ys.length ≤ sizeLine := Nat.le_trans (G.few _ _ _ hJ) (Nat.le_trans hi G.size)
          refine append_at (hsz := by show ys.toArray.size ≤ sizeLine; rw [List.size_toArray]; exact hyl) zD fun h₅ hs₅ hD₅ => ?_
          refine ⟨n + 1 - (i + 1), by omega, h₅, tk₄, i + 1, ys ++ [y], oC', m'', news₄, rfl, hlt, rfl, G.frame _ _ _ z6 fun b hb o e => hs₅.extBut b o ?_ e, z2.change hs₅ hDL hD₀, z1, fun p hp => ?_, z4, z5⟩
          · rcases List.mem_append.mp hb with hb | hb
            · exact (hwC b hb).2
            · obtain ⟨p, hp, rfl⟩ := List.mem_map.mp hb
              exact (z4 p (G.src _ _ _ z5 p hp)).2.1
          · rcases List.mem_cons.mp hp with rfl | hp
            · exact ⟨hs₅.extBut _ _ (Ne.symm hDC) (z3 _ List.mem_cons_self).1, hCL, hC₀⟩
            rcases List.mem_cons.mp hp with rfl | hp
            · exact ⟨hD₅.trans (congrArg some (lst_snoc ys y)), hDL, hD₀⟩
            · exact ⟨hs₅.extBut _ _ (z4 p hp).2.1 (z3 _ (.tail _ (.tail _ hp))).1, (z3 _ (.tail _ (.tail _ hp))).2⟩
        | false =>
          simp only [Bool.false_eq_true, if_false] at h₅ ⊢
          obtain ⟨h₄, tk₄, oC', m'', news₄, rfl, z1, z2, z3, z4, z5, z6⟩ := back _ _ h₅
          exact ⟨n + 1 - (i + 1), by omega, h₄, tk₄, i + 1, ys, oC', m'', news₄, rfl, hlt, rfl, z6, z2, z1, z3, z4, z5⟩
      · obtain rfl : i = n := Nat.le_antisymm hi (Nat.not_lt.mp hlt)
        refine G.done { s₂ with heap := h', toks := tk } _ _ hst' fun h₂ tk₂ hk₂ => ?_
        have N₂ : News h₀ L h₂ ((C, oC) :: (D, lst ys) :: news') := fun p hp => by
          refine ⟨hk₂ _ _ ?_ (N' p hp).1, (N' p hp).2⟩
          rcases List.mem_cons.mp hp with rfl | hp
          · exact fun hm => (hwC _ hm).1 rfl
          rcases List.mem_cons.mp hp with rfl | hp
          · exact fun hm => (hwC _ hm).2 rfl
          · exact (off' p hp).2.2
        have F₂ : Fr h₀ L h₂ m := ⟨F'.ns.at' fun o e => hk₂ L o (fun hm => (G.wrL _ hm).1 rfl) e, fun b o e => hk₂ b o (fun hm => by rw [(G.wrL _ hm).2] at e; cases e) (F'.keep b o e), F'.above⟩
        have N₄ : News h₀ L h₂ ((D, lst ys) :: news') := fun p hp => N₂ p (.tail _ hp)
        have offD : ∀ p ∈ news', p.1 ≠ D := fun p hp => (off' p hp).2.1
        exact hRR D C h₂ tk₂ _ ys news' F₂ N₄ offD (hoC.ns (N₂ _ List.mem_cons_self).1) hC₀ hD₀ hCL hDL (Ne.symm hDC) (fun p hp => (off' p hp).1) (G.fin ys news' hJ)
    · obtain ⟨oC, heC, hoC⟩ := ns_obj hns₁
      refine ⟨h₁, _, 0, [], oC, _, news, rfl, Nat.zero_le _, rfl, hst₁, F.keeps old, hoC, fun p hp => ?_, fun p hp => ⟨(offN p hp).1, (offN p hp).2, G.off p hp⟩, G.J0⟩
      rcases List.mem_cons.mp hp with rfl | hp
      · exact ⟨heC, hCL, hC₀⟩
      rcases List.mem_cons.mp hp with rfl | hp
      · exact ⟨hacc, hDL, hD₀⟩
      · exact ⟨old _ _ (N p hp).1, (N p hp).2⟩
  exact codeAny_compStart_list (loop _ rfl) (G.self _ _ _ hst₁ (loop _ rfl))
def CGFin (h₀ : Heap) (L : Addr) (m : Str → Option Value) (s : Shared) (Q : Value → Shared → Prop) (ys : List Value) (news : List (Addr × Obj)) : Prop :=
  ∀ D h tk, Fr h₀ L h m → News h₀ L h ((D, lst ys) :: news) → (∀ p ∈ news, p.1 ≠ D) → Q (.ref D) { s with heap := h, toks := tk }
theorem cg_ListComp {elt target iter : Expr} {ifs : List Expr} {scope : Scope} {cl : List (Str × Addr)} {pos : Pos} {Q : Value → Shared → Prop} (F₀ : Fr h₀ L s.heap m)
    (hclos : closureFor scope env = pure cl) (hcell : ∀ y ∈ scope.names, y.2 ≠ .cell) (hkind : scope.kind = .function)
    (hnames : ∀ y ∈ scope.names, y.2 = .local → scope.names.lookup y.1 = some .local)
    (h : wpAny (model prog w) A (eval iter env) (fun xv s₁ => Held (wpAny (model prog w) A (pyIter xv) (fun it s₂ => ∃ I wr srcs n P St J news, it = .ref I ∧ CGo prog w A h₀ L m env elt target ifs scope cl s₂ (CGFin h₀ L m s₂ Q) I wr srcs n P St J news) E s₁)) E s)
    (hs : ∀ x, foldedSetIterable iter env x = pure x := by intro _; rfl) :
    wpAny (model prog w) A (eval (.ListComp elt [⟨target, iter, ifs, 0⟩] scope pos) env) Q E s := by
  rw [eval_ListComp]
  refine wpAny_comprehension_free (use := none) rfl hs hclos hkind hnames (wpAny_mono h (fun xv s₁ h₁ => wpAny_mono (held_get h₁) (fun it s₂ h₂ => ?_) fun _ _ e => e) fun _ _ e => e)
  obtain ⟨I, wr, srcs, n, P, St, J, news, rfl, G⟩ := h₂
  refine cg_block G hcell hkind ?_
  intro D C h tk m' ys news' F' N' o1 hn hC₀ hD₀ hCL hDL hCD offC fin
  refine ⟨m', hn, fun h'' hs'' => fin D h'' tk (F'.change hs'' hCL hC₀) (fun p hp => ?_) o1⟩
  refine ⟨hs''.extBut _ _ ?_ (N' p hp).1, (N' p hp).2⟩
  rcases List.mem_cons.mp hp with rfl | hp
  · exact Ne.symm hCD
  · exact offC p hp
end

theorem off_P3 : True := by
  w_top off
  exact True.intro
section
open LCg
variable {prog : Program} {w : World} {A : Around} {E : Value → Shared → Prop} {s : Shared} {h₀ : Heap} {L : Addr} {m : Str → Option Value} {env : Env}
theorem cg_name {x : Str} {px : Pos} {scope : Scope} {cl : List (Str × Addr)} {C : Addr} {oC : Obj} {m' : Str → Option Value} {rest : List (Addr × Obj)} {v : Value} {Q : Unit → Shared → Prop}
    (hx : scope.names.lookup x = some .local) (hkind : scope.kind = .function) (hC : NsObj oC m') (F : Fr h₀ L s.heap m) (N : News h₀ L s.heap ((C, oC) :: rest)) (hoff : ∀ p ∈ rest, p.1 ≠ C)
    (h : ∀ h' tk' oC' m'', NsObj oC' m'' → m'' x = some v → Fr h₀ L h' m → News h₀ L h' ((C, oC') :: rest) → Q () { s with heap := h', toks := tk' }) :
    wpAny (model prog w) A (assign (.Name x px) (compEnvC scope cl C env) v) Q E s := by
  have z := N _ List.mem_cons_self
  refine wpAny_assign_Name (wpAny_storeName_local (lookup_relabel_local hx) (hC.ns z.1) (fun h₃ hn₃ hs₃ => ?_) (by simp [compEnvC, relabel, hkind]))
  obtain ⟨oC', e, hC'⟩ := ns_obj hn₃
  refine h h₃ _ oC' _ hC' (by simp) (F.change hs₃ z.2.1 z.2.2) fun p hp => ?_
  rcases List.mem_cons.mp hp with rfl | hp
  · exact ⟨e, z.2⟩
  · exact ⟨hs₃.extBut _ _ (hoff p hp) (N p (.tail _ hp)).1, (N p (.tail _ hp)).2⟩
theorem cg_pair {x1 x2 : Str} {p1 p2 pos : Pos} {k : Nat} {scope : Scope} {cl : List (Str × Addr)} {C t : Addr} {oC : Obj} {m' : Str → Option Value} {rest : List (Addr × Obj)} {v1 v2 : Value} {Q : Unit → Shared → Prop} (hh : A.handled = none)
    (h1 : scope.names.lookup x1 = some .local) (h2 : scope.names.lookup x2 = some .local) (h12 : x1 ≠ x2) (hkind : scope.kind = .function) (hC : NsObj oC m') (F : Fr h₀ L s.heap m) (N : News h₀ L s.heap ((C, oC) :: rest)) (hoff : ∀ p ∈ rest, p.1 ≠ C) (ht : IsTup s.heap t #[v1, v2])
    (h : ∀ h' tk' oC' m'', NsObj oC' m'' → m'' x1 = some v1 → m'' x2 = some v2 → Fr h₀ L h' m → News h₀ L h' ((C, oC') :: rest) → Q () { s with heap := h', toks := tk' }) :
    wpAny (model prog w) A (assign (.Tuple [.Name x1 p1, .Name x2 p2] k pos) (compEnvC scope cl C env) (.ref t)) Q E s := by
  refine assign_Tuple_tuple hh ht rfl rfl fun g he => ?_
  have up : ∀ c o, s.heap.get? c = some o → g.get? c = some o := fun c o e => he c o (Nat.ne_of_lt (Heap.lt_size e)) e
  have N' : News h₀ L g ((C, oC) :: rest) := N.grown up
  have z := N' _ List.mem_cons_self
  refine assignInOrder_cons (wpAny_assign_Name (wpAny_storeName_local (lookup_relabel_local h1) (hC.ns z.1) (fun g1 n1 s1 => ?_) (by simp [compEnvC, relabel, hkind])))
  refine assignInOrder_cons (wpAny_assign_Name (wpAny_storeName_local (lookup_relabel_local h2) n1 (fun g2 n2 s2 => ?_) (by simp [compEnvC, relabel, hkind])))
  refine assignInOrder_nil ?_
  obtain ⟨oC', e, hC'⟩ := ns_obj n2
  refine h g2 _ oC' _ hC' (by simp [h12]) (by simp) (((F.keeps up).change s1 z.2.1 z.2.2).change s2 z.2.1 z.2.2) fun p hp => ?_
  rcases List.mem_cons.mp hp with rfl | hp
  · exact ⟨e, z.2⟩
  · exact ⟨s2.extBut _ _ (hoff p hp) (s1.extBut _ _ (hoff p hp) (N' p (.tail _ hp)).1), (N p (.tail _ hp)).2⟩

/-- behind a new iterator -/
theorem cgo_new {elt target : Expr} {ifs : List Expr} {scope : Scope} {cl : List (Str × Addr)} {Fin : List Value → List (Addr × Obj) → Prop} {oit : Obj} {fp : List Addr} {srcs : List (Addr × Obj)} {n : Nat} {P : Nat → Value → Prop} {St : Nat → Heap → Prop} {J : Nat → List Value → List (Addr × Obj) → Prop} {news : List (Addr × Obj)}
    (W : Walks prog w A s.heap.objs.size fp [s.heap.objs.size] n P St) (hfp : ∀ b ∈ fp, b = s.heap.objs.size ∨ b ∈ srcs.map (·.1))
    (hgo : ∀ i v (s' : Shared) (Q' : Unit → Shared → Prop) (E' : Value → Shared → Prop), P i v → St (i + 1) s'.heap → Q' () s' → wpAny (model prog w) A (letOwnedTupleGo target (.ref s.heap.objs.size) v) Q' E' s')
    (hIo : ∀ i h, St i h → ∃ o, h.get? s.heap.objs.size = some o) (st0 : St 0 (s.heap.push oit)) (F : Fr h₀ L s.heap m) (N : News h₀ L s.heap news)
    (src : ∀ i ys news, J i ys news → (∀ p ∈ srcs, p ∈ news) ∧ ys.length ≤ i) (size : n ≤ sizeLine) (J0 : J 0 [] news)
    (turn : ∀ (i : Nat) (v : Value) (ys : List Value) (news : List (Addr × Obj)) wl C oC m' D h tk (E' : Value → Shared → Prop), i < n → J i ys news → P i v → NsObj oC m' → Fr h₀ L h m → News h₀ L h ((C, oC) :: (D, lst ys) :: (wl ++ news)) → (∀ p ∈ news, p.1 ≠ C ∧ p.1 ≠ D) → (∀ p ∈ wl, p.1 ≠ C ∧ p.1 ≠ D) → C ≠ D → (∀ p ∈ news, ∀ q ∈ wl, p.1 ≠ q.1) →
      wpAny (model prog w) A (assign target (compEnvC scope cl C env) v) (fun _ s₂ =>
        wpAny (model prog w) A (forIn ifs true fun c r => if r = true then do let ok ← isTrue c (compEnvC scope cl C env) (eval c (compEnvC scope cl C env)); pure (ForInStep.yield ok) else pure (ForInStep.yield r)) (fun ok s₃ =>
          if ok = true then wpAny (model prog w) A (eval elt (compEnvC scope cl C env)) (fun y s₄ => CGEnd h₀ L m s C D wl ys (J (i + 1)) (ys ++ [y]) s₄) E' s₃ else CGEnd h₀ L m s C D wl ys (J (i + 1)) ys s₃) E' s₂) E' { s with heap := h, toks := tk })
    (fin : ∀ ys news', J n ys news' → Fin ys news') :
    ∃ I wr srcs n P St J news, Value.ref s.heap.objs.size = .ref I ∧ CGo prog w A h₀ L m env elt target ifs scope cl { s with heap := s.heap.push oit } Fin I wr srcs n P St J news := by
  have up : ∀ b o, s.heap.get? b = some o → (s.heap.push oit).get? b = some o := fun b o e => Heap.get?_push_of_some _ e
  refine ⟨s.heap.objs.size, [s.heap.objs.size], srcs, n, fun i v _ => P i v, St, J, news, rfl, ?_⟩
  exact {
    frame := fun i h h' st hk => W.frame i h h' st fun b hb o e => hk b (by
      rcases hfp b hb with h | h
      · exact List.mem_append_left _ (by rw [h]; exact List.mem_singleton.mpr rfl)
      · exact List.mem_append_right _ h) o e
    item := fun i s' Q E' hi st hQ => W.item i s' _ E' hi st fun v h' tk hP st' hk => ⟨v, rfl, hgo i v _ _ _ hP st' (hQ v h' tk hP st' hk)⟩
    done := fun s' Q E' st hQ => W.done s' Q E' st hQ
    self := fun s' Q E' st hQ => W.self 0 s' Q E' st hQ
    has := fun i h st b hb => by rw [List.mem_singleton.mp hb]; exact hIo i h st
    st0 := st0
    F := F.keeps up
    N := N.grown up
    wrL := fun b hb => by
      rw [List.mem_singleton.mp hb]
      refine ⟨Ne.symm (Nat.ne_of_lt F.ns.lt), ?_⟩
      cases e : h₀.get? s.heap.objs.size with
      | none => rfl
      | some o => exact absurd (Heap.lt_size (F.keep _ o e)) (Nat.lt_irrefl _)
    off := fun p hp hm => by
      rw [List.mem_singleton] at hm
      exact Nat.ne_of_lt (Heap.lt_size (N p hp).1) hm
    src := fun i ys news h => (src i ys news h).1
    few := fun i ys news h => (src i ys news h).2
    size := size
    J0 := J0
    turn := turn
    fin := fin }
theorem cg_list {elt target : Expr} {ifs : List Expr} {scope : Scope} {cl : List (Str × Addr)} {Q : Value → Shared → Prop} {l : Addr} {its : List Value} {nl : Nat} {J : Nat → List Value → List (Addr × Obj) → Prop} {news : List (Addr × Obj)}
    (hh : A.handled = none) (F : Fr h₀ L s.heap m) (N : News h₀ L s.heap news)
    (hgo : ∀ (I : Addr) (i : Nat) (v : Value) (s' : Shared) (Q' : Unit → Shared → Prop) (E' : Value → Shared → Prop), its[i]? = some v → s'.heap.IsListIter I l (i + 1) → Q' () s' → wpAny (model prog w) A (letOwnedTupleGo target (.ref I) v) Q' E' s')
    (src : ∀ i ys news, J i ys news → (l, lstO its nl) ∈ news ∧ ys.length ≤ i) (size : its.length ≤ 1000) (J0 : J 0 [] news)
    (turn : ∀ (i : Nat) (v : Value) (ys : List Value) (news : List (Addr × Obj)) wl C oC m' D h tk (E' : Value → Shared → Prop), i < its.length → J i ys news → its[i]? = some v → NsObj oC m' → Fr h₀ L h m → News h₀ L h ((C, oC) :: (D, lst ys) :: (wl ++ news)) → (∀ p ∈ news, p.1 ≠ C ∧ p.1 ≠ D) → (∀ p ∈ wl, p.1 ≠ C ∧ p.1 ≠ D) → C ≠ D → (∀ p ∈ news, ∀ q ∈ wl, p.1 ≠ q.1) →
      wpAny (model prog w) A (assign target (compEnvC scope cl C env) v) (fun _ s₂ =>
        wpAny (model prog w) A (forIn ifs true fun c r => if r = true then do let ok ← isTrue c (compEnvC scope cl C env) (eval c (compEnvC scope cl C env)); pure (ForInStep.yield ok) else pure (ForInStep.yield r)) (fun ok s₃ =>
          if ok = true then wpAny (model prog w) A (eval elt (compEnvC scope cl C env)) (fun y s₄ => CGEnd h₀ L m s C D wl ys (J (i + 1)) (ys ++ [y]) s₄) E' s₃ else CGEnd h₀ L m s C D wl ys (J (i + 1)) ys s₃) E' s₂) E' { s with heap := h, toks := tk })
    (fin : ∀ ys news', J its.length ys news' → CGFin h₀ L m s Q ys news') :
    wpAny (model prog w) A (pyIter (.ref l)) (fun it s₂ => ∃ I wr srcs n P St J news, it = .ref I ∧ CGo prog w A h₀ L m env elt target ifs scope cl s₂ (CGFin h₀ L m s₂ Q) I wr srcs n P St J news) E s := by
  have hm := (src _ _ _ J0).1
  have hl : s.heap.IsList l its.toArray := News.isList N hm
  have hlt : l < s.heap.objs.size := Heap.lt_size (N _ hm).1
  refine wpAny_pyIter_list hl ?_
  refine cgo_new (Fin := CGFin h₀ L m s Q) (srcs := [(l, lstO its nl)]) (Walks.list hh s.heap.objs.size l (Nat.ne_of_lt hlt) its.toArray) ?_ ?_ ?_ ?_ F N (J := J) ?_ (by rw [List.size_toArray, sizeLine_eq]; omega) J0 ?_ ?_
  · intro b hb
    rcases List.mem_cons.mp hb with rfl | hb
    · exact .inl rfl
    · exact .inr hb
  · intro i v s' Q' E' hv st hq
    exact hgo _ i v s' Q' E' (by simpa using hv) st.1 hq
  · intro i h st
    obtain ⟨o, e, _⟩ := st.1
    exact ⟨o, e⟩
  · exact ⟨⟨_, Heap.get?_push_size _ rfl, rfl, rfl⟩, hl.push _⟩
  · intro i ys news h
    exact ⟨fun p hp => by rw [List.mem_singleton.mp hp]; exact (src i ys news h).1, (src i ys news h).2⟩
  · intro i v ys news wl C oC m' D h tk E' hi hJ hv
    exact turn i v ys news wl C oC m' D h tk E' (by simpa using hi) hJ (by simpa using hv)
  · intro ys news' h
    exact fin ys news' (by simpa using h)
theorem cg_tup {elt target : Expr} {ifs : List Expr} {scope : Scope} {cl : List (Str × Addr)} {Q : Value → Shared → Prop} {l : Addr} {its : List Value} {nl : Nat} {J : Nat → List Value → List (Addr × Obj) → Prop} {news : List (Addr × Obj)}
    (hh : A.handled = none) (F : Fr h₀ L s.heap m) (N : News h₀ L s.heap news)
    (hgo : ∀ (I : Addr) (i : Nat) (v : Value) (s' : Shared) (Q' : Unit → Shared → Prop) (E' : Value → Shared → Prop), its[i]? = some v → Q' () s' → wpAny (model prog w) A (letOwnedTupleGo target (.ref I) v) Q' E' s')
    (src : ∀ i ys news, J i ys news → (l, tupO its nl) ∈ news ∧ ys.length ≤ i) (size : its.length ≤ 1000) (J0 : J 0 [] news)
    (turn : ∀ (i : Nat) (v : Value) (ys : List Value) (news : List (Addr × Obj)) wl C oC m' D h tk (E' : Value → Shared → Prop), i < its.length → J i ys news → its[i]? = some v → NsObj oC m' → Fr h₀ L h m → News h₀ L h ((C, oC) :: (D, lst ys) :: (wl ++ news)) → (∀ p ∈ news, p.1 ≠ C ∧ p.1 ≠ D) → (∀ p ∈ wl, p.1 ≠ C ∧ p.1 ≠ D) → C ≠ D → (∀ p ∈ news, ∀ q ∈ wl, p.1 ≠ q.1) →
      wpAny (model prog w) A (assign target (compEnvC scope cl C env) v) (fun _ s₂ =>
        wpAny (model prog w) A (forIn ifs true fun c r => if r = true then do let ok ← isTrue c (compEnvC scope cl C env) (eval c (compEnvC scope cl C env)); pure (ForInStep.yield ok) else pure (ForInStep.yield r)) (fun ok s₃ =>
          if ok = true then wpAny (model prog w) A (eval elt (compEnvC scope cl C env)) (fun y s₄ => CGEnd h₀ L m s C D wl ys (J (i + 1)) (ys ++ [y]) s₄) E' s₃ else CGEnd h₀ L m s C D wl ys (J (i + 1)) ys s₃) E' s₂) E' { s with heap := h, toks := tk })
    (fin : ∀ ys news', J its.length ys news' → CGFin h₀ L m s Q ys news') :
    wpAny (model prog w) A (pyIter (.ref l)) (fun it s₂ => ∃ I wr srcs n P St J news, it = .ref I ∧ CGo prog w A h₀ L m env elt target ifs scope cl s₂ (CGFin h₀ L m s₂ Q) I wr srcs n P St J news) E s := by
  have hm := (src _ _ _ J0).1
  have hl : s.heap.IsTuple l its.toArray := News.isTup N hm
  have hlt : l < s.heap.objs.size := Heap.lt_size (N _ hm).1
  refine wpAny_pyIter_tuple hl ?_
  refine cgo_new (Fin := CGFin h₀ L m s Q) (srcs := [(l, tupO its nl)]) (Walks.tuple hh s.heap.objs.size l (Nat.ne_of_lt hlt) its.toArray) ?_ ?_ ?_ ?_ F N (J := J) ?_ (by rw [List.size_toArray, sizeLine_eq]; omega) J0 ?_ ?_
  · intro b hb
    rcases List.mem_cons.mp hb with rfl | hb
    · exact .inl rfl
    · exact .inr hb
  · intro i v s' Q' E' hv st hq
    exact hgo _ i v s' Q' E' (by simpa using hv) hq
  · intro i h st
    obtain ⟨o, e, _⟩ := st.1
    exact ⟨o, e⟩
  · exact ⟨⟨_, Heap.get?_push_size _ rfl, rfl, rfl⟩, hl.at fun o e => Heap.get?_push_of_some _ e⟩
  · intro i ys news h
    exact ⟨fun p hp => by rw [List.mem_singleton.mp hp]; exact (src i ys news h).1, (src i ys news h).2⟩
  · intro i v ys news wl C oC m' D h tk E' hi hJ hv
    exact turn i v ys news wl C oC m' D h tk E' (by simpa using hi) hJ (by simpa using hv)
  · intro ys news' h
    exact fin ys news' (by simpa using h)
end

local macro_rules | `(tactic| walk_at "hold") => `(tactic| (k_here; with_reducible refine held ?_))
local macro_rules
  | `(tactic| walk_at "eval ListComp") => `(tactic| walk_at "hold")
  | `(tactic| walk_at "exec Assign cons ListComp") => `(tactic| walk_at "hold")
theorem off_P4 : True := by
  w_top off
  exact True.intro
/-! ## going over a dict of any keys -/
section
variable {prog : Program} {w : World} {A : Around} {E : Value → Shared → Prop} {s : Shared}
theorem dv_meets (d : Addr) (hd : (d == sysModules) = false) :
    MeetsIn prog w (Builtin.«dict.values» ⟨[.ref d], []⟩) (fun _ R s => s.TypeIs (.ref d) "dict" ∧ R (.ok (.ret (.ref s.heap.objs.size))) { s with heap := s.heap.push { cls := .type "dict_values", data := .fields #[.ref d] } }) :=
  .of_wp fun A R s ⟨hT, h⟩ => by
    refine wpAny_bind ?_
    unfold Builtin.Dict.noArgs
    refine wpAny_bind (wpAny_notOrdered_dict hT ?_)
    show wpAny _ _ (pure d) _ _ s
    refine wpAny_pure ?_
    show wpAny _ _ (Builtin.Dict.showsAll d >>= _) _ _ s
    unfold Builtin.Dict.showsAll
    rw [if_neg (by rw [hd]; exact Bool.false_ne_true)]
    refine wpAny_bind (wpAny_pure ?_)
    exact wpAny_bind (wpAny_newObj_type (wpAny_pure ⟨_, rfl, h⟩))
theorem dv_call {d : Addr} {es : List DictEntry} {ep : Nat} {Q : Value → Shared → Prop} (hd : (d == sysModules) = false) (hm : s.heap.get? d = some (dictOf es ep))
    (h : Q (.ref s.heap.objs.size) { s with heap := s.heap.push { cls := .type "dict_values", data := .fields #[.ref d] } }) : wpAny (model prog w) A (call (.builtin "dict.values") [.ref d]) Q E s :=
  have hT : s.TypeIs (.ref d) "dict" := ⟨_, hm, rfl⟩
  call_meetsIn PySem.F.slot_dict_values hT PySem.F.entry_dict_values (PySem.F.args_dict_values_1 _) (dv_meets d hd) ⟨hT, h⟩
theorem dv_iter {v d : Addr} {es : List DictEntry} {ep : Nat} {Q : Value → Shared → Prop} (hv : s.heap.IsValuesView v d) (hm : s.heap.get? d = some (dictOf es ep))
    (hQ : Q (.ref s.heap.objs.size) { s with heap := s.heap.push { cls := .type "dict_valueiterator", data := .fields #[.ref d, .int 0 0, .int es.length 0, .int ep 0] } }) :
    wpAny (model prog w) A (pyIter (.ref v)) Q E s := by
  obtain ⟨ov, hov, hcv, hdv⟩ := id hv
  refine wpAny_pyIter_slot hv.typeIs PySem.F.slot_dict_values_iter (wpAny_call_entry PySem.F.slot_dict_values_iter hv.typeIs PySem.F.entry_dict_values_iter ?_ (PySem.F.args_dict_values_iter_1 _))
  unfold Builtin.«dict_values.__iter__»
  refine wpAny_bind (wpAny_pure ?_)
  refine wpAny_bind ?_
  unfold Builtin.Dict_items.dictOf
  refine wpAny_bind (wpAny_field hov hdv (x := .ref d) rfl (wpAny_pure ?_))
  refine wpAny_bind ?_
  unfold Builtin.Dict_items.newIterator
  refine wpAny_bind (wpAny_dictEntries hm rfl ?_)
  refine wpAny_bind (wpAny_dictEpoch hm rfl ?_)
  have hown : Builtin.Dict_items.ownsTuple "dict_valueiterator" = false := by decide
  simp only [hown, Bool.false_eq_true, if_false]
  refine wpAny_newObj_type (wpAny_pure ⟨_, rfl, "dict_valueiterator", _, ⟨_, Heap.get?_push_size _ rfl, rfl⟩, PySem.F.slot_dict_valueiterator_next.lookup, ?_⟩)
  simpa [rawInt] using hQ
theorem dv_item {it d : Addr} {i ep : Nat} {es : List DictEntry} {e : DictEntry} {Q : Option Value → Shared → Prop} (hit : s.heap.IsValIter it d i es.length ep) (hm : s.heap.get? d = some (dictOf es ep)) (hx : es[i]? = some e)
    (hQ : ∀ h', h'.IsValIter it d (i + 1) es.length ep → Heap.SameBut it s.heap h' → Q (some e.val) { s with heap := h' }) : wpAny (model prog w) A (pyNext (.ref it)) Q E s := by
  obtain ⟨o, ho, hc, hd⟩ := id hit
  unfold pyNext
  refine wpAny_bind (wpAny_attempt (wpAny_callSpecial?_slot (name := Str.ofString "__next__") hit.typeIs PySem.F.slot_dict_valueiterator_next
    (wpAny_call_entry PySem.F.slot_dict_valueiterator_next hit.typeIs PySem.F.entry_dict_valueiterator_next ?_ (PySem.F.args_dict_valueiterator_next_1 _))))
  refine wpAny_bind (wpAny_pure ?_)
  refine wpAny_bind ?_
  refine wpAny_bind ?_
  first | refine wpAny_bind (wpAny_typeNameOfWhole_valiter hit.typeIs (wpAny_pure ?_)) | refine wpAny_bind (wpAny_typeNameOf_valiter hit.typeIs (wpAny_pure ?_))
  refine wpAny_bind (wpAny_fieldsOf ho hd ?_)
  have hown : Builtin.Dict_items.ownsTuple "dict_valueiterator" = false := by decide
  simp only [hown, Bool.false_eq_true, if_false]
  show wpAny _ _ (if (Value.ref d == Value.none) = true then _ else _) _ _ s
  rw [if_neg (show ¬ ((Value.ref d == Value.none) = true) from Bool.false_ne_true)]
  refine wpAny_bind (wpAny_pure ?_)
  refine wpAny_bind (wpAny_dictEntries hm rfl ?_)
  rw [if_neg (by simp)]
  refine wpAny_bind (wpAny_pure ?_)
  refine wpAny_bind (wpAny_dictEpoch hm rfl ?_)
  rw [if_neg (by simp)]
  refine wpAny_pure ?_
  have hlt : i < es.length := (List.getElem?_eq_some_iff.mp hx).1
  have hlt' : i < es.toArray.size := by simpa using hlt
  have hval : es.toArray[i] = e := by
    have := (List.getElem?_eq_some_iff.mp hx).2
    simpa using this
  simp only [show ¬ ((i : Int) < 0) from by omega, if_false, Int.toNat_natCast, Array.getElem?_eq_getElem hlt']
  refine wpAny_bind ?_
  first | refine wpAny_bind (wpAny_typeNameOfWhole_valiter hit.typeIs (wpAny_pure ?_)) | refine wpAny_bind (wpAny_typeNameOf_valiter hit.typeIs (wpAny_pure ?_))
  refine wpAny_bind (wpAny_isOneOf_valiter hit.typeIs ?_)
  show wpAny _ _ (setField (.ref it) 1 (rawInt ((i : Int) + 1)) >>= _) _ _ s
  refine wpAny_bind (wpAny_setField ho hd (by simp) ?_)
  have hit' : (s.heap.update it (Obj.mapFields (·.setIfInBounds 1 (rawInt ((i : Int) + 1))))).IsValIter it d (i + 1) es.length ep :=
    ⟨_, Heap.get?_update_self _ ho (Obj.isFreed_of_fields (Obj.data_mapFields hd _)), (Obj.cls_mapFields ..).trans hc, by rw [Obj.data_mapFields hd]; simp [rawInt]⟩
  refine wpAny_bind (wpAny_holding ?_)
  refine wpAny_bind (wpAny_isOneOf_valiter (s := { s with heap := s.heap.update it (Obj.mapFields (·.setIfInBounds 1 (rawInt ((i : Int) + 1)))) }) hit'.typeIs ?_)
  refine wpAny_bind (wpAny_isOneOf_valiter (s := { s with heap := s.heap.update it (Obj.mapFields (·.setIfInBounds 1 (rawInt ((i : Int) + 1)))) }) hit'.typeIs ?_)
  show wpAny _ _ (pure es.toArray[i].val) _ _ _
  exact wpAny_pure (wpAny_pure ⟨_, rfl, wpAny_pure (by rw [hval]; exact hQ _ hit' (Heap.SameBut.update ..))⟩)
theorem dv_end {it d : Addr} {i ep : Nat} {es : List DictEntry} {Q : Option Value → Shared → Prop} (hh : A.handled = none) (hit : s.heap.IsValIter it d i es.length ep) (hm : s.heap.get? d = some (dictOf es ep)) (hx : es[i]? = none)
    (hQ : ∀ h', Heap.ExtBut it s.heap h' → Q none { s with heap := h' }) : wpAny (model prog w) A (pyNext (.ref it)) Q E s := by
  obtain ⟨o, ho, hc, hd⟩ := id hit
  unfold pyNext
  refine wpAny_bind (wpAny_attempt (wpAny_callSpecial?_slot (name := Str.ofString "__next__") hit.typeIs PySem.F.slot_dict_valueiterator_next
    (wpAny_call_entry PySem.F.slot_dict_valueiterator_next hit.typeIs PySem.F.entry_dict_valueiterator_next ?_ (PySem.F.args_dict_valueiterator_next_1 _))))
  refine wpAny_bind (wpAny_pure ?_)
  refine wpAny_bind ?_
  refine wpAny_bind ?_
  first | refine wpAny_bind (wpAny_typeNameOfWhole_valiter hit.typeIs (wpAny_pure ?_)) | refine wpAny_bind (wpAny_typeNameOf_valiter hit.typeIs (wpAny_pure ?_))
  refine wpAny_bind (wpAny_fieldsOf ho hd ?_)
  have hown : Builtin.Dict_items.ownsTuple "dict_valueiterator" = false := by decide
  simp only [hown, Bool.false_eq_true, if_false]
  show wpAny _ _ (if (Value.ref d == Value.none) = true then _ else _) _ _ s
  rw [if_neg (show ¬ ((Value.ref d == Value.none) = true) from Bool.false_ne_true)]
  refine wpAny_bind (wpAny_pure ?_)
  refine wpAny_bind (wpAny_dictEntries hm rfl ?_)
  rw [if_neg (by simp)]
  refine wpAny_bind (wpAny_pure ?_)
  refine wpAny_bind (wpAny_dictEpoch hm rfl ?_)
  rw [if_neg (by simp)]
  refine wpAny_pure ?_
  have hge : es.toArray.size ≤ i := by simpa using hx
  simp only [show ¬ ((i : Int) < 0) from by omega, if_false, Int.toNat_natCast, Array.getElem?_eq_none hge]
  refine wpAny_bind ?_
  first | refine wpAny_bind (wpAny_typeNameOfWhole_valiter hit.typeIs (wpAny_pure ?_)) | refine wpAny_bind (wpAny_typeNameOf_valiter hit.typeIs (wpAny_pure ?_))
  show wpAny _ _ (setField (.ref it) 0 .none >>= _) _ _ s
  refine wpAny_bind (wpAny_setField ho hd (by simp) ?_)
  show wpAny _ _ (newExc (.type "StopIteration") [] >>= _) _ _ _
  refine wpAny_bind ?_
  simp only [newExc, newTuple]
  refine wpAny_bind (wpAny_newObj_type ?_ (by size_fits))
  refine wpAny_bind (m := firstArgMember _ _) (wpAny_of_eq (a := Value.none) (by first | rfl | (simp only [firstArgMember]; rfl)) ?_)
  refine wpAny_newObj_type ?_ (by size_fits)
  simp only [raiseNew]
  refine wpAny_bind (wpAny_handled ?_)
  rw [show A.in1.handled = none from hh]
  refine wpAny_bind (wpAny_pure (wpAny_throw ?_))
  refine wpAny_bind (wpAny_isInstance (T := "StopIteration") (b := true) ⟨_, Heap.get?_push_size _ rfl, rfl⟩ isSubtype_stop ?_)
  exact wpAny_pure (hQ _ (((Heap.SameBut.update ..).extBut.push _).push _))
theorem dv_walks (hh : A.handled = none) (I d : Addr) (hne : d ≠ I) (es : List DictEntry) (ep : Nat) :
    Walks prog w A I [I, d] [I] es.length (fun i v => ∃ e : DictEntry, es[i]? = some e ∧ v = e.val) (fun i h => h.IsValIter I d i es.length ep ∧ h.get? d = some (dictOf es ep)) where
  sub := fun b hb => by simp at hb; simp [hb]
  frame := fun _ _ _ st hk => ⟨st.1.at fun o e => hk I (by simp) o e, hk d (by simp) _ st.2⟩
  item := fun i s Q E hi st hQ => by
    refine dv_item st.1 st.2 (List.getElem?_eq_getElem hi) fun h' hit' hs' => ?_
    exact hQ _ h' s.toks ⟨_, List.getElem?_eq_getElem hi, rfl⟩ ⟨hit', hs'.extBut _ _ hne st.2⟩ fun b o hb e => hs'.extBut b o (fun h => hb (by simp [h])) e
  done := fun s Q E st hQ => dv_end hh st.1 st.2 (by simp) fun h' he' => hQ h' s.toks fun b o hb e => he' b o (fun h => hb (by simp [h])) e
  self := fun _ _ _ _ st hQ => wpAny_pyIter_valiter st.1 hQ
theorem dk_iter {d : Addr} {es : List DictEntry} {ep : Nat} {Q : Value → Shared → Prop} (hd : (d == sysModules) = false) (hm : s.heap.get? d = some (dictOf es ep))
    (hQ : Q (.ref s.heap.objs.size) { s with heap := s.heap.push { cls := .type "dict_keyiterator", data := .fields #[.ref d, .int 0 0, .int es.length 0, .int ep 0] } }) :
    wpAny (model prog w) A (pyIter (.ref d)) Q E s := by
  have hT : s.TypeIs (.ref d) "dict" := ⟨_, hm, rfl⟩
  refine wpAny_pyIter_slot hT PySem.F.slot_dict_iter (wpAny_call_entry PySem.F.slot_dict_iter hT PySem.F.entry_dict_iter ?_ (PySem.F.args_dict_iter_1 _))
  unfold Builtin.«dict.__iter__»
  refine wpAny_bind ?_
  unfold Builtin.Dict.dictSlotNone
  refine wpAny_bind (wpAny_notOrdered_dict hT ?_)
  show wpAny _ _ (pure (Value.ref d)) _ _ s
  refine wpAny_pure ?_
  show wpAny _ _ (Builtin.Dict.showsAll d >>= _) _ _ s
  unfold Builtin.Dict.showsAll
  rw [if_neg (by rw [hd]; exact Bool.false_ne_true)]
  refine wpAny_bind (wpAny_pure ?_)
  refine wpAny_bind (wpAny_dictEntries hm rfl ?_)
  refine wpAny_bind (wpAny_dictEpoch hm rfl ?_)
  refine wpAny_bind (wpAny_newObj_type (wpAny_pure ⟨_, rfl, "dict_keyiterator", _, ⟨_, Heap.get?_push_size _ rfl, rfl⟩, PySem.F.slot_dict_keyiterator_next.lookup, ?_⟩))
  simpa [rawInt] using hQ
theorem dk_item {it d : Addr} {i ep : Nat} {es : List DictEntry} {e : DictEntry} {Q : Option Value → Shared → Prop} (hit : s.heap.IsKeyIter it d i es.length ep) (hm : s.heap.get? d = some (dictOf es ep)) (hx : es[i]? = some e)
    (hQ : ∀ h', h'.IsKeyIter it d (i + 1) es.length ep → Heap.SameBut it s.heap h' → Q (some e.key) { s with heap := h' }) : wpAny (model prog w) A (pyNext (.ref it)) Q E s := by
  obtain ⟨o, ho, hc, hd⟩ := id hit
  unfold pyNext
  refine wpAny_bind (wpAny_attempt (wpAny_callSpecial?_slot (name := Str.ofString "__next__") hit.typeIs PySem.F.slot_dict_keyiterator_next
    (wpAny_call_entry PySem.F.slot_dict_keyiterator_next hit.typeIs PySem.F.entry_dict_keyiterator_next ?_ (PySem.F.args_dict_keyiterator_next_1 _))))
  refine wpAny_bind (wpAny_pure ?_)
  refine wpAny_bind ?_
  refine wpAny_bind ?_
  first | refine wpAny_bind (wpAny_typeNameOfWhole_keyiter hit.typeIs (wpAny_pure ?_)) | refine wpAny_bind (wpAny_typeNameOf_keyiter hit.typeIs (wpAny_pure ?_))
  refine wpAny_bind (wpAny_fieldsOf ho hd ?_)
  have hown : Builtin.Dict_items.ownsTuple "dict_keyiterator" = false := by decide
  simp only [hown, Bool.false_eq_true, if_false]
  show wpAny _ _ (if (Value.ref d == Value.none) = true then _ else _) _ _ s
  rw [if_neg (show ¬ ((Value.ref d == Value.none) = true) from Bool.false_ne_true)]
  refine wpAny_bind (wpAny_pure ?_)
  refine wpAny_bind (wpAny_dictEntries hm rfl ?_)
  rw [if_neg (by simp)]
  refine wpAny_bind (wpAny_pure ?_)
  refine wpAny_bind (wpAny_dictEpoch hm rfl ?_)
  rw [if_neg (by simp)]
  refine wpAny_pure ?_
  have hlt : i < es.length := (List.getElem?_eq_some_iff.mp hx).1
  have hlt' : i < es.toArray.size := by simpa using hlt
  have hval : es.toArray[i] = e := by
    have := (List.getElem?_eq_some_iff.mp hx).2
    simpa using this
  simp only [show ¬ ((i : Int) < 0) from by omega, if_false, Int.toNat_natCast, Array.getElem?_eq_getElem hlt']
  refine wpAny_bind ?_
  first | refine wpAny_bind (wpAny_typeNameOfWhole_keyiter hit.typeIs (wpAny_pure ?_)) | refine wpAny_bind (wpAny_typeNameOf_keyiter hit.typeIs (wpAny_pure ?_))
  refine wpAny_bind (wpAny_isOneOf_keyiter hit.typeIs ?_)
  show wpAny _ _ (setField (.ref it) 1 (rawInt ((i : Int) + 1)) >>= _) _ _ s
  refine wpAny_bind (wpAny_setField ho hd (by simp) ?_)
  have hit' : (s.heap.update it (Obj.mapFields (·.setIfInBounds 1 (rawInt ((i : Int) + 1))))).IsKeyIter it d (i + 1) es.length ep :=
    ⟨_, Heap.get?_update_self _ ho (Obj.isFreed_of_fields (Obj.data_mapFields hd _)), (Obj.cls_mapFields ..).trans hc, by rw [Obj.data_mapFields hd]; simp [rawInt]⟩
  refine wpAny_bind (wpAny_holding ?_)
  refine wpAny_bind (wpAny_isOneOf_keyiter (s := { s with heap := s.heap.update it (Obj.mapFields (·.setIfInBounds 1 (rawInt ((i : Int) + 1)))) }) hit'.typeIs ?_)
  show wpAny _ _ (pure es.toArray[i].key) _ _ _
  exact wpAny_pure (wpAny_pure ⟨_, rfl, wpAny_pure (by rw [hval]; exact hQ _ hit' (Heap.SameBut.update ..))⟩)
theorem dk_end {it d : Addr} {i ep : Nat} {es : List DictEntry} {Q : Option Value → Shared → Prop} (hh : A.handled = none) (hit : s.heap.IsKeyIter it d i es.length ep) (hm : s.heap.get? d = some (dictOf es ep)) (hx : es[i]? = none)
    (hQ : ∀ h', Heap.ExtBut it s.heap h' → Q none { s with heap := h' }) : wpAny (model prog w) A (pyNext (.ref it)) Q E s := by
  obtain ⟨o, ho, hc, hd⟩ := id hit
  unfold pyNext
  refine wpAny_bind (wpAny_attempt (wpAny_callSpecial?_slot (name := Str.ofString "__next__") hit.typeIs PySem.F.slot_dict_keyiterator_next
    (wpAny_call_entry PySem.F.slot_dict_keyiterator_next hit.typeIs PySem.F.entry_dict_keyiterator_next ?_ (PySem.F.args_dict_keyiterator_next_1 _))))
  refine wpAny_bind (wpAny_pure ?_)
  refine wpAny_bind ?_
  refine wpAny_bind ?_
  first | refine wpAny_bind (wpAny_typeNameOfWhole_keyiter hit.typeIs (wpAny_pure ?_)) | refine wpAny_bind (wpAny_typeNameOf_keyiter hit.typeIs (wpAny_pure ?_))
  refine wpAny_bind (wpAny_fieldsOf ho hd ?_)
  have hown : Builtin.Dict_items.ownsTuple "dict_keyiterator" = false := by decide
  simp only [hown, Bool.false_eq_true, if_false]
  show wpAny _ _ (if (Value.ref d == Value.none) = true then _ else _) _ _ s
  rw [if_neg (show ¬ ((Value.ref d == Value.none) = true) from Bool.false_ne_true)]
  refine wpAny_bind (wpAny_pure ?_)
  refine wpAny_bind (wpAny_dictEntries hm rfl ?_)
  rw [if_neg (by simp)]
  refine wpAny_bind (wpAny_pure ?_)
  refine wpAny_bind (wpAny_dictEpoch hm rfl ?_)
  rw [if_neg (by simp)]
  refine wpAny_pure ?_
  have hge : es.toArray.size ≤ i := by simpa using hx
  simp only [show ¬ ((i : Int) < 0) from by omega, if_false, Int.toNat_natCast, Array.getElem?_eq_none hge]
  refine wpAny_bind ?_
  first | refine wpAny_bind (wpAny_typeNameOfWhole_keyiter hit.typeIs (wpAny_pure ?_)) | refine wpAny_bind (wpAny_typeNameOf_keyiter hit.typeIs (wpAny_pure ?_))
  show wpAny _ _ (setField (.ref it) 0 .none >>= _) _ _ s
  refine wpAny_bind (wpAny_setField ho hd (by simp) ?_)
  show wpAny _ _ (newExc (.type "StopIteration") [] >>= _) _ _ _
  refine wpAny_bind ?_
  simp only [newExc, newTuple]
  refine wpAny_bind (wpAny_newObj_type ?_ (by size_fits))
  refine wpAny_bind (m := firstArgMember _ _) (wpAny_of_eq (a := Value.none) (by first | rfl | (simp only [firstArgMember]; rfl)) ?_)
  refine wpAny_newObj_type ?_ (by size_fits)
  simp only [raiseNew]
  refine wpAny_bind (wpAny_handled ?_)
  rw [show A.in1.handled = none from hh]
  refine wpAny_bind (wpAny_pure (wpAny_throw ?_))
  refine wpAny_bind (wpAny_isInstance (T := "StopIteration") (b := true) ⟨_, Heap.get?_push_size _ rfl, rfl⟩ isSubtype_stop ?_)
  exact wpAny_pure (hQ _ (((Heap.SameBut.update ..).extBut.push _).push _))
theorem dk_walks (hh : A.handled = none) (I d : Addr) (hne : d ≠ I) (es : List DictEntry) (ep : Nat) :
    Walks prog w A I [I, d] [I] es.length (fun i v => ∃ e : DictEntry, es[i]? = some e ∧ v = e.key) (fun i h => h.IsKeyIter I d i es.length ep ∧ h.get? d = some (dictOf es ep)) where
  sub := fun b hb => by simp at hb; simp [hb]
  frame := fun _ _ _ st hk => ⟨st.1.at fun o e => hk I (by simp) o e, hk d (by simp) _ st.2⟩
  item := fun i s Q E hi st hQ => by
    refine dk_item st.1 st.2 (List.getElem?_eq_getElem hi) fun h' hit' hs' => ?_
    exact hQ _ h' s.toks ⟨_, List.getElem?_eq_getElem hi, rfl⟩ ⟨hit', hs'.extBut _ _ hne st.2⟩ fun b o hb e => hs'.extBut b o (fun h => hb (by simp [h])) e
  done := fun s Q E st hQ => dk_end hh st.1 st.2 (by simp) fun h' he' => hQ h' s.toks fun b o hb e => he' b o (fun h => hb (by simp [h])) e
  self := fun _ _ _ _ st hQ => wpAny_pyIter_keyiter st.1 hQ
end
section
variable {prog : Program} {w : World} {A : Around} {E : Value → Shared → Prop} {s : Shared} {h₀ : Heap} {L : Addr} {m : Str → Option Value} {news : List (Addr × Obj)}
theorem dv_method {d : Addr} {es : List DictEntry} {ep : Nat} {pl : Sem Bool} {Q : Value × List Value → Shared → Prop} (N : News h₀ L s.heap news) (hm : (d, dictOf es ep) ∈ news) (h : Q (.builtin "dict.values", [.ref d]) s) : wpAny (model prog w) A (getMethod (.ref d) (Str.ofString "values") pl) Q E s :=
  getMethod_builtin ⟨_, N.get hm, rfl⟩ PySem.F.plainAttrs_dict PySem.F.slot_dict_values PySem.F.type_dict_values (fun b e => by cases e; exact ⟨_, N.get hm, rfl⟩) h
theorem dv_view {d : Addr} {es : List DictEntry} {ep : Nat} {Q : Value → Shared → Prop} (hd : (d == sysModules) = false) (F : Fr h₀ L s.heap m) (N : News h₀ L s.heap news) (hm : (d, dictOf es ep) ∈ news)
    (h : ∀ V h', Fr h₀ L h' m → News h₀ L h' ((V, { cls := .type "dict_values", data := .fields #[.ref d] }) :: news) → (∀ p ∈ news, p.1 < V) → Q (.ref V) { s with heap := h' }) : wpAny (model prog w) A (call (.builtin "dict.values") [.ref d]) Q E s :=
  dv_call hd (N.get hm) (h _ _ (F.push _) (News.push F N _) fun p hp => Heap.lt_size (N p hp).1)
end
section
open LCg
variable {prog : Program} {w : World} {A : Around} {E : Value → Shared → Prop} {s : Shared} {h₀ : Heap} {L : Addr} {m : Str → Option Value} {env : Env}
theorem cg_vals {elt target : Expr} {ifs : List Expr} {scope : Scope} {cl : List (Str × Addr)} {Q : Value → Shared → Prop} {V d : Addr} {es : List DictEntry} {ep : Nat} {J : Nat → List Value → List (Addr × Obj) → Prop} {news : List (Addr × Obj)}
    (hh : A.handled = none) (F : Fr h₀ L s.heap m) (N : News h₀ L s.heap news) (hV : (V, ({ cls := .type "dict_values", data := .fields #[.ref d] } : Obj)) ∈ news)
    (hgo : ∀ (I : Addr) (i : Nat) (v : Value) (s' : Shared) (Q' : Unit → Shared → Prop) (E' : Value → Shared → Prop), Q' () s' → wpAny (model prog w) A (letOwnedTupleGo target (.ref I) v) Q' E' s')
    (src : ∀ i ys news, J i ys news → (d, dictOf es ep) ∈ news ∧ ys.length ≤ i) (size : es.length ≤ 1000) (J0 : J 0 [] news)
    (turn : ∀ (i : Nat) (e : DictEntry) (ys : List Value) (news : List (Addr × Obj)) wl C oC m' D h tk (E' : Value → Shared → Prop), i < es.length → J i ys news → es[i]? = some e → NsObj oC m' → Fr h₀ L h m → News h₀ L h ((C, oC) :: (D, lst ys) :: (wl ++ news)) → (∀ p ∈ news, p.1 ≠ C ∧ p.1 ≠ D) → (∀ p ∈ wl, p.1 ≠ C ∧ p.1 ≠ D) → C ≠ D → (∀ p ∈ news, ∀ q ∈ wl, p.1 ≠ q.1) →
      wpAny (model prog w) A (assign target (compEnvC scope cl C env) e.val) (fun _ s₂ =>
        wpAny (model prog w) A (forIn ifs true fun c r => if r = true then do let ok ← isTrue c (compEnvC scope cl C env) (eval c (compEnvC scope cl C env)); pure (ForInStep.yield ok) else pure (ForInStep.yield r)) (fun ok s₃ =>
          if ok = true then wpAny (model prog w) A (eval elt (compEnvC scope cl C env)) (fun y s₄ => CGEnd h₀ L m s C D wl ys (J (i + 1)) (ys ++ [y]) s₄) E' s₃ else CGEnd h₀ L m s C D wl ys (J (i + 1)) ys s₃) E' s₂) E' { s with heap := h, toks := tk })
    (fin : ∀ ys news', J es.length ys news' → CGFin h₀ L m s Q ys news') :
    wpAny (model prog w) A (pyIter (.ref V)) (fun it s₂ => ∃ I wr srcs n P St J news, it = .ref I ∧ CGo prog w A h₀ L m env elt target ifs scope cl s₂ (CGFin h₀ L m s₂ Q) I wr srcs n P St J news) E s := by
  have hm := (src _ _ _ J0).1
  have hlt : d < s.heap.objs.size := Heap.lt_size (N _ hm).1
  refine dv_iter ⟨_, N.get hV, rfl, rfl⟩ (N.get hm) ?_
  refine cgo_new (Fin := CGFin h₀ L m s Q) (srcs := [(d, dictOf es ep)]) (dv_walks hh s.heap.objs.size d (Nat.ne_of_lt hlt) es ep) ?_ ?_ ?_ ?_ F N (J := J) ?_ (by rw [sizeLine_eq]; omega) J0 ?_ ?_
  · intro b hb
    rcases List.mem_cons.mp hb with rfl | hb
    · exact .inl rfl
    · exact .inr hb
  · intro i v s' Q' E' hv st hq
    exact hgo _ i v s' Q' E' hq
  · intro i h st
    obtain ⟨o, e, _⟩ := st.1
    exact ⟨o, e⟩
  · exact ⟨⟨_, Heap.get?_push_size _ rfl, rfl, rfl⟩, Heap.get?_push_of_some _ (N.get hm)⟩
  · intro i ys news h
    exact ⟨fun p hp => by rw [List.mem_singleton.mp hp]; exact (src i ys news h).1, (src i ys news h).2⟩
  · intro i v ys news wl C oC m' D h tk E' hi hJ hv
    obtain ⟨e, he, rfl⟩ := hv
    exact turn i e ys news wl C oC m' D h tk E' hi hJ he
  · exact fin
end
section
open LCg
variable {s : Shared} {h₀ : Heap} {L C D : Addr} {m m' : Str → Option Value} {ys ys' : List Value} {oC : Obj} {wl news : List (Addr × Obj)} {J : List Value → List (Addr × Obj) → Prop} {h' : Heap} {tk' : Nat}
theorem cg_end0 (F : Fr h₀ L h' m) (hC : NsObj oC m') (N : News h₀ L h' ((C, oC) :: (D, lst ys) :: (wl ++ news))) (o1 : ∀ p ∈ news, p.1 ≠ C ∧ p.1 ≠ D) (o3 : ∀ p ∈ news, ∀ q ∈ wl, p.1 ≠ q.1) (hJ : J ys' news) :
    CGEnd h₀ L m s C D wl ys J ys' { s with heap := h', toks := tk' } :=
  ⟨h', tk', oC, m', news, rfl, hC, F, N, fun p hp => ⟨(o1 p hp).1, (o1 p hp).2, o3 p hp⟩, hJ⟩
theorem cg_end1 {T : Addr} {o : Obj} (F : Fr h₀ L h' m) (hC : NsObj oC m') (N : News h₀ L h' ((T, o) :: (C, oC) :: (D, lst ys) :: (wl ++ news))) (l1 : C < T ∧ D < T ∧ AllLt T (wl ++ news)) (o1 : ∀ p ∈ news, p.1 ≠ C ∧ p.1 ≠ D) (o3 : ∀ p ∈ news, ∀ q ∈ wl, p.1 ≠ q.1) (hJ : J ys' ((T, o) :: news)) :
    CGEnd h₀ L m s C D wl ys J ys' { s with heap := h', toks := tk' } := by
  refine ⟨h', tk', oC, m', (T, o) :: news, rfl, hC, F, News.sub N fun p hp => ?_, fun p hp => ?_, hJ⟩
  · simp only [List.mem_cons, List.mem_append] at hp ⊢
    rcases hp with h | h | h | h | h <;> simp [h]
  · rcases List.mem_cons.mp hp with rfl | hp
    · exact ⟨Ne.symm (Nat.ne_of_lt l1.1), Ne.symm (Nat.ne_of_lt l1.2.1), fun q hq => Ne.symm (Nat.ne_of_lt (of_allLt l1.2.2 q (List.mem_append_left _ hq)))⟩
    · exact ⟨(o1 p hp).1, (o1 p hp).2, o3 p hp⟩
end

local macro_rules | `(tactic| walk_at "getMethod ref") => `(tactic| (k_here; (with_reducible show wpAny _ _ (getMethod _ (Str.ofString "values") _) _ _ _); k_dflt (apply dv_method; k_asm; (focus k_mem); k_whole)))
local macro_rules | `(tactic| walk_at "call builtin:dict.values") => `(tactic| (k_here; k_dflt (apply dv_view; rotate_left; k_asm; k_asm; (focus k_mem); rotate_right; k_asm); intro V' h' F' N' l1; (try k_lt l1); (try k_sweep)))
theorem off_B17 : True := by
  w_top off
  exact True.intro
theorem sub_e {α : Type} {D V : α} {own rest : List α} : ∀ p ∈ D :: (own ++ rest), p ∈ D :: (own ++ V :: rest) := by
  intro p hp
  simp only [List.mem_cons, List.mem_append] at *
  rcases hp with h | h | h <;> simp [h]
section
variable {w : World} {dp un : Nat} {gd : Option (List Code)} {cn : Str} {nm : List (Str × NameKind)} {ig ic : Bool} {mo : List (Str × Const)} {a : Addr} {ccd : Value} {cl : List (Str × Addr)} {outer : List Env} {A₀ : Around} {base h₀ : Heap} {L : Addr} {m : Str → Option Value} {news : List (Addr × Obj)} {s : Shared}
    {loose : List Str} {mean : ExcName → Option Value} {mg mb : Str → Option Value} {Q E : Value → Shared → Prop}
    (B : Below A₀ base outer h₀) (F : Fr h₀ L s.heap m) (X : (pre.heap_1 w.params).In h₀) (N : News h₀ L s.heap news) (T : Top pre.view_1 loose mean mg mb h₀) (hdp : dp < 850) (hun : un < 8700)
include B F X N T hdp hun


omit B F X N T hdp hun in
def EntJ (xs : List (List Scal × Addr × Value)) (news : List (Addr × Obj)) (i : Nat) (ys : List Value) (news' : List (Addr × Obj)) : Prop :=
  ∃ own V, news' = own ++ V :: news ∧ ys.length = i ∧ (∀ (j : Nat) x, j < i → xs[j]? = some x → ∃ (T : Addr) (n : Nat) (kv v : Value) (p : Addr) (n2 : Nat), ys[j]? = some (.ref T) ∧ (T, tupO [kv, v] n) ∈ own ∧ x.2.2 = .ref p ∧ (p, lstO [kv, v] n2) ∈ news) ∧ ∀ p ∈ news, ∀ q ∈ own, @LT.lt Nat _ p.1 q.1
theorem call_entries {t eD pD rL : Addr} {num : Int} {xs : List (List Scal × Addr × Value)} {e1 : Nat}
    (hT : TabD w news t num eD pD rL) (hE : (eD, dictOf (ents w xs) e1) ∈ news) (hlow : (eD == sysModules) = false) (hz : xs.length ≤ 1000)
    (hp : ∀ (i : Nat) x, xs[i]? = some x → ∃ (p : Addr) (n : Nat) (kv v : Value), x.2.2 = .ref p ∧ (p, lstO [kv, v] n) ∈ news ∧ ((∃ (i : Int) (u : Tok), v = .int i u) ∨ ∃ u : Tok, v = .str (Str.ofString "new") u))
    (k : ∀ h' tk' D ts own n, Fr h₀ L h' m → News h₀ L h' ((D, lstO ts n) :: (own ++ news)) → ts.length = xs.length → (∀ (i : Nat) x, xs[i]? = some x → ∃ (T : Addr) (n : Nat) (kv v : Value) (p : Addr) (n2 : Nat), ts[i]? = some (.ref T) ∧ (T, tupO [kv, v] n) ∈ own ∧ x.2.2 = .ref p ∧ (p, lstO [kv, v] n2) ∈ news) → (∀ p ∈ news, ∀ q ∈ (D, lstO ts n) :: own, p.1 ≠ q.1) → Q (.ref D) { s with heap := h', toks := tk' }) :
    wpAny (model (RowW.prog (OpenRow.toRowW (OpenLaw.row PySem.Challenge.rw_rh0225_01))) w) (ktrTop dp un gd cn ⟨.function, nm, ig, ic, mo⟩ L a ccd cl outer) (call (.ref 321) [.ref t]) Q E s := by
  have X₁ : (pre.heap_1 w.params).In s.heap := X.keeps F.keep
  have hT' := hT
  obtain ⟨d3, _, _, _, _, _, _, _, _, _, _, h31, h32⟩ := hT'
  k_steps
  refine' held_open (cg_ListComp ?qF ?qclos ?qcell ?qkind ?qnames ?qh ?qhs)
  (case qF => k_asm)
  (case qclos => with_unfolding_all rfl)
  (case qcell => decide)
  (case qkind => rfl)
  (case qnames => decide)
  (case qhs => intro _; rfl)
  k_steps
  refine' held_open (cg_vals (J := EntJ xs news) ?qhh ?qF ?qN ?qhV ?qgo ?qsrc ?qsize ?qJ0 ?qturn ?qfin)
  (case qhh => rfl)
  (case qF => k_asm)
  (case qN => k_asm)
  (case qhV => k_mem)
  (case qgo => intro I i v s' Q' E' h; exact wpAny_pure h)
  (case qsrc =>
    rintro i ys news' ⟨own, V, rfl, hl, _, _⟩
    exact ⟨List.mem_append_right _ (List.mem_cons_of_mem _ hE), Nat.le_of_eq hl⟩)
  (case qsize => rw [List.length_map]; exact hz)
  (case qJ0 => exact ⟨[], _, rfl, rfl, fun j x hj => absurd hj (Nat.not_lt_zero j), fun _ _ _ hq => absurd hq List.not_mem_nil⟩)
  (case qturn =>
    rintro i e ys news1 wl C oC m1 D g tk2 E' hi ⟨own, V, rfl, hl, hg, hfr⟩ he hC F1 N1 o1 o2 hCD o3
    obtain ⟨x, hx, rfl⟩ : ∃ x, xs[i]? = some x ∧ e = entryOfKey (Mine.tk w) x := by
      rw [List.getElem?_map] at he
      cases h : xs[i]? with
      | none => rw [h] at he; cases he
      | some x => rw [h] at he; exact ⟨x, rfl, (Option.some.inj he).symm⟩
    obtain ⟨p, n, kv, v, e1, hp1, hv⟩ := hp i x hx
    show wpAny _ _ (assign _ _ x.2.2) _ _ _
    rw [e1]
    refine cg_name rfl rfl hC F1 N1 (fun p hp => ?_) fun h2 tk3 oC2 m2 hC2 hx2 F2 N2 => ?_
    · rcases List.mem_cons.mp hp with rfl | hp
      · exact Ne.symm hCD
      rcases List.mem_append.mp hp with hp | hp
      · exact (o2 p hp).1
      · exact (o1 p hp).1
    refine wpAny_tests_one ?_
    have fin : ∀ (T9 : Addr) (n9 : Nat), (∀ p ∈ news, @LT.lt Nat _ p.1 T9) → EntJ xs news (i + 1) (ys ++ [.ref T9]) ((T9, tupO [kv, v] n9) :: (own ++ V :: news)) := by
      intro T9 n9 hT9
      refine ⟨(T9, tupO [kv, v] n9) :: own, V, rfl, by rw [List.length_append, hl]; rfl, fun j y hj hy => ?_, fun p hp q hq => ?_⟩
      rotate_left
      · rcases List.mem_cons.mp hq with rfl | hq
        · exact hT9 p hp
        · exact hfr p hp q hq
      by_cases hji : j = i
      · subst hji
        rw [hx] at hy
        cases hy
        exact ⟨T9, n9, kv, v, p, n, by rw [List.getElem?_append_right (Nat.le_of_eq hl), hl, Nat.sub_self]; rfl, List.mem_cons_self, e1, hp1⟩
      · obtain ⟨T, n1, kv1, v1, p1, n2, q1, q2, q3, q4⟩ := hg j y (by omega) hy
        exact ⟨T, n1, kv1, v1, p1, n2, by rw [List.getElem?_append_left (by omega)]; exact q1, List.mem_cons_of_mem _ q2, q3, q4⟩
    rcases hv with ⟨i9, u9, rfl⟩ | ⟨u9, rfl⟩
    · k_steps
      exact cg_end1 (by assumption) hC2 (by assumption) (by assumption) o1 o3 (fin _ _ fun p hp => of_allLt (And.right (And.right (by assumption))) p (List.mem_append_right _ (List.mem_append_right _ (.tail _ hp))))
    · k_steps
      exact cg_end1 (by assumption) hC2 (by assumption) (by assumption) o1 o3 (fin _ _ fun p hp => of_allLt (And.right (And.right (by assumption))) p (List.mem_append_right _ (List.mem_append_right _ (.tail _ hp)))))
  rintro ys news' ⟨own, V, rfl, hl, hg, hfr⟩ D9 h9 tk9 F9 N9 o9
  k_steps
  exact k _ _ _ ys own _ (by assumption) (News.sub (by assumption) sub_e) (by rw [hl, List.length_map]) (fun i x hx => hg i x (by rw [List.length_map]; exact (List.getElem?_eq_some_iff.mp hx).1) hx) (fun p hp q hq => by
    rcases List.mem_cons.mp hq with rfl | hq
    · exact o9 p (List.mem_append_right _ (.tail _ hp))
    · exact Nat.ne_of_lt (hfr p hp q hq))
end

theorem off_P5 : True := by
  w_top off
  exact True.intro
/-! ## a for over the keys of a dict -/
section
variable {prog : Program} {w : World} {A : Around} {E : Value → Shared → Prop} {s : Shared} {env : Env} {h₀ : Heap} {m : Str → Option Value} {news : List (Addr × Obj)}
theorem for_keys {R : Result → Shared → Prop} {target : Expr} {body : List Stmt} {l : Addr} {es : List DictEntry} {ep : Nat} (J : Nat → (Str → Option Value) → List (Addr × Obj) → Prop)
    (hh : A.handled = none) (hgo : ∀ (I : Addr) (v : Value) (s' : Shared) (Q' : Unit → Shared → Prop) (E' : Value → Shared → Prop), Q' () s' → wpAny (model prog w) A (letOwnedTupleGo target (.ref I) v) Q' E' s') (hd : (l == sysModules) = false)
    (hS : ∀ i m news, J i m news → (l, dictOf es ep) ∈ news) (F : Fr h₀ env.locals s.heap m) (N : News h₀ env.locals s.heap news) (h0 : J 0 m news)
    (turn : ∀ (i : Nat) (e : DictEntry) m₁ news₁ I oI h tk, es[i]? = some e → J i m₁ news₁ → Fr h₀ env.locals h m₁ → News h₀ env.locals h ((I, oI) :: news₁) → (∀ p ∈ news₁, p.1 ≠ I) →
      wpAny (model prog w) A (assign target env e.key) (fun _ s₂ => wpAny (model prog w) A (execs body env) (TurnIs h₀ env.locals s I oI (J (i + 1)) R) (notedBy (model prog w) A env fun e s' => R (.error e) s') s₂) (notedBy (model prog w) A env fun e s' => R (.error e) s') { s with heap := h, toks := tk })
    (done : ∀ h tk m₁ news₁, Fr h₀ env.locals h m₁ → News h₀ env.locals h news₁ → J es.length m₁ news₁ → R (.ok .next) { s with heap := h, toks := tk }) :
    wpAny (model prog w) A (pyIter (.ref l)) (fun it s₂ => codeAny (model prog w) A (.forLoop target it body [] env) R s₂) E s := by
  have hm := hS 0 m news h0
  have llt : @LT.lt Nat _ l s.heap.objs.size := Heap.lt_size (N _ hm).1
  refine dk_iter hd (N.get hm) ?_
  have W := dk_walks (prog := prog) (w := w) hh s.heap.objs.size l (Nat.ne_of_lt llt) es ep
  generalize hI : s.heap.objs.size = I at *
  have hL : env.locals ≠ I := by rw [← hI]; exact Nat.ne_of_lt F.ns.lt
  have hI0 : h₀.get? I = none := by
    cases e : h₀.get? I with
    | none => rfl
    | some o => have := Heap.lt_size (F.keep I o e); rw [hI] at this; exact absurd this (Nat.lt_irrefl _)
  have offN : ∀ p ∈ news, p.1 ≠ I := fun p hp => by rw [← hI]; exact Nat.ne_of_lt (Heap.lt_size (N p hp).1)
  have pI : (s.heap.push { cls := .type "dict_keyiterator", data := .fields #[.ref l, .int 0 0, .int es.length 0, .int ep 0] }).get? I = some { cls := .type "dict_keyiterator", data := .fields #[.ref l, .int 0 0, .int es.length 0, .int ep 0] } := by rw [← hI]; exact Heap.get?_push_size _ rfl
  refine codeAny_forLoop_any (fun q s' => ∃ i h tk m₁ news₁ oI, q = es.length + 1 - i ∧ i ≤ es.length ∧ s' = { s with heap := h, toks := tk } ∧ Fr h₀ env.locals h m₁ ∧ News h₀ env.locals h ((I, oI) :: news₁) ∧ (∀ p ∈ news₁, p.1 ≠ I) ∧ J i m₁ news₁ ∧ (oI.cls = .type "dict_keyiterator" ∧ oI.data = .fields #[.ref l, .int i 0, .int es.length 0, .int ep 0])) ?_ (es.length + 1)
    ⟨0, _, s.toks, m, news, { cls := .type "dict_keyiterator", data := .fields #[.ref l, .int 0 0, .int es.length 0, .int ep 0] }, rfl, Nat.zero_le _, rfl, F.push _, ?_, offN, h0, rfl, rfl⟩
  · rintro q s' ⟨i, h, tk, m₁, news₁, oI, rfl, hi, rfl, F₁, N₁, off, hJ, hc, hd⟩
    have N₁' : News h₀ env.locals h news₁ := fun p hp => N₁ p (List.mem_cons_of_mem _ hp)
    have hit : h.IsKeyIter I l i es.length ep := ⟨oI, (N₁ (I, oI) List.mem_cons_self).1, hc, hd⟩
    have hls := N₁'.get (hS i m₁ news₁ hJ)
    by_cases hlt : i < es.length
    · refine W.item i { s with heap := h, toks := tk } _ _ hlt ⟨hit, hls⟩ fun v h' tk' hv hst hk => ?_
      obtain ⟨e, hv, rfl⟩ := hv
      obtain ⟨⟨oI', eI', cI', dI'⟩, _⟩ := hst
      have F₂ : Fr h₀ env.locals h' m₁ := LCg.fr_but F₁ hk hL hI0
      have N₂ : News h₀ env.locals h' ((I, oI') :: news₁) := fun p hp => by
        rcases List.mem_cons.mp hp with rfl | hp
        · exact ⟨eI', Ne.symm hL, hI0⟩
        · exact LCg.news_but N₁' hk off p hp
      dsimp only
      refine hgo I _ _ _ _ ?_
      refine wpAny_mono (turn i e m₁ news₁ I oI' h' tk' hv hJ F₂ N₂ off) (fun _ s₂ h₂ => wpAny_mono h₂ (fun f s₃ h₃ => ?_) fun _ _ e => e) fun _ _ e => e
      have fin : (∃ h' tk' m' news', s₃ = { s with heap := h', toks := tk' } ∧ Fr h₀ env.locals h' m' ∧ News h₀ env.locals h' ((I, oI') :: news') ∧ (∀ p ∈ news', p.1 ≠ I) ∧ J (i + 1) m' news') →
          ∃ q', q' < es.length + 1 - i ∧ ∃ i h tk m₁ news₁ oI, q' = es.length + 1 - i ∧ i ≤ es.length ∧ s₃ = { s with heap := h, toks := tk } ∧ Fr h₀ env.locals h m₁ ∧ News h₀ env.locals h ((I, oI) :: news₁) ∧ (∀ p ∈ news₁, p.1 ≠ I) ∧ J i m₁ news₁ ∧ (oI.cls = .type "dict_keyiterator" ∧ oI.data = .fields #[.ref l, .int i 0, .int es.length 0, .int ep 0]) := by
        rintro ⟨h₅, tk₅, m₅, news₅, rfl, F₅, N₅, off₅, J₅⟩
        exact ⟨es.length + 1 - (i + 1), by omega, i + 1, h₅, tk₅, m₅, news₅, oI', rfl, hlt, rfl, F₅, N₅, off₅, J₅, cI', dI'⟩
      cases f with
      | next => exact fin h₃
      | cont => exact fin h₃
      | brk => exact h₃
      | ret v => exact h₃
    · obtain rfl : i = es.length := Nat.le_antisymm hi (Nat.not_lt.mp hlt)
      refine W.done { s with heap := h, toks := tk } _ _ ⟨hit, hls⟩ fun h' tk' hk => ?_
      dsimp only
      refine wpAny_execs_nil ?_
      exact done h' tk' m₁ news₁ (LCg.fr_but F₁ hk hL hI0) (LCg.news_but N₁' hk off) hJ
  · intro p hp
    rcases List.mem_cons.mp hp with rfl | hp
    · exact ⟨pI, Ne.symm hL, hI0⟩
    · exact ⟨Heap.get?_push_of_some _ (N p hp).1, (N p hp).2⟩
end
/-- a new table is new -/
structure TabF (news own : List (Addr × Obj)) (eD pD rL : Addr) : Prop where
  low1 : (eD == sysModules) = false
  low2 : (pD == sysModules) = false
  under : ∀ p ∈ own ++ news, @LT.lt Nat _ p.1 eD
  l1 : @LT.lt Nat _ eD pD
  l2 : @LT.lt Nat _ pD rL
  up : ∀ p ∈ news, ∀ q ∈ own, @LT.lt Nat _ p.1 q.1
theorem tab_mk {w : World} {x d eD pD rL : Addr} {t1 t2 t3 t4 t5 t6 u1 u2 u3 : Tok} {n0 : Nat} {n : Int} : TabD w [(x, instObj 241 d), (d, dictOf [⟨PyData.keyHash w.params (Str.ofString "word"), .str (Str.ofString "word") t1, .str (Str.ofString "TABLE") u1⟩, ⟨PyData.keyHash w.params (Str.ofString "number"), .str (Str.ofString "number") t2, .int n u2⟩,
   ⟨PyData.keyHash w.params (Str.ofString "mark"), .str (Str.ofString "mark") t3, .int 0 u3⟩, ⟨PyData.keyHash w.params (Str.ofString "entries"), .str (Str.ofString "entries") t4, .ref eD⟩, ⟨PyData.keyHash w.params (Str.ofString "places"), .str (Str.ofString "places") t5, .ref pD⟩, ⟨PyData.keyHash w.params (Str.ofString "rows"), .str (Str.ofString "rows") t6, .ref rL⟩] n0)] x n eD pD rL :=
  ⟨d, t1, t2, t3, t4, t5, t6, u1, u2, u3, n0, List.mem_cons_self, List.mem_cons_of_mem _ List.mem_cons_self⟩
theorem sub_t {α : Type} {A B C X D : α} {rest : List α} : ∀ p ∈ C :: B :: A :: ((X :: D :: []) ++ rest), p ∈ A :: B :: C :: X :: D :: rest := by
  intro p hp
  simp only [List.mem_cons, List.mem_append, List.not_mem_nil, or_false] at *
  rcases hp with h | h | h | (h | h) | h <;> simp [h]
section
variable {w : World} {dp un : Nat} {gd : Option (List Code)} {cn : Str} {nm : List (Str × NameKind)} {ig ic : Bool} {mo : List (Str × Const)} {a : Addr} {ccd : Value} {cl : List (Str × Addr)} {outer : List Env} {A₀ : Around} {base h₀ : Heap} {L : Addr} {m : Str → Option Value} {news : List (Addr × Obj)} {s : Shared}
    {loose : List Str} {mean : ExcName → Option Value} {mg mb : Str → Option Value} {Q E : Value → Shared → Prop}
    (B : Below A₀ base outer h₀) (F : Fr h₀ L s.heap m) (X : (pre.heap_1 w.params).In h₀) (N : News h₀ L s.heap news) (T : Top pre.view_1 loose mean mg mb h₀) (hdp : dp < 880) (hun : un < 8900)
include B F X N T hdp hun


theorem call_Table2 {n : Int} {u : Tok}
    (k : ∀ h' tk' x eD pD rL own e1 e2 n1, Fr h₀ L h' m → News h₀ L h' ((eD, dictOf [] e1) :: (pD, dictOf [] e2) :: (rL, lstO [] n1) :: (own ++ news)) → TabD w own x n eD pD rL → TabF news own eD pD rL → Q (.ref x) { s with heap := h', toks := tk' }) :
    wpAny (model (RowW.prog (OpenRow.toRowW (OpenLaw.row PySem.Challenge.rw_rh0225_01))) w) (ktrTop dp un gd cn ⟨.function, nm, ig, ic, mo⟩ L a ccd cl outer) (call (.ref 241) [.int n u]) Q E s := by
  refine call_Table B F X N T (by omega) (by omega) ?_
  intro h' tk' x d eD pD rL e1 e2 n1 t1 t2 t3 t4 t5 t6 u1 u2 u3 n0 F' N' lo1 lo2 q1 q2 q3 q4 q5
  refine k h' tk' x eD pD rL _ e1 e2 n1 F' (News.sub N' sub_t) tab_mk ⟨lo1, lo2, fun p hp => ?_, q4, q5, fun p hp q hq => ?_⟩
  · rcases List.mem_append.mp hp with hp | hp
    · rcases List.mem_cons.mp hp with rfl | hp
      · exact q3
      · rw [List.mem_singleton.mp hp]; exact Nat.lt_trans q2 q3
    · exact Nat.lt_trans (q1 p hp) (Nat.lt_trans q2 q3)
  · rcases List.mem_cons.mp hq with rfl | hq
    · exact Nat.lt_trans (q1 p hp) q2
    · rw [List.mem_singleton.mp hq]; exact q1 p hp
end

local macro_rules
  | `(tactic| walk_at "exec For Name Attribute cons nil") => `(tactic| walk_at "hold")
  | `(tactic| walk_at "exec For Name Call cons nil") => `(tactic| walk_at "hold")
  | `(tactic| walk_at "exec For Tuple Name cons nil") => `(tactic| walk_at "hold")
  | `(tactic| walk_at "exec For Name Name cons nil") => `(tactic| walk_at "hold")
local macro_rules | `(tactic| walk_at "call ref") => `(tactic| (k_here; with_reducible refine' heldC [241, 290] ?_ ?_; decide))
theorem off_B18 : True := by
  w_top off
  exact True.intro
theorem ents_get {w : World} {xs : List (List Scal × Addr × Value)} {i : Nat} {e : DictEntry} (he : (ents w xs)[i]? = some e) : ∃ x, xs[i]? = some x ∧ e = entryOfKey (tk w) x := by
  rw [List.getElem?_map] at he
  cases h : xs[i]? with
  | none => rw [h] at he; cases he
  | some x => rw [h] at he; exact ⟨x, rfl, (Option.some.inj he).symm⟩
theorem atKey_out {xs : List (List Scal × Addr × Value)} {k : List Scal} (h : k ∉ xs.map (·.1)) : atKey xs k = none := by
  simp only [atKey, Option.map_eq_none_iff, List.find?_eq_none, decide_eq_true_eq]
  intro x hx e
  exact h (List.mem_map.mpr ⟨x, hx, e⟩)
theorem take_out {α : Type} {l : List α} (hn : l.Nodup) {i : Nat} {a : α} (h : l[i]? = some a) : a ∉ l.take i := by
  intro hm
  obtain ⟨j, hj, e⟩ := List.mem_iff_getElem.mp hm
  rw [List.getElem_take] at e
  rw [List.length_take] at hj
  have hj2 : j < l.length := by omega
  have e2 : l[j]? = l[i]? := by rw [h, List.getElem?_eq_getElem hj2, e]
  have := (List.getElem?_inj (i := j) (j := i) hj2 hn).mp e2
  omega
theorem take_snoc {α : Type} {l : List α} {i : Nat} {a : α} (h : l[i]? = some a) : l.take (i + 1) = l.take i ++ [a] := by
  rw [List.take_add_one, h]; rfl
theorem sub_copy {α : Type} {E P R I q : α} {own base : List α} : ∀ p ∈ I :: E :: P :: R :: ((own ++ [q]) ++ base), p ∈ E :: P :: R :: q :: I :: (own ++ base) := by
  intro p hp
  simp only [List.mem_cons, List.mem_append, List.not_mem_nil, or_false] at *
  rcases hp with h | h | h | h | (h | h) | h <;> simp [h]
theorem sub_copy0 {α : Type} {E P R I q : α} {rest : List α} : ∀ p ∈ E :: P :: R :: q :: I :: rest, p ∈ q :: I :: E :: P :: R :: rest := by
  intro p hp
  simp only [List.mem_cons] at *
  rcases hp with h | h | h | h | h | h <;> simp [h]
section
variable {w : World} {dp un : Nat} {gd : Option (List Code)} {cn : Str} {nm : List (Str × NameKind)} {ig ic : Bool} {mo : List (Str × Const)} {a : Addr} {ccd : Value} {cl : List (Str × Addr)} {outer : List Env} {A₀ : Around} {base h₀ : Heap} {L : Addr} {m : Str → Option Value} {news : List (Addr × Obj)} {s : Shared}
    {loose : List Str} {mean : ExcName → Option Value} {mg mb : Str → Option Value} {Q E : Value → Shared → Prop}
    (B : Below A₀ base outer h₀) (F : Fr h₀ L s.heap m) (X : (pre.heap_1 w.params).In h₀) (N : News h₀ L s.heap news) (T : Top pre.view_1 loose mean mg mb h₀) (hdp : dp < 850) (hun : un < 8700)
include B F X N T hdp hun


omit B F X N T hdp hun in
/-- what the copying loop holds -/
structure CopyJ (w : World) (news base : List (Addr × Obj)) (xs : List (List Scal × Addr × Value)) (r : Addr) (eD2 pD2 : Addr) (own : List (Addr × Obj)) (xs2 ys2 : List (List Scal × Addr × Value)) (vs2 : List Value) (i : Nat) : Prop where
  l1 : own.length = i
  l2 : xs2.length = i
  l3 : ys2.length = i
  l4 : vs2.length = i
  k1 : xs2.map (·.1) = (xs.map (·.1)).take i
  k2 : ys2.map (·.1) = (xs.map (·.1)).take i
  D1 : DicM w base eD2 xs2
  D2 : DicM w base pD2 ys2
  at' : ∀ (j : Nat) x, j < i → xs[j]? = some x → ∃ (p p2 : Addr) (n n2 : Nat) (kv v : Value) (u : Tok), x.2.2 = .ref p ∧ (p, lstO [kv, v] n) ∈ news ∧ own[j]? = some (p2, lstO [kv, v] n2) ∧ xs2[j]? = some (x.1, x.2.1, .ref p2) ∧ ys2[j]? = some (x.1, x.2.1, .int (j : Int) u) ∧ vs2[j]? = some (.ref p2)
  up : ∀ q ∈ own, @LT.lt Nat _ r q.1
  nd : (own.map (·.1)).Nodup
omit B F X N T hdp hun in
theorem copy_step {news own2 own : List (Addr × Obj)} {xs xs2 ys2 : List (List Scal × Addr × Value)} {vs2 : List Value} {r eD2 pD2 mk p D : Addr} {i n c : Nat} {kk : List Scal} {kv v : Value} {u : Tok}
    (J : CopyJ w news (own2 ++ news) xs r eD2 pD2 own xs2 ys2 vs2 i) (hx : xs[i]? = some (kk, mk, .ref p)) (hp1 : (p, lstO [kv, v] n) ∈ news) (hM : MarkD w news kk mk) (ho1 : atKey xs2 kk = none) (ho2 : atKey ys2 kk = none) (l1 : r < D ∧ AllLt D (own ++ (own2 ++ news))) :
    CopyJ w news (own2 ++ news) xs r eD2 pD2 (own ++ [(D, lstO [kv, v] c)]) (xs2 ++ [(kk, mk, .ref D)]) (ys2 ++ [(kk, mk, .int (vs2.length : Int) u)]) (vs2 ++ [.ref D]) (i + 1) := by
  have hkx : (xs.map (·.1))[i]? = some kk := by rw [List.getElem?_map, hx]; rfl
  have hM' : MarkD w (own2 ++ news) kk mk := hM.mono fun p hp => List.mem_append_right _ hp
  have lst' : ∀ {α : Type} {l : List α} {a : α}, l.length = i → (l ++ [a])[i]? = some a := fun {α l a} h => by rw [List.getElem?_append_right (Nat.le_of_eq h), h, Nat.sub_self]; rfl
  have old' : ∀ {α : Type} {l : List α} {a : α} {j : Nat}, l.length = i → j < i → (l ++ [a])[j]? = l[j]? := fun {α l a j} h hj => List.getElem?_append_left (by omega)
  refine ⟨by simp [J.l1], by simp [J.l2], by simp [J.l3], by simp [J.l4], ?_, ?_, J.D1.snoc hM' ho1, J.D2.snoc hM' ho2, ?_, ?_, ?_⟩
  · rw [List.map_append, J.k1, take_snoc hkx]; rfl
  · rw [List.map_append, J.k2, take_snoc hkx]; rfl
  · intro j x hj hjx
    by_cases e : j = i
    · subst e
      rw [hx] at hjx
      cases hjx
      exact ⟨p, D, n, c, kv, v, u, rfl, hp1, lst' J.l1, lst' J.l2, by rw [lst' J.l3, J.l4], lst' J.l4⟩
    · have hj2 : j < i := by omega
      obtain ⟨p1, p2, n1, n2, kv1, v1, u1, q1, q2, q3, q4, q5, q6⟩ := J.at' j x hj2 hjx
      exact ⟨p1, p2, n1, n2, kv1, v1, u1, q1, q2, by rw [old' J.l1 hj2]; exact q3, by rw [old' J.l2 hj2]; exact q4, by rw [old' J.l3 hj2]; exact q5, by rw [old' J.l4 hj2]; exact q6⟩
  · intro q hq
    rcases List.mem_append.mp hq with hq | hq
    · exact J.up q hq
    · rw [List.mem_singleton.mp hq]; exact l1.1
  · rw [List.map_append, List.nodup_append]
    refine ⟨J.nd, by simp, ?_⟩
    intro y hy z hz
    simp only [List.map_cons, List.map_nil, List.mem_singleton] at hz
    subst hz
    obtain ⟨q, hq, rfl⟩ := List.mem_map.mp hy
    exact Nat.ne_of_lt (of_allLt l1.2 q (List.mem_append_left _ hq))
omit B F X N T hdp hun in
theorem copy_off {I D eD pD rL : Addr} {o1 o2 o3 o1' o2' o3' od : Obj} {own base : List (Addr × Obj)} (h : ∀ p ∈ (eD, o1) :: (pD, o2) :: (rL, o3) :: (own ++ base), p.1 ≠ I) (hd : @Ne Nat D I) : ∀ p ∈ (eD, o1') :: (pD, o2') :: (rL, o3') :: ((own ++ [(D, od)]) ++ base), p.1 ≠ I := by
  intro p hp
  simp only [List.mem_cons, List.mem_append, List.not_mem_nil, or_false] at hp h
  rcases hp with rfl | rfl | rfl | (hp | rfl) | hp
  · exact h (eD, o1) (.inl rfl)
  · exact h (pD, o2) (.inr (.inl rfl))
  · exact h (rL, o3) (.inr (.inr (.inl rfl)))
  · exact h p (.inr (.inr (.inr (.inl hp))))
  · exact hd
  · exact h p (.inr (.inr (.inr (.inr hp))))
omit B F X N T hdp hun in
def CopyI (w : World) (news : List (Addr × Obj)) (xs : List (List Scal × Addr × Value)) (t x eD2 pD2 rL2 : Addr) (base : List (Addr × Obj)) (i : Nat) (m' : Str → Option Value) (news' : List (Addr × Obj)) : Prop :=
  m' (Str.ofString "found") = some (.ref x) ∧ m' (Str.ofString "value") = some (.ref t) ∧ ∃ own xs2 ys2 vs2 e1 e2 n, news' = (eD2, dictOf (ents w xs2) e1) :: (pD2, dictOf (ents w ys2) e2) :: (rL2, lstO vs2 n) :: (own ++ base) ∧ CopyJ w news base xs rL2 eD2 pD2 own xs2 ys2 vs2 i
theorem call_copy {t eD pD rL : Addr} {num : Int} {u9 : Tok} {xs : List (List Scal × Addr × Value)} {e1 : Nat}
    (hT : TabD w news t num eD pD rL) (hE : (eD, dictOf (ents w xs) e1) ∈ news) (D1 : DicM w news eD xs) (hz : xs.length ≤ 1000)
    (hp : ∀ (i : Nat) x, xs[i]? = some x → ∃ (p : Addr) (n : Nat) (kv v : Value), x.2.2 = .ref p ∧ (p, lstO [kv, v] n) ∈ news)
    (k : ∀ h' tk' x2 eD2 pD2 rL2 own2 own xs2 ys2 vs2 e1 e2 n, Fr h₀ L h' m → News h₀ L h' ((eD2, dictOf (ents w xs2) e1) :: (pD2, dictOf (ents w ys2) e2) :: (rL2, lstO vs2 n) :: (own ++ (own2 ++ news))) → TabD w own2 x2 9 eD2 pD2 rL2 → TabF news own2 eD2 pD2 rL2 → CopyJ w news (own2 ++ news) xs rL2 eD2 pD2 own xs2 ys2 vs2 xs.length → Q (.ref x2) { s with heap := h', toks := tk' }) :
    wpAny (model (RowW.prog (OpenRow.toRowW (OpenLaw.row PySem.Challenge.rw_rh0225_01))) w) (ktrTop dp un gd cn ⟨.function, nm, ig, ic, mo⟩ L a ccd cl outer) (call (.ref 316) [.ref t, .int 9 u9]) Q E s := by
  have X₁ : (pre.heap_1 w.params).In s.heap := X.keeps F.keep
  have hT' := hT
  obtain ⟨d3, _, _, _, _, _, _, _, _, _, _, h31, h32⟩ := hT'
  k_steps
  refine' held_open (call_Table2 ?qB ?qF ?qX ?qN ?qT ?qd ?qu ?_)
  (case qF => k_asm)
  (case qN => k_asm)
  (case qB => k_asm)
  (case qX => k_asm)
  (case qT => k_asm)
  (case qd => k_room)
  (case qu => k_units)
  intro g2 tk2 x2 eD2 pD2 rL2 own2 d1 d2 d3 F2 N2 hD2 tf
  k_steps
  refine held_open (wpAny_For ?_ (by intro _; rfl))
  k_steps
  refine' for_keys (J := CopyI w news xs t x2 eD2 pD2 rL2 (own2 ++ news)) ?qhh ?qgo (DicM.low D1) ?qS ?qF ?qN ?qh0 ?qturn ?qdone
  (case qhh => rfl)
  (case qF => k_asm)
  (case qN => k_asm)
  (case qgo => intro I v s' Q' E' h; exact wpAny_pure h)
  (case qS =>
    rintro i m1 news1 ⟨_, _, own, xs2, ys2, vs2, e1, e2, n, rfl, _⟩
    exact List.mem_cons_of_mem _ (List.mem_cons_of_mem _ (List.mem_cons_of_mem _ (List.mem_append_right _ (List.mem_append_right _ hE)))))
  (case qh0 => exact ⟨rfl, rfl, [], [], [], [], d1, d2, d3, rfl, rfl, rfl, rfl, rfl, rfl, rfl, ⟨tf.low1, fun _ h => (nomatch h), List.nodup_nil⟩, ⟨tf.low2, fun _ h => (nomatch h), List.nodup_nil⟩, fun j x hj => absurd hj (Nat.not_lt_zero j), fun q hq => absurd hq List.not_mem_nil, List.nodup_nil⟩)
  (case qturn =>
    rintro i e m1 news1 I oI g3 tk3 he ⟨m1f, m1v, own, xs2, ys2, vs2, e1', e2', n', rfl, J⟩ F3 N3 off
    obtain ⟨x, hx, rfl⟩ := ents_get he
    obtain ⟨p, n, kv, v, e1x, hp1⟩ := hp i x hx
    obtain ⟨kk, mk, vv⟩ := x
    dsimp only at e1x
    subst e1x
    have hat := atKey_of_get D1.nodup hx
    have hM : MarkD w news kk mk := D1.marks _ (List.mem_of_getElem? hx)
    have hkx : (xs.map (·.1))[i]? = some kk := by rw [List.getElem?_map, hx]; rfl
    have ho1 : atKey xs2 kk = none := atKey_out (by rw [J.k1]; exact take_out D1.nodup hkx)
    have ho2 : atKey ys2 kk = none := atKey_out (by rw [J.k2]; exact take_out D1.nodup hkx)
    have F4 := frKnow (frKnow F3 (Str.ofString "found") (.ref x2) m1f) (Str.ofString "value") (.ref t) ((if_neg (by decide)).trans m1v)
    show wpAny _ _ (assign _ _ (Value.ref mk)) _ _ _
    refine wpAny_assign_Name (wpAny_storeName_local rfl F4.ns (fun g4 n4 s4 => ?_) rfl)
    have F5 := F4.set n4 s4
    have N5 := N3.set s4
    have offA : ∀ (z : Addr), (∃ o, (z, o) ∈ ((eD2, dictOf (ents w xs2) e1') :: (pD2, dictOf (ents w ys2) e2') :: (rL2, lstO vs2 n') :: [])) → @LE.le Nat _ eD2 z → @LE.le Nat _ z rL2 → ∀ p ∈ (I, oI) :: (own ++ (own2 ++ news)), p.1 ≠ z := by
      intro z ⟨o, hz9⟩ hz1 hz2 p hp
      rcases List.mem_cons.mp hp with rfl | hp
      · refine Ne.symm (off (z, o) ?_)
        simp only [List.mem_cons, List.not_mem_nil, or_false] at hz9 ⊢
        rcases hz9 with h | h | h <;> simp [h]
      rcases List.mem_append.mp hp with hp | hp
      · exact Ne.symm (Nat.ne_of_lt (Nat.lt_of_le_of_lt hz2 (J.up p hp)))
      · exact Nat.ne_of_lt (Nat.lt_of_lt_of_le (tf.under p hp) hz1)
    have offE := offA eD2 ⟨_, List.mem_cons_self⟩ (Nat.le_refl _) (Nat.le_of_lt (Nat.lt_trans tf.l1 tf.l2))
    have offP := offA pD2 ⟨_, .tail _ (.head _)⟩ (Nat.le_of_lt tf.l1) (Nat.le_of_lt tf.l2)
    have offR := offA rL2 ⟨_, .tail _ (.tail _ (.head _))⟩ (Nat.le_of_lt (Nat.lt_trans tf.l1 tf.l2)) (Nat.le_refl _)
    clear offA
    have hil : i < xs.length := (List.getElem?_eq_some_iff.mp hx).1
    show wpAny _ _ (execs _ _) _ _ _
    clear F3 F4 N3 n4 s4
    k_steps
    refine' held_open (call_put (num := 9) ?qB ?qF ?qX ?qN ?qT ?qd ?qu rfl ?qo1 ?qo2 ?qo3 ?qo4 ?qo5 ?qo6 ?qh1 ?qD1 ?qD2 ho1 ho2 ?qM ?qz1 ?qz2 ?qz3 ?_)
    (case qF => k_asm)
    (case qN => exact News.sub (by assumption) sub_copy0)
    (case qB => k_asm)
    (case qX => k_asm)
    (case qT => k_asm)
    (case qd => k_room)
    (case qu => k_units)
    (case qo1 => exact Nat.ne_of_lt tf.l1)
    (case qo2 => exact Nat.ne_of_lt (Nat.lt_trans tf.l1 tf.l2))
    (case qo3 => exact Nat.ne_of_lt tf.l2)
    (case qo4 => exact List.forall_mem_cons.mpr ⟨Ne.symm (Nat.ne_of_lt (And.left (And.right (by assumption)))), offE⟩)
    (case qo5 => exact List.forall_mem_cons.mpr ⟨Ne.symm (Nat.ne_of_lt (And.left (And.right (And.right (by assumption))))), offP⟩)
    (case qo6 => exact List.forall_mem_cons.mpr ⟨Ne.symm (Nat.ne_of_lt (And.left (And.right (And.right (And.right (by assumption)))))), offR⟩)
    (case qh1 => exact TabD.mono hD2 fun p hp => .tail _ (.tail _ (List.mem_append_right _ (List.mem_append_left _ hp))))
    (case qD1 => exact J.D1.mono fun p hp => .tail _ (.tail _ (List.mem_append_right _ hp)))
    (case qD2 => exact J.D2.mono fun p hp => .tail _ (.tail _ (List.mem_append_right _ hp)))
    (case qM => exact hM.mono fun p hp => .tail _ (.tail _ (List.mem_append_right _ (List.mem_append_right _ hp))))
    (case qz1 => rw [J.l2]; omega)
    (case qz2 => rw [J.l3]; omega)
    (case qz3 => rw [J.l4]; omega)
    intro g6 tk6 e16 e26 n6 u6 F6 N6
    k_steps
    refine ⟨_, _, _, _, rfl, F6, News.sub N6 sub_copy, copy_off off (Nat.ne_of_gt (And.left (by assumption))), rfl, rfl, _, _, _, _, _, _, _, rfl, copy_step J hx hp1 hM ho1 ho2 (And.right (And.right (And.right (by assumption))))⟩)
  rintro g3 tk3 m1 news1 F3 N3 ⟨m1f, m1v, own, xs2, ys2, vs2, e1', e2', n', rfl, J⟩
  have F4 := frKnow F3 (Str.ofString "found") (.ref x2) m1f
  clear F3
  k_steps
  exact k _ _ _ _ _ _ _ _ _ _ _ _ _ _ (by assumption) (by assumption) hD2 tf (by rw [List.length_map] at J; exact J)
end

theorem off_P6 : True := by
  w_top off
  exact True.intro
/-! ## a comprehension over zip(l1, l2) -/
section
open LCg
variable {prog : Program} {w : World} {A : Around} {E : Value → Shared → Prop} {s : Shared} {h₀ : Heap} {L : Addr} {m : Str → Option Value} {env : Env}
theorem cg_zip {elt : Expr} {elts : List Expr} {k1 : Nat} {pt : Pos} {ifs : List Expr} {scope : Scope} {cl : List (Str × Addr)} {Q : Value → Shared → Prop} {l1 l2 : Addr} {xs ys : List Value} {n1 n2 : Nat} {J : Nat → List Value → List (Addr × Obj) → Prop} {news : List (Addr × Obj)}
    (hh : A.handled = none) (F : Fr h₀ L s.heap m) (N : News h₀ L s.heap news)
    (src : ∀ i zs news, J i zs news → (l1, lstO xs n1) ∈ news ∧ (l2, lstO ys n2) ∈ news ∧ zs.length ≤ i) (size : xs.length ≤ 1000) (J0 : J 0 [] news)
    (turn : ∀ (i : Nat) (T : Addr) (x y : Value) (zs : List Value) (news : List (Addr × Obj)) wl C oC m' D h tk (E' : Value → Shared → Prop), J i zs news → xs[i]? = some x → ys[i]? = some y → IsTup h T #[x, y] → NsObj oC m' → Fr h₀ L h m → News h₀ L h ((C, oC) :: (D, lst zs) :: (wl ++ news)) → (∀ p ∈ news, p.1 ≠ C ∧ p.1 ≠ D) → (∀ p ∈ wl, p.1 ≠ C ∧ p.1 ≠ D) → C ≠ D → (∀ p ∈ news, ∀ q ∈ wl, p.1 ≠ q.1) →
      wpAny (model prog w) A (assign (.Tuple elts k1 pt) (compEnvC scope cl C env) (.ref T)) (fun _ s₂ =>
        wpAny (model prog w) A (forIn ifs true fun c r => if r = true then do let ok ← isTrue c (compEnvC scope cl C env) (eval c (compEnvC scope cl C env)); pure (ForInStep.yield ok) else pure (ForInStep.yield r)) (fun ok s₃ =>
          if ok = true then wpAny (model prog w) A (eval elt (compEnvC scope cl C env)) (fun y s₄ => CGEnd h₀ L m s C D wl zs (J (i + 1)) (zs ++ [y]) s₄) E' s₃ else CGEnd h₀ L m s C D wl zs (J (i + 1)) zs s₃) E' s₂) E' { s with heap := h, toks := tk })
    (fin : ∀ zs news', J (min xs.length ys.length) zs news' → CGFin h₀ L m s Q zs news') :
    wpAny (model prog w) A (call (.type "zip") [.ref l1, .ref l2]) (fun xv s₁ => Held (wpAny (model prog w) A (pyIter xv) (fun it s₂ => ∃ I wr srcs n P St J news, it = .ref I ∧ CGo prog w A h₀ L m env elt (.Tuple elts k1 pt) ifs scope cl s₂ (CGFin h₀ L m s₂ Q) I wr srcs n P St J news) E s₁)) E s := by
  have hm := src _ _ _ J0
  have hb : s.heap.IsList l1 xs.toArray := News.isList N hm.1
  have hk : s.heap.IsList l2 ys.toArray := News.isList N hm.2.1
  refine call_zip_2 hb hk fun h' hz hTI hTO hi1 hi2 hsz hkeep => held_open ?_
  have blt : @LT.lt Nat _ l1 s.heap.objs.size := Heap.lt_size (N _ hm.1).1
  have klt : @LT.lt Nat _ l2 s.heap.objs.size := Heap.lt_size (N _ hm.2.1).1
  have Llt : @LT.lt Nat _ L s.heap.objs.size := F.ns.lt
  have low : ∀ p ∈ news, @LT.lt Nat _ p.1 s.heap.objs.size := fun p hp => Heap.lt_size (N p hp).1
  have low0 : ∀ c o, h₀.get? c = some o → @LT.lt Nat _ c s.heap.objs.size := fun c o e => Heap.lt_size (F.keep c o e)
  generalize hn : s.heap.objs.size = n at *
  refine wpAny_pyIter_zip hz ?_
  have D : ZipApart (n + 4) (n + 2) (n + 3) n (n + 1) l1 l2 := by
    constructor <;> (refine neN ?_; omega)
  have W := WalksT.zip2 (prog := prog) (w := w) hh (n + 4) (n + 2) (n + 3) n (n + 1) l1 l2 D xs.toArray ys.toArray
  have hb' : h'.IsList l1 xs.toArray := hb.at fun o e => hkeep _ o e
  have hk' : h'.IsList l2 ys.toArray := hk.at fun o e => hkeep _ o e
  have hmin : min xs.toArray.size ys.toArray.size = min xs.length ys.length := by simp
  refine ⟨n + 4, [n + 4, n + 2, n + 3, n, n + 1], [(l1, lstO xs n1), (l2, lstO ys n2)], min xs.toArray.size ys.toArray.size, fun i v h => ∃ T x y, v = .ref T ∧ xs[i]? = some x ∧ ys[i]? = some y ∧ IsTup h T #[x, y], fun i h => IsZip h (n + 4) (n + 2) (n + 3) .none ∧ IsPair h (n + 2) (.ref n) (.ref (n + 1)) ∧ (∃ a b, IsPair h (n + 3) a b) ∧ h.IsListIter n l1 i ∧ h.IsListIter (n + 1) l2 i ∧ h.IsList l1 xs.toArray ∧ h.IsList l2 ys.toArray, J, news, rfl, ?_⟩
  have wide : ∀ b, b ∉ [n + 4, n + 2, n + 3, n, n + 1] → b ∉ [n + 4, n + 3, n, n + 1] := fun b hb hm => hb (by
    simp only [List.mem_cons, List.not_mem_nil, or_false] at hm ⊢
    rcases hm with h | h | h | h <;> simp [h])
  exact {
    frame := fun i h h' st hk => W.frame i h h' st fun b hb o e => hk b (by
      simp only [List.map_cons, List.map_nil, List.mem_append, List.mem_cons, List.not_mem_nil, or_false] at hb ⊢
      rcases hb with h | h | h | h | h | h | h <;> simp [h]) o e
    item := fun i s' Q' E' hi st hQ => W.item i s' _ E' hi st fun T vals g tk hP hTn htup hmid hk1 => by
      obtain ⟨x, y, hx, hy, rfl⟩ := hP
      refine ⟨.ref T, rfl, W.go elts k1 pt i T _ _ _ hmid fun g2 st2 hk2 => hQ (.ref T) g2 tk ⟨T, x, y, rfl, by simpa using hx, by simpa using hy, ?_⟩ st2 fun b o hb e => hk2 b o (wide b hb) (hk1 b o (wide b hb) e)⟩
      exact htup.at fun o e => hk2 T o (W.apart i T g hmid) e
    done := fun s' Q' E' st hQ => W.done s' Q' E' st fun g tk hk => hQ g tk fun b o hb e => hk b o (wide b hb) e
    self := fun s' Q' E' st hQ => W.self 0 s' Q' E' st hQ
    has := fun i h st b hb => by
      obtain ⟨s1, s2, ⟨_, _, s3⟩, ⟨o4, s4, _⟩, ⟨o5, s5, _⟩, _⟩ := st
      simp only [List.mem_cons, List.not_mem_nil, or_false] at hb
      rcases hb with rfl | rfl | rfl | rfl | rfl
      · exact ⟨_, s1⟩
      · exact ⟨_, s2⟩
      · exact ⟨_, s3⟩
      · exact ⟨_, s4⟩
      · exact ⟨_, s5⟩
    st0 := ⟨hz, hTI, ⟨_, _, hTO⟩, hi1, hi2, hb', hk'⟩
    F := F.keeps hkeep
    N := N.grown hkeep
    wrL := fun b hb => by
      have hge : @LE.le Nat _ n b := by
        simp only [List.mem_cons, List.not_mem_nil, or_false] at hb
        rcases hb with rfl | rfl | rfl | rfl | rfl
        · exact Nat.le_add_right _ _
        · exact Nat.le_add_right _ _
        · exact Nat.le_add_right _ _
        · exact Nat.le_refl _
        · exact Nat.le_add_right _ _
      refine ⟨Ne.symm (Nat.ne_of_lt (Nat.lt_of_lt_of_le Llt hge)), ?_⟩
      cases e : h₀.get? b with
      | none => rfl
      | some o => exact absurd (low0 b o e) (Nat.not_lt.mpr hge)
    off := fun p hp hm => by
      have hlt := low p hp
      have hge : @LE.le Nat _ n p.1 := by
        simp only [List.mem_cons, List.not_mem_nil, or_false] at hm
        rcases hm with h | h | h | h | h
        · rw [h]; exact Nat.le_add_right _ _
        · rw [h]; exact Nat.le_add_right _ _
        · rw [h]; exact Nat.le_add_right _ _
        · rw [h]; exact Nat.le_refl _
        · rw [h]; exact Nat.le_add_right _ _
      exact absurd hlt (Nat.not_lt.mpr hge)
    src := fun i zs news h p hp => by
      simp only [List.mem_cons, List.not_mem_nil, or_false] at hp
      rcases hp with rfl | rfl
      · exact (src i zs news h).1
      · exact (src i zs news h).2.1
    few := fun i zs news h => (src i zs news h).2.2
    size := by rw [hmin, sizeLine_eq]; omega
    J0 := J0
    turn := fun i v zs news wl C oC m' D' h tk E' a b c d e f g h1 h2 h3 => by
      obtain ⟨T, x, y, rfl, hx, hy, ht⟩ := c
      exact turn i T x y zs news wl C oC m' D' h tk E' b hx hy ht d e f g h1 h2 h3
    fin := fun zs news' h => fin zs news' (hmin ▸ h) }
end

local macro_rules | `(tactic| walk_at "call ref") => `(tactic| (k_here; with_reducible refine' heldC [295, 335, 316, 321, 222, 328] ?_ ?_; decide))
local macro_rules | `(tactic| walk_at "call type:zip") => `(tactic| walk_at "hold")
theorem off_P7 : True := by
  w_top off
  exact True.intro
/-! ## a for over a range -/
section
variable {prog : Program} {w : World} {A : Around} {E : Value → Shared → Prop} {s : Shared} {env : Env} {h₀ : Heap} {m : Str → Option Value} {news : List (Addr × Obj)}
noncomputable abbrev rit (x left : Int) : Obj := { cls := .type "range_iterator", data := .fields #[rawInt x, rawInt left, rawInt 1] }
theorem for_range {R : Result → Shared → Prop} {target : Expr} {body : List Stmt} {l : Addr} {n : Nat} {a b : Int} {t u v : Tok} (J : Nat → (Str → Option Value) → List (Addr × Obj) → Prop)
    (hh : A.handled = none) (hgo : ∀ (I : Addr) (v : Value) (s' : Shared) (Q' : Unit → Shared → Prop) (E' : Value → Shared → Prop), Q' () s' → wpAny (model prog w) A (letOwnedTupleGo target (.ref I) v) Q' E' s') (hr : IsRange s.heap l a b 1 t u v) (hsm : Builtin.Range.small a b 1 = true) (hn : Builtin.Range.rangeSize a b 1 = ((n : Nat) : Int))
    (F : Fr h₀ env.locals s.heap m) (N : News h₀ env.locals s.heap news) (h0 : J 0 m news)
    (turn : ∀ (i : Nat) (u9 : Tok) m₁ news₁ I oI h tk, i < n → J i m₁ news₁ → Fr h₀ env.locals h m₁ → News h₀ env.locals h ((I, oI) :: news₁) → (∀ p ∈ news₁, p.1 ≠ I) →
      wpAny (model prog w) A (assign target env (.int (a + (i : Int)) u9)) (fun _ s₂ => wpAny (model prog w) A (execs body env) (TurnIs h₀ env.locals s I oI (J (i + 1)) R) (notedBy (model prog w) A env fun e s' => R (.error e) s') s₂) (notedBy (model prog w) A env fun e s' => R (.error e) s') { s with heap := h, toks := tk })
    (done : ∀ h tk m₁ news₁, Fr h₀ env.locals h m₁ → News h₀ env.locals h news₁ → J n m₁ news₁ → R (.ok .next) { s with heap := h, toks := tk }) :
    wpAny (model prog w) A (pyIter (.ref l)) (fun it s₂ => codeAny (model prog w) A (.forLoop target it body [] env) R s₂) E s := by
  refine wpAny_pyIter_range hr hsm ?_
  have W := LCg.range_walks (prog := prog) (w := w) (I := s.heap.objs.size) hh a n
  generalize hI : s.heap.objs.size = I at *
  have hL : env.locals ≠ I := by rw [← hI]; exact Nat.ne_of_lt F.ns.lt
  have hI0 : h₀.get? I = none := by
    cases e : h₀.get? I with
    | none => rfl
    | some o => have := Heap.lt_size (F.keep I o e); rw [hI] at this; exact absurd this (Nat.lt_irrefl _)
  have offN : ∀ p ∈ news, p.1 ≠ I := fun p hp => by rw [← hI]; exact Nat.ne_of_lt (Heap.lt_size (N p hp).1)
  rw [hn]
  have pI : (s.heap.push (rit a (n : Int))).get? I = some (rit a (n : Int)) := by rw [← hI]; exact Heap.get?_push_size _ rfl
  refine codeAny_forLoop_any (fun q s' => ∃ i h tk m₁ news₁ oI, q = n + 1 - i ∧ i ≤ n ∧ s' = { s with heap := h, toks := tk } ∧ Fr h₀ env.locals h m₁ ∧ News h₀ env.locals h ((I, oI) :: news₁) ∧ (∀ p ∈ news₁, p.1 ≠ I) ∧ J i m₁ news₁ ∧ oI = rit (a + (i : Nat) * 1) ((n : Int) - (i : Nat))) ?_ (n + 1)
    ⟨0, _, s.toks, m, news, rit a (n : Int), rfl, Nat.zero_le _, rfl, F.push _, ?_, offN, h0, by simp⟩
  · rintro q s' ⟨i, h, tk, m₁, news₁, oI, rfl, hi, rfl, F₁, N₁, off, hJ, rfl⟩
    have N₁' : News h₀ env.locals h news₁ := fun p hp => N₁ p (List.mem_cons_of_mem _ hp)
    have hit : IsRangeIter h I (a + (i : Nat) * 1) ((n : Int) - (i : Nat)) 1 := (N₁ _ List.mem_cons_self).1
    by_cases hlt : i < n
    · refine W.item i { s with heap := h, toks := tk } _ _ hlt hit fun v h' tk' hv hst hk => ?_
      obtain ⟨u9, rfl⟩ := hv
      have eI' : h'.get? I = some (rit (a + ((i + 1 : Nat) : Int) * 1) ((n : Int) - ((i + 1 : Nat) : Int))) := hst
      have F₂ : Fr h₀ env.locals h' m₁ := LCg.fr_but F₁ hk hL hI0
      have N₂ : News h₀ env.locals h' ((I, rit (a + ((i + 1 : Nat) : Int) * 1) ((n : Int) - ((i + 1 : Nat) : Int))) :: news₁) := fun p hp => by
        rcases List.mem_cons.mp hp with rfl | hp
        · exact ⟨eI', Ne.symm hL, hI0⟩
        · exact LCg.news_but N₁' hk off p hp
      dsimp only
      refine hgo I _ _ _ _ ?_
      refine wpAny_mono (turn i u9 m₁ news₁ I _ h' tk' hlt hJ F₂ N₂ off) (fun _ s₂ h₂ => wpAny_mono h₂ (fun f s₃ h₃ => ?_) fun _ _ e => e) fun _ _ e => e
      have fin : (∃ h' tk' m' news', s₃ = { s with heap := h', toks := tk' } ∧ Fr h₀ env.locals h' m' ∧ News h₀ env.locals h' ((I, rit (a + ((i + 1 : Nat) : Int) * 1) ((n : Int) - ((i + 1 : Nat) : Int))) :: news') ∧ (∀ p ∈ news', p.1 ≠ I) ∧ J (i + 1) m' news') →
          ∃ q', q' < n + 1 - i ∧ ∃ i h tk m₁ news₁ oI, q' = n + 1 - i ∧ i ≤ n ∧ s₃ = { s with heap := h, toks := tk } ∧ Fr h₀ env.locals h m₁ ∧ News h₀ env.locals h ((I, oI) :: news₁) ∧ (∀ p ∈ news₁, p.1 ≠ I) ∧ J i m₁ news₁ ∧ oI = rit (a + (i : Nat) * 1) ((n : Int) - (i : Nat)) := by
        rintro ⟨h₅, tk₅, m₅, news₅, rfl, F₅, N₅, off₅, J₅⟩
        exact ⟨n + 1 - (i + 1), by omega, i + 1, h₅, tk₅, m₅, news₅, _, rfl, hlt, rfl, F₅, N₅, off₅, J₅, rfl⟩
      cases f with
      | next => exact fin h₃
      | cont => exact fin h₃
      | brk => exact h₃
      | ret v => exact h₃
    · obtain rfl : i = n := Nat.le_antisymm hi (Nat.not_lt.mp hlt)
      refine W.done { s with heap := h, toks := tk } _ _ hit fun h' tk' hk => ?_
      dsimp only
      refine wpAny_execs_nil ?_
      exact done h' tk' m₁ news₁ (LCg.fr_but F₁ hk hL hI0) (LCg.news_but N₁' hk off) hJ
  · intro p hp
    rcases List.mem_cons.mp hp with rfl | hp
    · exact ⟨pI, Ne.symm hL, hI0⟩
    · exact ⟨Heap.get?_push_of_some _ (N p hp).1, (N p hp).2⟩
end

theorem off_P8 : True := by
  w_top off
  exact True.intro
/-! ## addresses that change, apart from each other and from the rest -/
def Sep (ms rest : List Addr) : Prop := ms.Nodup ∧ ∀ a ∈ ms, a ∉ rest
theorem Sep.new {ms rest : List Addr} {a : Addr} (h : Sep ms rest) (ha : ∀ b ∈ ms ++ rest, @LT.lt Nat _ b a) : Sep (a :: ms) rest := by
  refine ⟨List.nodup_cons.mpr ⟨fun hm => Nat.lt_irrefl _ (ha a (List.mem_append_left _ hm)), h.1⟩, fun b hb hr => ?_⟩
  rcases List.mem_cons.mp hb with rfl | hb
  · exact Nat.lt_irrefl _ (ha b (List.mem_append_right _ hr))
  · exact h.2 b hb hr
theorem Sep.rest {ms rest own : List Addr} (h : Sep ms rest) (ho : ∀ b ∈ ms, ∀ a ∈ own, @LT.lt Nat _ b a) : Sep ms (own ++ rest) := by
  refine ⟨h.1, fun b hb hr => ?_⟩
  rcases List.mem_append.mp hr with hr | hr
  · exact Nat.lt_irrefl _ (ho b hb b hr)
  · exact h.2 b hb hr
theorem Sep.perm {ms ms' rest : List Addr} (h : Sep ms rest) (e : ms.Perm ms') : Sep ms' rest := ⟨e.nodup_iff.mp h.1, fun a ha => h.2 a (e.mem_iff.mpr ha)⟩
theorem Sep.sub {ms ms' rest : List Addr} (h : Sep ms rest) (e : ms'.Sublist ms) : Sep ms' rest := ⟨e.nodup h.1, fun a ha => h.2 a (e.subset ha)⟩
theorem Sep.cons {ms rest : List Addr} {a : Addr} (h : Sep ms rest) (h1 : a ∉ ms) (h2 : a ∉ rest) : Sep (a :: ms) rest :=
  ⟨List.nodup_cons.mpr ⟨h1, h.1⟩, fun b hb => by rcases List.mem_cons.mp hb with rfl | hb; exact h2; exact h.2 b hb⟩
theorem Sep.up {ms : List Addr} {rest own news : List (Addr × Obj)} (S : Sep ms (rest.map (·.1))) (hms : ∀ b ∈ ms, ∃ p ∈ news, p.1 = b) (hl : ∀ p ∈ news, ∀ q ∈ own, @LT.lt Nat _ p.1 q.1) : Sep ms ((own ++ rest).map (·.1)) := by
  rw [List.map_append]
  refine S.rest fun b hb a ha => ?_
  obtain ⟨p, hp, rfl⟩ := hms b hb
  obtain ⟨q, hq, rfl⟩ := List.mem_map.mp ha
  exact hl p hp q hq
theorem Sep.off {ms rest : List Addr} {a : Addr} {l : List (Addr × Obj)} (S : Sep (a :: ms) rest) (hl : ∀ b ∈ l.map (·.1), b ∈ ms ∨ b ∈ rest) : ∀ p ∈ l, p.1 ≠ a := by
  rintro p hp rfl
  rcases hl p.1 (List.mem_map_of_mem hp) with h | h
  · exact (List.nodup_cons.mp S.1).1 h
  · exact S.2 _ List.mem_cons_self h
/-- one key of the table, as the law's own lists have it -/
structure Ent where
  tg : Tag
  kv : Value
  mA : Addr
  pr : Addr
  v : Value
  n : Nat
noncomputable def Ent.x (e : Ent) : List Scal × Addr × Value := (e.tg.key, e.mA, .ref e.pr)
noncomputable def Ent.o (e : Ent) : Addr × Obj := (e.pr, lstO [e.kv, e.v] e.n)
theorem ent_fst (es : List Ent) : (es.map Ent.o).map (·.1) = es.map (·.pr) := by rw [List.map_map]; rfl
theorem dig_inj : ∀ {n m : Nat}, n < 3 → m < 3 → dig n = dig m → n = m
  | 0, 0, _, _, _ => rfl
  | 1, 1, _, _, _ => rfl
  | 2, 2, _, _, _ => rfl
  | 0, 1, _, _, h => absurd h (by decide)
  | 0, 2, _, _, h => absurd h (by decide)
  | 1, 0, _, _, h => absurd h (by decide)
  | 1, 2, _, _, h => absurd h (by decide)
  | 2, 0, _, _, h => absurd h (by decide)
  | 2, 1, _, _, h => absurd h (by decide)
  | n + 3, _, h, _, _ => absurd h (by omega)
  | _, n + 3, _, h, _ => absurd h (by omega)
theorem xyz_inj : ∀ {n m : Nat}, n < 3 → m < 3 → xyz n = xyz m → n = m
  | 0, 0, _, _, _ => rfl
  | 1, 1, _, _, _ => rfl
  | 2, 2, _, _, _ => rfl
  | 0, 1, _, _, h => absurd h (by decide)
  | 0, 2, _, _, h => absurd h (by decide)
  | 1, 0, _, _, h => absurd h (by decide)
  | 1, 2, _, _, h => absurd h (by decide)
  | 2, 0, _, _, h => absurd h (by decide)
  | 2, 1, _, _, h => absurd h (by decide)
  | n + 3, _, h, _, _ => absurd h (by omega)
  | _, n + 3, _, h, _ => absurd h (by omega)
theorem Tag.key_inj {a b : Tag} (ha : a.ok) (hb : b.ok) (h : a.key = b.key) : a = b := by
  have e1 : Str.ofString "INTEGER" ≠ Str.ofString "STRING" := by decide
  have e2 : Str.ofString "INTEGER" ≠ Str.ofString "NAME" := by decide
  have e3 : Str.ofString "STRING" ≠ Str.ofString "NAME" := by decide
  have e4 : Str.ofString "var" ≠ Str.ofString "item" := by decide
  cases a <;> cases b <;> simp only [Tag.key, List.cons.injEq, Scal.s.injEq, Scal.i.injEq, and_true, true_and] at h
  · rw [Int.ofNat_inj.mp h]
  all_goals first
    | exact absurd h.1 e1 | exact absurd h.1 e1.symm | exact absurd h.1 e2 | exact absurd h.1 e2.symm | exact absurd h.1 e3 | exact absurd h.1 e3.symm | exact absurd h.1 e4 | exact absurd h.1 e4.symm
    | (rw [dig_inj ha hb h]) | (rw [xyz_inj ha hb h]) | (rw [Int.ofNat_inj.mp h]) | exact absurd h.1 (by decide) | skip
theorem Tag.tup_inj {a b : Tag} (h : a.tup = b.tup) : a = b := by
  cases a <;> cases b <;> simp only [Tag.tup, List.cons.injEq, Scal.s.injEq, Scal.i.injEq, and_true, true_and] at h
  all_goals first | (rw [Int.ofNat_inj.mp h]) | exact absurd h.1 (by decide)
/-- what the law's main loop holds on the part of the ledger that does not change: the table -/
structure CoreJ (w : World) (tA aA eD pD rL DS : Addr) (ws : List Value) (es : List Ent) (ys : List (List Scal × Addr × Value)) (rest : List (Addr × Obj)) : Prop where
  hT : TabD w rest tA 5 eD pD rL
  hA : ArrD w rest aA 6
  hS : ∃ n, (DS, lstO ws n) ∈ rest
  D1 : DicM w rest eD (es.map Ent.x)
  D2 : DicM w rest pD ys
  yl : ys.length = es.length
  ya : ∀ (j : Nat) (e : Ent), es[j]? = some e → ∃ u : Tok, ys[j]? = some (e.tg.key, e.mA, .int (j : Int) u)
  kv : ∀ e ∈ es, KeyV w rest tA aA e.kv e.tg
  ok : ∀ e ∈ es, e.tg.ok
  nd : (es.map (·.tg)).Nodup
theorem CoreJ.mono {w : World} {tA aA eD pD rL DS : Addr} {ws : List Value} {es : List Ent} {ys : List (List Scal × Addr × Value)} {rest rest' : List (Addr × Obj)} (J : CoreJ w tA aA eD pD rL DS ws es ys rest) (hs : ∀ p ∈ rest, p ∈ rest') : CoreJ w tA aA eD pD rL DS ws es ys rest' :=
  ⟨J.hT.mono hs, J.hA.mono hs, let ⟨n, h⟩ := J.hS; ⟨n, hs _ h⟩, J.D1.mono hs, J.D2.mono hs, J.yl, J.ya, fun e he => (J.kv e he).mono hs, J.ok, J.nd⟩
/-- and the law's own lists -/
structure ListJ (w : World) (KL TL : Addr) (es : List Ent) (tvs : List Value) (rest : List (Addr × Obj)) : Prop where
  hK : ∃ n, (KL, lstO (es.map (·.kv)) n) ∈ rest
  hTL : ∃ n, (TL, lstO tvs n) ∈ rest
  tags : TagsV w rest (es.map (·.tg.tup)) tvs
theorem ListJ.mono {w : World} {KL TL : Addr} {es : List Ent} {tvs : List Value} {rest rest' : List (Addr × Obj)} (J : ListJ w KL TL es tvs rest) (hs : ∀ p ∈ rest, p ∈ rest') : ListJ w KL TL es tvs rest' :=
  ⟨let ⟨n, h⟩ := J.hK; ⟨n, hs _ h⟩, let ⟨n, h⟩ := J.hTL; ⟨n, hs _ h⟩, J.tags.mono hs⟩
def MadeJ (w : World) (tA : Addr) (c : Nat) (mvs : List Value) (rest : List (Addr × Obj)) : Prop :=
  ∀ (j : Nat) (v : Value), mvs[j]? = some v → ∃ (mt nm : Addr) (n4 : Nat) (u5 u6 : Tok) (sp : Nat), v = Value.ref mt ∧ (mt, tupO [.ref nm, .int (sp : Int) u5] n4) ∈ rest ∧ RefD w rest nm (Str.ofString "item") (.ref tA) (.int (sp : Int) u6) ∧ sp < c
theorem MadeJ.mono {w : World} {tA : Addr} {c c' : Nat} {mvs : List Value} {rest rest' : List (Addr × Obj)} (M : MadeJ w tA c mvs rest) (hs : ∀ p ∈ rest, p ∈ rest') (hc : c ≤ c') : MadeJ w tA c' mvs rest' := fun j v h =>
  let ⟨mt, nm, n4, u5, u6, sp, a, b, c, d⟩ := M j v h; ⟨mt, nm, n4, u5, u6, sp, a, hs _ b, c.mono hs, Nat.lt_of_lt_of_le d hc⟩
noncomputable abbrev lawM (pn eD pD rL : Addr) (mid : List (Addr × Obj)) (es : List Ent) : List Addr := pn :: eD :: pD :: rL :: (mid.map (·.1) ++ es.map (·.pr))
/-- the whole ledger of the main loop -/
noncomputable abbrev lawL (w : World) (pn eD pD rL DS : Addr) (p : Int) (u : Tok) (np e1 e2 nr : Nat) (mid : List (Addr × Obj)) (es : List Ent) (ys : List (List Scal × Addr × Value)) (rest : List (Addr × Obj)) : List (Addr × Obj) :=
  (pn, lstO [.int p u, .ref DS] np) :: (eD, dictOf (ents w (es.map Ent.x)) e1) :: (pD, dictOf (ents w ys) e2) :: (rL, lstO (es.map fun e => Value.ref e.pr) nr) :: (mid ++ (es.map Ent.o ++ rest))
theorem lawM_in {pn eD pD rL : Addr} {o1 o2 o3 o4 : Obj} {mid rest : List (Addr × Obj)} {es : List Ent} : ∀ b ∈ lawM pn eD pD rL mid es, ∃ p ∈ (pn, o1) :: (eD, o2) :: (pD, o3) :: (rL, o4) :: (mid ++ (es.map Ent.o ++ rest)), p.1 = b := by
  intro b hb
  simp only [lawM, List.mem_cons, List.mem_append, List.mem_map] at hb
  rcases hb with rfl | rfl | rfl | rfl | ⟨p, hp, rfl⟩ | ⟨e, he, rfl⟩
  · exact ⟨_, .head _, rfl⟩
  · exact ⟨_, .tail _ (.head _), rfl⟩
  · exact ⟨_, .tail _ (.tail _ (.head _)), rfl⟩
  · exact ⟨_, .tail _ (.tail _ (.tail _ (.head _))), rfl⟩
  · exact ⟨p, .tail _ (.tail _ (.tail _ (.tail _ (List.mem_append_left _ hp)))), rfl⟩
  · exact ⟨e.o, .tail _ (.tail _ (.tail _ (.tail _ (List.mem_append_right _ (List.mem_append_left _ (List.mem_map_of_mem he)))))), rfl⟩
theorem law_off {pn eD pD rL a : Addr} {mid rest : List (Addr × Obj)} {es : List Ent} (S : Sep (lawM pn eD pD rL mid es) (rest.map (·.1))) (ha : a ∈ pn :: eD :: pD :: rL :: mid.map (·.1)) : ∀ p ∈ es.map Ent.o ++ rest, p.1 ≠ a := by
  rintro p hp rfl
  have e : lawM pn eD pD rL mid es = (pn :: eD :: pD :: rL :: mid.map (·.1)) ++ es.map (·.pr) := by simp [lawM]
  rw [e] at S
  rcases List.mem_append.mp hp with hp | hp
  · have h1 := List.nodup_append.mp S.1
    refine h1.2.2 _ ha p.1 ?_ rfl
    rw [← ent_fst]; exact List.mem_map_of_mem hp
  · exact S.2 p.1 (List.mem_append_left _ ha) (List.mem_map_of_mem hp)
/-- what is made on top goes to the rest -/
theorem law_push {h₀ h : Heap} {L pn eD pD rL DS : Addr} {w : World} {p : Int} {u : Tok} {np e1 e2 nr : Nat} {mid rest own : List (Addr × Obj)} {es : List Ent} {ys : List (List Scal × Addr × Value)} (N : News h₀ L h (own ++ lawL w pn eD pD rL DS p u np e1 e2 nr mid es ys rest)) (S : Sep (lawM pn eD pD rL mid es) (rest.map (·.1)))
    (hl : ∀ q ∈ own, AllLt q.1 (lawL w pn eD pD rL DS p u np e1 e2 nr mid es ys rest)) : News h₀ L h (lawL w pn eD pD rL DS p u np e1 e2 nr mid es ys (own ++ rest)) ∧ Sep (lawM pn eD pD rL mid es) ((own ++ rest).map (·.1)) := by
  refine ⟨News.sub N ?_, S.up lawM_in fun p hp q hq => of_allLt (hl q hq) p hp⟩
  intro p hp
  simp only [lawL, List.mem_cons, List.mem_append] at hp ⊢
  grind
theorem law_push1 {h₀ h : Heap} {L pn eD pD rL DS x : Addr} {o : Obj} {w : World} {p : Int} {u : Tok} {np e1 e2 nr : Nat} {mid rest : List (Addr × Obj)} {es : List Ent} {ys : List (List Scal × Addr × Value)} (N : News h₀ L h ((x, o) :: lawL w pn eD pD rL DS p u np e1 e2 nr mid es ys rest)) (S : Sep (lawM pn eD pD rL mid es) (rest.map (·.1)))
    (hl : AllLt x (lawL w pn eD pD rL DS p u np e1 e2 nr mid es ys rest)) : News h₀ L h (lawL w pn eD pD rL DS p u np e1 e2 nr mid es ys ((x, o) :: rest)) ∧ Sep (lawM pn eD pD rL mid es) (((x, o) :: rest).map (·.1)) :=
  law_push (own := [(x, o)]) N S (List.forall_mem_cons.mpr ⟨hl, List.forall_mem_nil _⟩)

theorem off_B20 : True := by
  w_top off
  exact True.intro
theorem sub_key {α : Type} {A B C D : α} {own mid prs rest : List α} : ∀ p ∈ A :: B :: C :: D :: (mid ++ (prs ++ (own ++ rest))), p ∈ A :: (own ++ (B :: C :: D :: (mid ++ (prs ++ rest)))) := by
  intro p hp
  simp only [List.mem_cons, List.mem_append] at hp ⊢
  grind
theorem sub_it {α : Type} {A B C D : α} {r : List α} : ∀ p ∈ B :: C :: D :: A :: r, p ∈ A :: B :: C :: D :: r := by
  intro p hp
  simp only [List.mem_cons] at hp ⊢
  grind
theorem sub_it2 {α : Type} {A B C D : α} {own mid prs rest : List α} : ∀ p ∈ A :: B :: C :: D :: (mid ++ (prs ++ (own ++ rest))), p ∈ B :: C :: D :: (own ++ A :: (mid ++ (prs ++ rest))) := by
  intro p hp
  simp only [List.mem_cons, List.mem_append] at hp ⊢
  grind
theorem sub_it3 {α : Type} {A B C D E : α} {own own' mid prs rest : List α} (h : E ∈ own) (h2 : ∀ p ∈ own', p ∈ own) : ∀ p ∈ A :: B :: C :: D :: (mid ++ ((prs ++ [E]) ++ (own' ++ rest))), p ∈ B :: C :: D :: (own ++ A :: (mid ++ (prs ++ rest))) := by
  intro p hp
  simp only [List.mem_cons, List.mem_append, List.not_mem_nil, or_false] at hp ⊢
  rcases hp with h | h | h | h | h | (h | rfl) | h | h
  · simp [h]
  · simp [h]
  · simp [h]
  · simp [h]
  · simp [h]
  · simp [h]
  · simp [*]
  · simp [h2 _ h]
  · simp [h]
theorem sub_set1 {α : Type} {A B C D E : α} {mid l1 l2 rest : List α} : ∀ p ∈ E :: A :: B :: C :: D :: (mid ++ ((l1 ++ l2) ++ rest)), p ∈ A :: B :: C :: D :: (mid ++ ((l1 ++ E :: l2) ++ rest)) := by
  intro p hp
  simp only [List.mem_cons, List.mem_append] at hp ⊢
  grind
theorem sub_set2 {α : Type} {A B C D E : α} {mid l1 l2 rest : List α} : ∀ p ∈ A :: B :: C :: D :: (mid ++ ((l1 ++ E :: l2) ++ rest)), p ∈ E :: A :: B :: C :: D :: (mid ++ ((l1 ++ l2) ++ rest)) := by
  intro p hp
  simp only [List.mem_cons, List.mem_append] at hp ⊢
  grind
theorem split_get {α : Type} {l : List α} {j : Nat} {e : α} (h : l[j]? = some e) : ∃ l1 l2, l = l1 ++ e :: l2 ∧ l1.length = j := by
  obtain ⟨hj, e1⟩ := List.getElem?_eq_some_iff.mp h
  refine ⟨l.take j, l.drop (j + 1), ?_, by rw [List.length_take]; omega⟩
  rw [← e1, List.getElem_cons_drop, List.take_append_drop]
theorem own_ne {h₀ h : Heap} {L a b : Addr} {l : List (Addr × Obj)} {o o' : Obj} (N : News h₀ L h l) (h1 : (a, o) ∈ l) (h2 : (b, o') ∈ l) (ho : o ≠ o') : a ≠ b := by
  rintro rfl
  exact ho (Option.some.inj ((N.get h1).symm.trans (N.get h2)))
theorem PutR.inv {w : World} {key : List Scal} {kv : Value} {news own : List (Addr × Obj)} {xs ys xs' ys' : List (List Scal × Addr × Value)} {vs vs' : List Value} {m2 : Addr} {i : Int} {u : Tok} (h : PutR w key kv news xs ys vs own xs' ys' vs' m2 i u) (hk : atKey ys key = none) :
    ∃ mk pr u3 n2, (pr, lstO [kv, .str (Str.ofString "") u3] n2) ∈ own ∧ MarkD w own key mk ∧ (∀ p ∈ news, p.1 < pr) ∧ (∀ p ∈ news, p.1 < mk) ∧ xs' = xs ++ [(key, mk, .ref pr)] ∧ ys' = ys ++ [(key, mk, .int (vs.length : Int) u)] ∧ vs' = vs ++ [.ref pr] ∧ m2 = mk ∧ i = (vs.length : Int) := by
  cases h with
  | old q => rw [hk] at q; cases q
  | new h1 h2 h3 h4 h5 h6 => exact ⟨_, _, _, _, h3, h4, h5, h6, rfl, rfl, rfl, rfl, rfl⟩
theorem atKey_get {xs : List (List Scal × Addr × Value)} (hn : (xs.map (·.1)).Nodup) {i : Nat} {k : List Scal} {a : Addr} {v : Value} (h : xs[i]? = some (k, a, v)) : atKey xs k = some (a, v) := atKey_of_get hn h
section
variable {w : World} {dp un : Nat} {gd : Option (List Code)} {cn : Str} {nm : List (Str × NameKind)} {ig ic : Bool} {mo : List (Str × Const)} {a : Addr} {ccd : Value} {cl : List (Str × Addr)} {outer : List Env} {A₀ : Around} {base h₀ : Heap} {L : Addr} {m : Str → Option Value} {news : List (Addr × Obj)} {s : Shared}
    {loose : List Str} {mean : ExcName → Option Value} {mg mb : Str → Option Value} {Q E : Value → Shared → Prop}
    (B : Below A₀ base outer h₀) (F : Fr h₀ L s.heap m) (X : (pre.heap_1 w.params).In h₀) (N : News h₀ L s.heap news) (T : Top pre.view_1 loose mean mg mb h₀) (hdp : dp < 840) (hun : un < 8600)
include B F X N T hdp hun

theorem law_key {pn eD pD rL DS tA aA ML : Addr} {p : Int} {u : Tok} {np e1 e2 nr nM : Nat} {ws mvs : List Value} {ns : List Int} {mid rest : List (Addr × Obj)} {es : List Ent} {ys : List (List Scal × Addr × Value)}
    (hn : news = lawL w pn eD pD rL DS p u np e1 e2 nr mid es ys rest) (J : CoreJ w tA aA eD pD rL DS ws es ys rest) (hI : IntsAre ws ns) (hlen : ws.length ≤ 1000) (S : Sep (lawM pn eD pD rL mid es) (rest.map (·.1))) (hp0 : 0 ≤ p) (hp1 : p < 800)
    (hML : (ML, lstO mvs nM) ∈ mid) (M : MadeJ w tA es.length mvs rest) (hml : mvs.length ≤ 1000)
    (k : ∀ h' tk' tp own tg kv ta items n4 n5 u2 n2, Fr h₀ L h' m → News h₀ L h' (lawL w pn eD pD rL DS (p + 2) u2 n2 e1 e2 nr mid es ys (own ++ rest)) → Sep (lawM pn eD pD rL mid es) ((own ++ rest).map (·.1)) → (tp, tupO [kv, .ref ta] n4) ∈ own → (ta, tupO items n5) ∈ own → ItemsAre (scalKind (RowW.prog (OpenRow.toRowW (OpenLaw.row PySem.Challenge.rw_rh0225_01))) w) (Tag.tup tg) items → KeyV w (own ++ rest) tA aA kv tg → Tag.ok tg → Q (.ref tp) { s with heap := h', toks := tk' }) :
    wpAny (model (RowW.prog (OpenRow.toRowW (OpenLaw.row PySem.Challenge.rw_rh0225_01))) w) (ktrTop dp un gd cn ⟨.function, nm, ig, ic, mo⟩ L a ccd cl outer) (call (.ref 335) [.ref pn, .ref ML, .ref aA]) Q E s := by
  subst hn
  obtain ⟨nS, hS⟩ := J.hS
  have hs : ∀ q ∈ rest, q ∈ (eD, dictOf (ents w (es.map Ent.x)) e1) :: (pD, dictOf (ents w ys) e2) :: (rL, lstO (es.map fun e => Value.ref e.pr) nr) :: (mid ++ (es.map Ent.o ++ rest)) := fun q hq => .tail _ (.tail _ (.tail _ (List.mem_append_right _ (List.mem_append_right _ hq))))
  refine call_key B F X N T (by omega) (by omega) rfl (Sep.off S fun b hb => ?_) (hs _ hS) hI hlen hp0 hp1 (.tail _ (.tail _ (.tail _ (List.mem_append_left _ hML)))) hml (rest0 := rest) (t := tA) (fun j v hv => ?_) (J.hA.mono hs) fun h' tk' tp own tg kv ta items n4 n5 u2 n2 F' N' m1 m2 hI' hK hok hl => ?_
  · simp only [List.map_cons, List.map_append, ent_fst, List.mem_cons, List.mem_append] at hb ⊢
    grind
  · obtain ⟨mt, nm, n4, u5, u6, sp, q1, q2, q3, _⟩ := M j v hv
    exact ⟨mt, nm, n4, u5, u6, sp, q1, hs _ q2, q3⟩
  · exact k h' tk' tp own tg kv ta items n4 n5 u2 n2 F' (News.sub N' sub_key) (S.up lawM_in hl) m1 m2 hI' hK hok

theorem law_cut {pn eD pD rL DS tA aA : Addr} {p mny : Int} {u u' : Tok} {np e1 e2 nr : Nat} {ws : List Value} {ns : List Int} {mid rest : List (Addr × Obj)} {es : List Ent} {ys : List (List Scal × Addr × Value)}
    (hn : news = lawL w pn eD pD rL DS p u np e1 e2 nr mid es ys rest) (J : CoreJ w tA aA eD pD rL DS ws es ys rest) (hI : IntsAre ws ns) (hlen : ws.length ≤ 1000) (S : Sep (lawM pn eD pD rL mid es) (rest.map (·.1))) (hp0 : 0 ≤ p) (hp1 : p < 800)
    (hm : mny = 7 ∨ mny = 3 ∨ mny = 9)
    (k : ∀ h' tk' (r : Nat) t u2 n2, Fr h₀ L h' m → News h₀ L h' (lawL w pn eD pD rL DS (p + 1) u2 n2 e1 e2 nr mid es ys rest) → (r : Int) < mny → Q (.int (r : Int) t) { s with heap := h', toks := tk' }) :
    wpAny (model (RowW.prog (OpenRow.toRowW (OpenLaw.row PySem.Challenge.rw_rh0225_01))) w) (ktrTop dp un gd cn ⟨.function, nm, ig, ic, mo⟩ L a ccd cl outer) (call (.ref 328) [.ref pn, .int mny u']) Q E s := by
  subst hn
  obtain ⟨nS, hS⟩ := J.hS
  refine call_cut B F X N T (by omega) (by omega) rfl (Sep.off S fun b hb => ?_) (.tail _ (.tail _ (.tail _ (List.mem_append_right _ (List.mem_append_right _ hS))))) hI hlen hp0 (by omega) hm fun h' tk' r t u2 n2 F' N' hr => k h' tk' r t u2 n2 F' N' hr
  simp only [List.map_cons, List.map_append, ent_fst, List.mem_cons, List.mem_append] at hb ⊢
  grind

theorem law_item {pn eD pD rL DS tA aA kl : Addr} {p : Int} {u uw : Tok} {np e1 e2 nr nk : Nat} {ws : List Value} {mid rest : List (Addr × Obj)} {es : List Ent} {ys : List (List Scal × Addr × Value)} {kv : Value} {tg : Tag}
    (hn : news = lawL w pn eD pD rL DS p u np e1 e2 nr mid es ys rest) (J : CoreJ w tA aA eD pD rL DS ws es ys rest) (S : Sep (lawM pn eD pD rL mid es) (rest.map (·.1)))
    (hkl : (kl, lstO [kv] nk) ∈ rest) (hK : KeyV w rest tA aA kv tg) (hok : tg.ok) (hz : es.length ≤ 900)
    (kold : ∀ h' tk' x own (j : Nat) (e : Ent) u' e1' e2' nr', Fr h₀ L h' m → News h₀ L h' (lawL w pn eD pD rL DS p u np e1' e2' nr' mid es ys (own ++ rest)) → Sep (lawM pn eD pD rL mid es) ((own ++ rest).map (·.1)) → es[j]? = some e → e.tg = tg → RefD w own x (Str.ofString "item") (.ref tA) (.int (j : Int) u') → Q (.ref x) { s with heap := h', toks := tk' })
    (knew : ∀ h' tk' x own mA pr u' u3 n2 e1' e2' nr' ys', Fr h₀ L h' m → News h₀ L h' (lawL w pn eD pD rL DS p u np e1' e2' nr' mid (es ++ [⟨tg, kv, mA, pr, .str (Str.ofString "") u3, n2⟩]) ys' (own ++ rest)) → Sep (lawM pn eD pD rL mid (es ++ [⟨tg, kv, mA, pr, .str (Str.ofString "") u3, n2⟩])) ((own ++ rest).map (·.1)) →
      CoreJ w tA aA eD pD rL DS ws (es ++ [⟨tg, kv, mA, pr, .str (Str.ofString "") u3, n2⟩]) ys' (own ++ rest) → tg ∉ es.map (·.tg) → RefD w own x (Str.ofString "item") (.ref tA) (.int ((es.length : Nat) : Int) u') → Q (.ref x) { s with heap := h', toks := tk' }) :
    wpAny (model (RowW.prog (OpenRow.toRowW (OpenLaw.row PySem.Challenge.rw_rh0225_01))) w) (ktrTop dp un gd cn ⟨.function, nm, ig, ic, mo⟩ L a ccd cl outer) (call (.ref 295) [.ref tA, .ref kl, .int 32 uw]) Q E s := by
  subst hn
  have hs : ∀ q ∈ rest, q ∈ (pn, lstO [.int p u, .ref DS] np) :: (mid ++ (es.map Ent.o ++ rest)) := fun q hq => .tail _ (List.mem_append_right _ (List.mem_append_right _ hq))
  have S1 : Sep (eD :: pD :: rL :: pn :: (mid.map (·.1) ++ es.map (·.pr))) (rest.map (·.1)) := S.perm (((List.Perm.swap eD pn _).trans ((List.Perm.swap pD pn _).cons eD)).trans (((List.Perm.swap rL pn _).cons pD).cons eD))
  have S2 : Sep (pD :: eD :: rL :: pn :: (mid.map (·.1) ++ es.map (·.pr))) (rest.map (·.1)) := S1.perm (.swap ..)
  have S3 : Sep (rL :: pD :: eD :: pn :: (mid.map (·.1) ++ es.map (·.pr))) (rest.map (·.1)) := S2.perm (((List.Perm.swap rL eD _).cons pD).trans ((List.Perm.swap rL pD _)))
  have hxl : (es.map Ent.x).length ≤ 1000 := by rw [List.length_map]; omega
  have hyl : ys.length ≤ 1000 := by rw [J.yl]; omega
  have hvl : (es.map fun e => Value.ref e.pr).length ≤ 1000 := by rw [List.length_map]; omega
  have inn : ∀ q ∈ (pn, lstO [.int p u, .ref DS] np) :: (mid ++ (es.map Ent.o ++ rest)), q.1 ∈ pn :: (mid.map (·.1) ++ es.map (·.pr)) ∨ q.1 ∈ rest.map (·.1) := by
    intro q hq
    have hb := List.mem_map_of_mem (f := (·.1)) hq
    simp only [List.map_cons, List.map_append, ent_fst, List.mem_cons, List.mem_append] at hb ⊢
    grind
  have sub0 : ∀ q ∈ (pn, lstO [.int p u, .ref DS] np) :: (eD, dictOf (ents w (es.map Ent.x)) e1) :: (pD, dictOf (ents w ys) e2) :: (rL, lstO (es.map fun e => Value.ref e.pr) nr) :: (mid ++ (es.map Ent.o ++ rest)), q ∈ (eD, dictOf (ents w (es.map Ent.x)) e1) :: (pD, dictOf (ents w ys) e2) :: (rL, lstO (es.map fun e => Value.ref e.pr) nr) :: (pn, lstO [.int p u, .ref DS] np) :: (mid ++ (es.map Ent.o ++ rest)) := by
    intro q hq
    simp only [List.mem_cons] at hq ⊢
    grind
  have o1 : eD ≠ pD := fun e => (List.nodup_cons.mp S1.1).1 (e ▸ List.mem_cons_self)
  have o2 : eD ≠ rL := fun e => (List.nodup_cons.mp S1.1).1 (e ▸ .tail _ (.head _))
  have o3 : pD ≠ rL := fun e => (List.nodup_cons.mp S2.1).1 (e ▸ .tail _ (.head _))
  have offs : ∀ {b : Addr} {c d : Addr}, Sep (b :: c :: d :: pn :: (mid.map (·.1) ++ es.map (·.pr))) (rest.map (·.1)) → ∀ q ∈ (pn, lstO [.int p u, .ref DS] np) :: (mid ++ (es.map Ent.o ++ rest)), q.1 ≠ b := by
    intro b c d S' q hq
    rintro rfl
    rcases inn q hq with h | h
    · exact (List.nodup_cons.mp S'.1).1 (.tail _ (.tail _ h))
    · exact S'.2 _ List.mem_cons_self h
  by_cases hmem : tg ∈ es.map (·.tg)
  · obtain ⟨e, he, rfl⟩ := List.mem_map.mp hmem
    obtain ⟨j, hj, hje⟩ := List.mem_iff_getElem.mp he
    have hj' : es[j]? = some e := by rw [List.getElem?_eq_getElem hj, hje]
    obtain ⟨u9, hy⟩ := J.ya j e hj'
    have k1 : atKey (es.map Ent.x) e.tg.key = some (e.mA, .ref e.pr) := atKey_get J.D1.nodup (i := j) (by rw [List.getElem?_map, hj']; rfl)
    have k2 : atKey ys e.tg.key = some (e.mA, .int (j : Int) u9) := atKey_get J.D2.nodup hy
    refine item_tab B F X (News.sub N sub_it) T (by omega) (by omega) rfl o1 o2 o3 (offs S1) (offs S2) (offs S3) (J.hT.mono hs) (J.hT.mono hs) (J.hA.mono hs) (J.D1.mono hs) (J.D2.mono hs) (.inr ⟨_, _, _, _, k1, k2⟩) (hK.mono hs) (hs _ hkl) hxl hyl hvl ?_
    intro h' tk' x own xs' ys' vs' e1' e2' n' m2 i u' F' N' hP hR hl
    cases hP with
    | new q1 _ _ _ _ _ => rw [k1] at q1; cases q1
    | old q =>
      rw [k2] at q
      cases q
      exact kold h' tk' x own j e u9 e1' e2' n' F' (News.sub N' sub_it2) (S.up lawM_in fun q hq => hl q (sub0 q hq)) hj' rfl hR
  · have hkey : tg.key ∉ (es.map Ent.x).map (·.1) := by
      intro h
      obtain ⟨y, hy, e9⟩ := List.mem_map.mp h
      obtain ⟨e, he, rfl⟩ := List.mem_map.mp hy
      exact hmem (List.mem_map.mpr ⟨e, he, Tag.key_inj (J.ok e he) hok e9⟩)
    have hkey2 : tg.key ∉ ys.map (·.1) := by
      intro h
      obtain ⟨y, hy, e9⟩ := List.mem_map.mp h
      obtain ⟨j, hj, hje⟩ := List.mem_iff_getElem.mp hy
      have hj2 : j < es.length := by rw [← J.yl]; exact hj
      obtain ⟨u9, hy9⟩ := J.ya j _ (List.getElem?_eq_getElem hj2)
      rw [List.getElem?_eq_getElem hj, hje] at hy9
      have e8 := congrArg (·.1) (Option.some.inj hy9)
      exact hmem (List.mem_map.mpr ⟨es[j], List.getElem_mem hj2, Tag.key_inj (J.ok _ (List.getElem_mem hj2)) hok (e8.symm.trans e9)⟩)
    refine item_tab B F X (News.sub N sub_it) T (by omega) (by omega) rfl o1 o2 o3 (offs S1) (offs S2) (offs S3) (J.hT.mono hs) (J.hT.mono hs) (J.hA.mono hs) (J.D1.mono hs) (J.D2.mono hs) (.inl ⟨atKey_out hkey, atKey_out hkey2⟩) (hK.mono hs) (hs _ hkl) hxl hyl hvl ?_
    intro h' tk' x own xs' ys' vs' e1' e2' n' m2 i u' F' N' hP hR hl
    obtain ⟨mk, pr, u3, n2, q3, q4, q5, q6, rfl, rfl, rfl, rfl, rfl⟩ := hP.inv (atKey_out hkey2)
    have hsub : ∀ q ∈ own.filter (fun q => decide (q.1 ≠ pr)), q ∈ own := fun q hq => (List.mem_filter.mp hq).1
    have hin : ∀ q ∈ own, q.1 ≠ pr → q ∈ own.filter (fun q => decide (q.1 ≠ pr)) := fun q hq h => List.mem_filter.mpr ⟨hq, by simpa using h⟩
    have Nown : News h₀ L h' own := News.sub N' fun q hq => .tail _ (.tail _ (.tail _ (List.mem_append_left _ hq)))
    have hs2 : ∀ q ∈ rest, q ∈ own.filter (fun q => decide (q.1 ≠ pr)) ++ rest := fun q hq => List.mem_append_right _ hq
    have hM : MarkD w (own.filter (fun q => decide (q.1 ≠ pr)) ++ rest) tg.key m2 := by
      obtain ⟨its, n9, hm9, hi9⟩ := q4
      exact ⟨its, n9, List.mem_append_left _ (hin _ hm9 (own_ne Nown hm9 q3 (fun e => by have := congrArg Obj.cls e; simp at this))), hi9⟩
    have hR2 : RefD w (own.filter (fun q => decide (q.1 ≠ pr))) x (Str.ofString "item") (.ref tA) (.int ((es.length : Nat) : Int) u') := by
      have el : (es.map fun e => Value.ref e.pr).length = es.length := by simp
      rw [el] at hR
      obtain ⟨d, t1, t2, t3, u1, n9, r1, r2⟩ := hR
      exact ⟨d, t1, t2, t3, u1, n9, hin _ r1 (own_ne Nown r1 q3 (fun e => by have := congrArg Obj.cls e; simp [instObj] at this)), hin _ r2 (own_ne Nown r2 q3 (fun e => by have := congrArg Obj.cls e; simp [dictOf] at this))⟩
    have hEx : (es ++ [(⟨tg, kv, m2, pr, .str (Str.ofString "") u3, n2⟩ : Ent)]).map Ent.x = es.map Ent.x ++ [(tg.key, m2, .ref pr)] := by simp [Ent.x]
    have hEr : (es ++ [(⟨tg, kv, m2, pr, .str (Str.ofString "") u3, n2⟩ : Ent)]).map (fun e => Value.ref e.pr) = (es.map fun e => Value.ref e.pr) ++ [.ref pr] := by simp
    have hEo : (es ++ [(⟨tg, kv, m2, pr, .str (Str.ofString "") u3, n2⟩ : Ent)]).map Ent.o = es.map Ent.o ++ [(pr, lstO [kv, .str (Str.ofString "") u3] n2)] := by simp [Ent.o]
    have hup := S.up lawM_in fun q hq => hl q (sub0 q hq)
    refine knew h' tk' x (own.filter (fun q => decide (q.1 ≠ pr))) m2 pr u' u3 n2 e1' e2' n' (ys ++ [(tg.key, m2, .int ((es.map fun e => Value.ref e.pr).length : Int) u')]) F' ?_ ?_ ⟨J.hT.mono hs2, J.hA.mono hs2, let ⟨n, h⟩ := J.hS; ⟨n, hs2 _ h⟩, ?_, ?_, ?_, ?_, ?_, ?_, ?_⟩ hmem hR2
    · show News h₀ L h' (lawL w pn eD pD rL DS p u np e1' e2' n' mid _ _ _)
      unfold lawL
      rw [hEx, hEr, hEo]
      exact News.sub N' (sub_it3 q3 hsub)
    · have hfr : ∀ b ∈ lawM pn eD pD rL mid es ++ rest.map (·.1), @LT.lt Nat _ b pr := by
        intro b hb
        rcases List.mem_append.mp hb with hb | hb
        · obtain ⟨q, hq, rfl⟩ := lawM_in b hb
          exact q5 q (sub0 q hq)
        · obtain ⟨q, hq, rfl⟩ := List.mem_map.mp hb
          exact q5 q (.tail _ (.tail _ (.tail _ (hs q hq))))
      have e9 : (pr :: lawM pn eD pD rL mid es).Perm (lawM pn eD pD rL mid (es ++ [(⟨tg, kv, m2, pr, .str (Str.ofString "") u3, n2⟩ : Ent)])) := by
        have : lawM pn eD pD rL mid (es ++ [(⟨tg, kv, m2, pr, .str (Str.ofString "") u3, n2⟩ : Ent)]) = lawM pn eD pD rL mid es ++ [pr] := by simp [lawM]
        rw [this]
        exact (List.perm_append_singleton pr _).symm
      refine Sep.perm (Sep.cons ⟨hup.1, fun b hb hr => hup.2 b hb ?_⟩ (fun hm => Nat.lt_irrefl _ (hfr pr (List.mem_append_left _ hm))) ?_) e9
      · rw [List.map_append] at hr ⊢
        rcases List.mem_append.mp hr with hr | hr
        · obtain ⟨q, hq, rfl⟩ := List.mem_map.mp hr
          exact List.mem_append_left _ (List.mem_map_of_mem (hsub q hq))
        · exact List.mem_append_right _ hr
      · intro hr
        rw [List.map_append] at hr
        rcases List.mem_append.mp hr with hr | hr
        · obtain ⟨q, hq, e8⟩ := List.mem_map.mp hr
          have := (List.mem_filter.mp hq).2
          simp at this
          exact this e8
        · exact Nat.lt_irrefl _ (hfr pr (List.mem_append_right _ hr))
    · rw [hEx]; exact (J.D1.mono hs2).snoc hM (atKey_out hkey)
    · exact (J.D2.mono hs2).snoc hM (atKey_out hkey2)
    · simp [J.yl]
    · intro j e he
      by_cases hj : j < es.length
      · rw [List.getElem?_append_left hj] at he
        obtain ⟨u8, h8⟩ := J.ya j e he
        exact ⟨u8, by rw [List.getElem?_append_left (by rw [J.yl]; exact hj)]; exact h8⟩
      · have hj2 : j = es.length := by
          have := (List.getElem?_eq_some_iff.mp he).1
          simp at this
          omega
        subst hj2
        rw [List.getElem?_append_right (Nat.le_refl _), Nat.sub_self] at he
        cases he
        refine ⟨u', ?_⟩
        rw [List.getElem?_append_right (Nat.le_of_eq J.yl), J.yl, Nat.sub_self]
        simp
    · intro e he
      rcases List.mem_append.mp he with he | he
      · exact (J.kv e he).mono hs2
      · rw [List.mem_singleton.mp he]; exact hK.mono hs2
    · intro e he
      rcases List.mem_append.mp he with he | he
      · exact J.ok e he
      · rw [List.mem_singleton.mp he]; exact hok
    · rw [List.map_append, List.nodup_append]
      refine ⟨J.nd, by simp, ?_⟩
      intro y hy z hz
      simp only [List.map_cons, List.map_nil, List.mem_singleton] at hz
      subst hz
      rintro rfl
      exact hmem hy

omit B F X N T hdp hun in
/-- the key's value is put anew -/
noncomputable def Ent.put (e : Ent) (z : Value) (n3 : Nat) : Ent := { e with v := z, n := n3 }
omit B F X N T hdp hun in
theorem set_same {β : Type} {f : Ent → β} {es : List Ent} {j : Nat} {e e' : Ent} (he : es[j]? = some e) (hf : f e' = f e) : (es.set j e').map f = es.map f := by
  obtain ⟨l1, l2, rfl, rfl⟩ := split_get he
  simp [hf]
omit B F X N T hdp hun in
theorem CoreJ.set {tA aA eD pD rL DS : Addr} {ws : List Value} {es : List Ent} {ys : List (List Scal × Addr × Value)} {rest : List (Addr × Obj)} {j : Nat} {e : Ent} {z : Value} {n3 : Nat} (J : CoreJ w tA aA eD pD rL DS ws es ys rest) (he : es[j]? = some e) : CoreJ w tA aA eD pD rL DS ws (es.set j (e.put z n3)) ys rest := by
  have hm : ∀ e' ∈ es.set j (e.put z n3), ∃ e0 ∈ es, e'.tg = e0.tg ∧ e'.kv = e0.kv := by
    intro e' h'
    obtain ⟨l1, l2, rfl, rfl⟩ := split_get he
    simp at h'
    rcases h' with h | rfl | h
    · exact ⟨e', by simp [h], rfl, rfl⟩
    · exact ⟨e, by simp, rfl, rfl⟩
    · exact ⟨e', by simp [h], rfl, rfl⟩
  refine ⟨J.hT, J.hA, J.hS, by rw [set_same (f := Ent.x) (e' := e.put z n3) he rfl]; exact J.D1, J.D2, by rw [List.length_set]; exact J.yl, fun i e1 h1 => ?_, fun e' h' => ?_, fun e' h' => ?_, by rw [set_same (f := fun e => e.tg) (e' := e.put z n3) he rfl]; exact J.nd⟩
  · by_cases hij : j = i
    · subst hij
      have := (List.getElem?_eq_some_iff.mp he).1
      rw [List.getElem?_set_self this] at h1
      cases h1
      exact J.ya j e he
    · rw [List.getElem?_set_ne hij] at h1
      exact J.ya i e1 h1
  · obtain ⟨e0, h0, q1, q2⟩ := hm e' h'
    rw [q1, q2]; exact J.kv e0 h0
  · obtain ⟨e0, h0, q1, q2⟩ := hm e' h'
    rw [q1]; exact J.ok e0 h0
omit B F X N T hdp hun in
theorem ListJ.set {KL TL : Addr} {es : List Ent} {tvs : List Value} {rest : List (Addr × Obj)} {j : Nat} {e : Ent} {z : Value} {n3 : Nat} (J : ListJ w KL TL es tvs rest) (he : es[j]? = some e) : ListJ w KL TL (es.set j (e.put z n3)) tvs rest :=
  ⟨by rw [set_same (f := fun e => e.kv) (e' := e.put z n3) he rfl]; exact J.hK, J.hTL, by rw [set_same (f := fun e => e.tg.tup) (e' := e.put z n3) he rfl]; exact J.tags⟩
theorem law_set {pn eD pD rL DS tA aA x : Addr} {p : Int} {u u' : Tok} {np e1 e2 nr j : Nat} {ws : List Value} {mid rest : List (Addr × Obj)} {es : List Ent} {ys : List (List Scal × Addr × Value)} {e : Ent} {z : Value}
    (hn : news = lawL w pn eD pD rL DS p u np e1 e2 nr mid es ys rest) (J : CoreJ w tA aA eD pD rL DS ws es ys rest) (S : Sep (lawM pn eD pD rL mid es) (rest.map (·.1)))
    (hR : RefD w rest x (Str.ofString "item") (.ref tA) (.int (j : Int) u')) (he : es[j]? = some e) (hz : es.length ≤ 900)
    (k : ∀ h' tk' n3, Fr h₀ L h' m → News h₀ L h' (lawL w pn eD pD rL DS p u np e1 e2 nr mid (es.set j (e.put z n3)) ys rest) → Sep (lawM pn eD pD rL mid (es.set j (e.put z n3))) (rest.map (·.1)) → Q .none { s with heap := h', toks := tk' }) :
    wpAny (model (RowW.prog (OpenRow.toRowW (OpenLaw.row PySem.Challenge.rw_rh0225_01))) w) (ktrTop dp un gd cn ⟨.function, nm, ig, ic, mo⟩ L a ccd cl outer) (call (.ref 309) [.ref x, z]) Q E s := by
  subst hn
  obtain ⟨l1, l2, rfl, rfl⟩ := split_get he
  have eo : (l1 ++ e :: l2).map Ent.o = l1.map Ent.o ++ e.o :: l2.map Ent.o := by simp
  have hj : (l1.length : Int) < 1000 := by simp at hz; omega
  have hs : ∀ q ∈ rest, q ∈ (pn, lstO [.int p u, .ref DS] np) :: (eD, dictOf (ents w ((l1 ++ e :: l2).map Ent.x)) e1) :: (pD, dictOf (ents w ys) e2) :: (rL, lstO ((l1 ++ e :: l2).map fun e => Value.ref e.pr) nr) :: (mid ++ ((l1.map Ent.o ++ l2.map Ent.o) ++ rest)) := fun q hq => .tail _ (.tail _ (.tail _ (.tail _ (List.mem_append_right _ (List.mem_append_right _ hq)))))
  have ep : (pn :: eD :: pD :: rL :: (mid.map (·.1) ++ (l1 ++ e :: l2).map (·.pr))).Perm (e.pr :: pn :: eD :: pD :: rL :: (mid.map (·.1) ++ (l1.map (·.pr) ++ l2.map (·.pr)))) := by
    have e8 : pn :: eD :: pD :: rL :: (mid.map (·.1) ++ (l1 ++ e :: l2).map (·.pr)) = (pn :: eD :: pD :: rL :: mid.map (·.1) ++ l1.map (·.pr)) ++ e.pr :: l2.map (·.pr) := by simp
    rw [e8]
    refine List.perm_middle.trans ?_
    simp
  refine call_sset B F X (News.sub (l' := e.o :: (pn, lstO [.int p u, .ref DS] np) :: (eD, dictOf (ents w ((l1 ++ e :: l2).map Ent.x)) e1) :: (pD, dictOf (ents w ys) e2) :: (rL, lstO ((l1 ++ e :: l2).map fun e => Value.ref e.pr) nr) :: (mid ++ ((l1.map Ent.o ++ l2.map Ent.o) ++ rest))) N ?_) T (by omega) (by omega) rfl (Sep.off (S.perm ep) fun b hb => ?_) (hR.mono hs) (J.hT.mono hs) (.tail _ (.tail _ (.tail _ (.head _)))) ?_ (by omega) hj fun h' tk' n3 F' N' => ?_
  · unfold lawL; rw [eo]; exact sub_set1
  · simp only [List.map_cons, List.map_append, ent_fst, List.mem_cons, List.mem_append] at hb ⊢
    grind
  · rw [Int.toNat_natCast]; simp
  · have q1 : (l1 ++ e :: l2).set l1.length (e.put z n3) = l1 ++ e.put z n3 :: l2 := by simp
    refine k h' tk' n3 F' ?_ ?_
    · unfold lawL
      rw [set_same (f := Ent.x) (e' := e.put z n3) he rfl, set_same (f := fun e => Value.ref e.pr) (e' := e.put z n3) he rfl, q1]
      have eo2 : (l1 ++ e.put z n3 :: l2).map Ent.o = l1.map Ent.o ++ (e.pr, lstO [e.kv, z] n3) :: l2.map Ent.o := by simp [Ent.o, Ent.put]
      rw [eo2]
      exact News.sub N' sub_set2
    · unfold lawM
      rw [set_same (f := fun e => e.pr) (e' := e.put z n3) he rfl]
      exact S
end
theorem snoc_at {l : List Ent} {x : Value} : (l.map (·.v) ++ [x])[((l.length : Nat) : Int).toNat]? = some x := by
  rw [Int.toNat_natCast, List.getElem?_append_right (by simp)]
  simp
theorem set_at {l : List Value} {j : Nat} {x : Value} (h : j < l.length) : (l.set ((j : Nat) : Int).toNat x)[((j : Nat) : Int).toNat]? = some x := by
  rw [Int.toNat_natCast, List.getElem?_set_self h]

local macro_rules | `(tactic| k_all) => `(tactic| ((with_reducible refine' law_off ?S ?m); (case S => with_reducible assumption); (case m => k_mem)))
local macro_rules | `(tactic| walk_at "ntags") => `(tactic| (rotate_left 5; (with_reducible assumption); rotate_right 4; k_asm; (focus k_mem); (exact TagsV.mono (by k_asm) (by ktr_rel)); (exact TagV.mono (by k_asm) (by ktr_rel)); rotate_right; (first | k_units | decide)))
local macro_rules | `(tactic| walk_at "compareOp NotIn ref ref") => `(tactic| (k_here; k_dflt (first | (apply notin_tags_new; walk_at "ntags") | (apply notin_tags_old; walk_at "ntags")); (try k_sweep)))
local macro_rules | `(tactic| walk_at "call builtin:list.index") => `(tactic| walk_at "hold")
local macro_rules | `(tactic| walk_at "call ref") => `(tactic| (k_here; (with_reducible refine isC 302 ?_); k_dflt (apply call_sget; walk_at "bfx"; walk_at "mono"; walk_at "mono"; (focus k_mem); (with_reducible assumption); (focus k_mem); omega; omega); intro h' tk' F' N'; (try k_sweep)))
local macro_rules | `(tactic| walk_at "call ref") => `(tactic| (k_here; with_reducible refine' heldC [309, 198, 205] ?_ ?_; decide))
local macro_rules | `(tactic| walk_at "subscriptTail Name Name ref int") => `(tactic| (k_here; (with_reducible show wpAny _ _ (subscriptTail _ _ _ (Value.int (Nat.cast _) _)) _ _ _); k_dflt (refine' item_S ?N ?m ?x ?a ?b ?_ ?h1; (case N => k_asm); (case m => k_mem); (case x => first | with_reducible assumption | with_reducible exact snoc_at | (with_reducible refine' set_at ?l; (case l => simp only [List.length_map, List.length_append, List.length_cons, List.length_nil]; omega))); (case a => omega); (case b => omega); (case h1 => with_unfolding_all rfl)); (try dsimp only); (try k_sweep)))
local macro_rules | `(tactic| walk_at "setItem ref int int") => `(tactic| walk_at "setItem ref int")
theorem off_B21 : True := by
  w_top off
  exact True.intro
/-! ## the law's statements -/
noncomputable def lawAll : List Stmt × Scope := match PySem.Challenge.pw_rh0225_01.main.body.getLast? with
  | some (.FunctionDef _ _ body _ _ _ scope _ _ _) => (body, scope)
  | _ => ([], ⟨.function, [], false, false, []⟩)
noncomputable def lawSt : { x : Stmt × Stmt × Stmt × Stmt × Stmt × Stmt × Stmt × Stmt × Stmt × Stmt × Stmt // lawAll.1 = [x.1, x.2.1, x.2.2.1, x.2.2.2.1, x.2.2.2.2.1, x.2.2.2.2.2.1, x.2.2.2.2.2.2.1, x.2.2.2.2.2.2.2.1, x.2.2.2.2.2.2.2.2.1, x.2.2.2.2.2.2.2.2.2.1, x.2.2.2.2.2.2.2.2.2.2] } :=
  ⟨(_, _, _, _, _, _, _, _, _, _, _), rfl⟩
noncomputable def lawSc : { p : List (Str × NameKind) × Bool × Bool × List (Str × Const) // lawAll.2 = ⟨.function, p.1, p.2.1, p.2.2.1, p.2.2.2⟩ } := ⟨(_, _, _, _), rfl⟩
noncomputable abbrev law_for1 : Stmt := lawSt.1.2.2.1
noncomputable def lawFb : { x : Expr × Expr × List Stmt × Pos // law_for1 = .For x.1 x.2.1 x.2.2.1 [] x.2.2.2 } := ⟨(_, _, _, _), rfl⟩
noncomputable abbrev law_tb : List Stmt := lawFb.1.2.2.1
noncomputable abbrev law_d3 : List Stmt := [lawSt.1.2.2.2.1, lawSt.1.2.2.2.2.1, lawSt.1.2.2.2.2.2.1, lawSt.1.2.2.2.2.2.2.1, lawSt.1.2.2.2.2.2.2.2.1, lawSt.1.2.2.2.2.2.2.2.2.1, lawSt.1.2.2.2.2.2.2.2.2.2.1, lawSt.1.2.2.2.2.2.2.2.2.2.2]
noncomputable abbrev lawCs : Scope := ⟨.function, lawSc.1.1, lawSc.1.2.1, lawSc.1.2.2.1, lawSc.1.2.2.2⟩
noncomputable abbrev lawCl (L : Addr) : List (Str × Addr) := [(Str.ofString "names", L + 1 + 1 + 1 + 1 + 1), (Str.ofString "other", L + 1 + 1 + 1 + 1), (Str.ofString "spot", L + 1 + 1 + 1), (Str.ofString "name", L + 1 + 1), (Str.ofString "values", L + 1)]
def lawF (pn tA aA KL TL ML : Addr) (m' : Str → Option Value) : Prop :=
  m' (Str.ofString "pan") = some (.ref pn) ∧ m' (Str.ofString "table") = some (.ref tA) ∧ m' (Str.ofString "array") = some (.ref aA) ∧ m' (Str.ofString "keys") = some (.ref KL) ∧ m' (Str.ofString "tags") = some (.ref TL) ∧ m' (Str.ofString "made") = some (.ref ML)
noncomputable abbrev lawMid (L VL ML : Addr) (o1 o2 o3 o4 o5 : Obj) (vls mvs : List Value) (nV nM : Nat) : List (Addr × Obj) :=
  [(L + 1, o1), (L + 1 + 1, o2), (L + 1 + 1 + 1, o3), (L + 1 + 1 + 1 + 1, o4), (L + 1 + 1 + 1 + 1 + 1, o5), (VL, lstO vls nV), (ML, lstO mvs nM)]
/-- the main loop's invariant -/
inductive LawI (w : World) (L pn tA aA eD pD rL ML DS : Addr) (ws : List Value) (c : Int) (i : Nat) (m' : Str → Option Value) (news' : List (Addr × Obj)) : Prop where
  | mk (KL TL VL : Addr) (o1 o2 o3 o4 o5 : Obj) (p : Int) (u : Tok) (np e1 e2 nr nV nM : Nat) (es : List Ent) (ys : List (List Scal × Addr × Value)) (tvs mvs : List Value) (rest : List (Addr × Obj))
    (z1 : lawF pn tA aA KL TL ML m') (z2 : news' = lawL w pn eD pD rL DS p u np e1 e2 nr (lawMid L VL ML o1 o2 o3 o4 o5 (es.map (·.v)) mvs nV nM) es ys rest)
    (z3 : CoreJ w tA aA eD pD rL DS ws es ys rest) (z4 : ListJ w KL TL es tvs rest) (z5 : MadeJ w tA es.length mvs rest) (z6 : Sep (lawM pn eD pD rL (lawMid L VL ML o1 o2 o3 o4 o5 (es.map (·.v)) mvs nV nM) es) (rest.map (·.1))) (z7 : es.length ≤ i) (z8 : mvs.length = i) (z9 : 0 ≤ p) (z10 : p ≤ c + 3 * (i : Int))
    (z11 : ∀ e ∈ es, ∃ (z : Int) (u : Tok), e.v = .int z u) (z12 : o1.data = .cell (some (.ref VL))) (z13 : ∃ x, o2.data = .cell x) (z14 : ∃ x, o3.data = .cell x) (z15 : ∃ x, o4.data = .cell x) (z16 : ∃ x, o5.data = .cell x) (z17 : @LT.lt Nat _ rL VL) (z18 : VL ≠ ML) : LawI w L pn tA aA eD pD rL ML DS ws c i m' news'
theorem LawI.turn {w : World} {L pn tA aA eD pD rL ML DS : Addr} {ws : List Value} {c : Int} {i : Nat} {m : Str → Option Value} {news : List (Addr × Obj)} {v : Value} (h : LawI w L pn tA aA eD pD rL ML DS ws c i m news) : LawI w L pn tA aA eD pD rL ML DS ws c i (fun y => if y = Str.ofString "turn" then some v else m y) news := by
  cases h with
  | mk KL TL VL o1 o2 o3 o4 o5 p u np e1 e2 nr nV nM es ys tvs mvs rest z1 z2 z3 z4 z5 z6 z7 z8 z9 z10 z11 z12 z13 z14 z15 z16 z17 z18 =>
    exact .mk KL TL VL o1 o2 o3 o4 o5 p u np e1 e2 nr nV nM es ys tvs mvs rest ⟨(if_neg (by decide)).trans z1.1, (if_neg (by decide)).trans z1.2.1, (if_neg (by decide)).trans z1.2.2.1, (if_neg (by decide)).trans z1.2.2.2.1, (if_neg (by decide)).trans z1.2.2.2.2.1, (if_neg (by decide)).trans z1.2.2.2.2.2⟩ z2 z3 z4 z5 z6 z7 z8 z9 z10 z11 z12 z13 z14 z15 z16 z17 z18
/-- the fixed addresses in their order -/
structure LawO (L pn eD pD rL ML : Addr) : Prop where
  h1 : @LT.lt Nat _ (L + 1 + 1 + 1 + 1 + 1) pn
  h2 : @LT.lt Nat _ pn eD
  h3 : @LT.lt Nat _ eD pD
  h4 : @LT.lt Nat _ pD rL
  h5 : @LT.lt Nat _ rL ML
theorem law_in_sub {α : Type} {A B C D I : α} {mid r : List α} : ∀ p ∈ A :: B :: C :: D :: ((mid ++ [I]) ++ r), p ∈ I :: A :: B :: C :: D :: (mid ++ r) := by
  intro p hp
  simp only [List.mem_cons, List.mem_append, List.not_mem_nil, or_false] at hp ⊢
  grind
theorem law_in {pn eD pD rL I : Addr} {oI o1 o2 o3 o4 : Obj} {mid rest : List (Addr × Obj)} {es : List Ent} (S : Sep (lawM pn eD pD rL mid es) (rest.map (·.1))) (off : ∀ p ∈ (pn, o1) :: (eD, o2) :: (pD, o3) :: (rL, o4) :: (mid ++ (es.map Ent.o ++ rest)), p.1 ≠ I) : Sep (lawM pn eD pD rL (mid ++ [(I, oI)]) es) (rest.map (·.1)) := by
  have e : (I :: lawM pn eD pD rL mid es).Perm (lawM pn eD pD rL (mid ++ [(I, oI)]) es) := by
    have e1 : lawM pn eD pD rL (mid ++ [(I, oI)]) es = (pn :: eD :: pD :: rL :: mid.map (·.1)) ++ I :: es.map (·.pr) := by simp [lawM]
    have e2 : lawM pn eD pD rL mid es = (pn :: eD :: pD :: rL :: mid.map (·.1)) ++ es.map (·.pr) := by simp [lawM]
    rw [e1, e2]
    exact List.perm_middle.symm
  refine (S.cons ?_ ?_).perm e
  · intro h
    obtain ⟨p, hp, e⟩ := lawM_in (rest := rest) _ h
    exact off p hp e
  · intro h
    obtain ⟨p, hp, e⟩ := List.mem_map.mp h
    exact off p (.tail _ (.tail _ (.tail _ (.tail _ (List.mem_append_right _ (List.mem_append_right _ hp)))))) e
theorem range_few {r : Nat} (h : (r : Int) < 9) : Builtin.Range.small 0 (3 + (r : Int)) 1 = true ∧ Builtin.Range.rangeSize 0 (3 + (r : Int)) 1 = ((3 + r : Nat) : Int) := by
  have h9 : r < 9 := by omega
  rcases r with _ | _ | _ | _ | _ | _ | _ | _ | _ | r
  all_goals first | exact ⟨by decide, by decide⟩ | omega
theorem nodup_tup {es : List Ent} (h : (es.map (·.tg)).Nodup) : (es.map (·.tg.tup)).Nodup := by
  have e : es.map (·.tg.tup) = (es.map (·.tg)).map Tag.tup := by rw [List.map_map]; rfl
  rw [e, List.nodup_iff_pairwise_ne, List.pairwise_map]
  exact (List.nodup_iff_pairwise_ne.mp h).imp fun hne e => hne (Tag.tup_inj e)
theorem app_method {prog : Program} {w : World} {A : Around} {E : Value → Shared → Prop} {s : Shared} {h₀ : Heap} {L l : Addr} {news : List (Addr × Obj)} {vs : List Value} {n : Nat} {pl : Sem Bool} {Q : Value × List Value → Shared → Prop} (N : News h₀ L s.heap news) (hm : (l, lstO vs n) ∈ news) (h : Q (.builtin "list.append", [.ref l]) s) : wpAny (model prog w) A (getMethod (.ref l) (Str.ofString "append") pl) Q E s :=
  getMethod_builtin ⟨_, N.get hm, rfl⟩ PySem.F.plainAttrs_list slot_list_append type_list_append (fun b e => by cases e; exact ⟨_, N.get hm, rfl⟩) h
theorem sub_te {α : Type} {D A B C E I : α} {mid prs R : List α} : ∀ p ∈ I :: A :: B :: C :: E :: (mid ++ (prs ++ D :: R)), p ∈ D :: A :: B :: C :: E :: ((mid ++ [I]) ++ (prs ++ R)) := by
  intro p hp
  simp only [List.mem_cons, List.mem_append, List.not_mem_nil, or_false] at hp ⊢
  grind
theorem turn_end {w : World} {h₀ h : Heap} {L pn tA aA eD pD rL ML DS I VL KL TL D x : Addr} {oI o1 o2 o3 o4 o5 : Obj} {ws vls tvs mvs : List Value} {i j : Nat} {m' : Str → Option Value} {p : Int} {u t u6 : Tok} {np e1 e2 nr nV nM nD : Nat} {es : List Ent} {ys : List (List Scal × Addr × Value)} {R : List (Addr × Obj)}
    (F : Fr h₀ L h m') (hf : lawF pn tA aA KL TL ML m')
    (N : News h₀ L h ((D, tupO [.ref x, .int ((j : Nat) : Int) t] nD) :: lawL w pn eD pD rL DS p u np e1 e2 nr (lawMid L VL ML o1 o2 o3 o4 o5 vls (mvs ++ [.ref D]) nV nM ++ [(I, oI)]) es ys R))
    (lD : AllLt D (lawL w pn eD pD rL DS p u np e1 e2 nr (lawMid L VL ML o1 o2 o3 o4 o5 vls (mvs ++ [.ref D]) nV nM ++ [(I, oI)]) es ys R)) (hvls : vls = es.map (·.v))
    (J : CoreJ w tA aA eD pD rL DS ws es ys R) (JL : ListJ w KL TL es tvs R) (JM : MadeJ w tA es.length mvs R) (S : Sep (lawM pn eD pD rL (lawMid L VL ML o1 o2 o3 o4 o5 vls (mvs ++ [.ref D]) nV nM ++ [(I, oI)]) es) (R.map (·.1)))
    (hj : j < es.length) (hR : RefD w R x (Str.ofString "item") (.ref tA) (.int ((j : Nat) : Int) u6)) (hi : es.length ≤ i + 1) (hm : mvs.length = i) (hp0 : 0 ≤ p) (hp : p ≤ 1 + 3 * ((i : Int) + 1)) (hv : ∀ e ∈ es, ∃ (z : Int) (u : Tok), e.v = .int z u)
    (hc1 : o1.data = .cell (some (.ref VL))) (hc2 : ∃ x, o2.data = .cell x) (hc3 : ∃ x, o3.data = .cell x) (hc4 : ∃ x, o4.data = .cell x) (hc5 : ∃ x, o5.data = .cell x) (hV1 : @LT.lt Nat _ rL VL) (hV2 : VL ≠ ML) :
    ∃ news', News h₀ L h ((I, oI) :: news') ∧ (∀ p ∈ news', p.1 ≠ I) ∧ LawI w L pn tA aA eD pD rL ML DS ws 1 (i + 1) m' news' := by
  subst hvls
  have hs : ∀ q ∈ R, q ∈ (D, tupO [.ref x, .int ((j : Nat) : Int) t] nD) :: R := fun q hq => .tail _ hq
  have S' := S.up (own := [(D, tupO [.ref x, .int ((j : Nat) : Int) t] nD)]) lawM_in (news := lawL w pn eD pD rL DS p u np e1 e2 nr (lawMid L VL ML o1 o2 o3 o4 o5 (es.map (·.v)) (mvs ++ [.ref D]) nV nM ++ [(I, oI)]) es ys R) fun q hq r hr => by rw [List.mem_singleton.mp hr]; exact of_allLt lD q hq
  have e1' : lawM pn eD pD rL (lawMid L VL ML o1 o2 o3 o4 o5 (es.map (·.v)) (mvs ++ [.ref D]) nV nM ++ [(I, oI)]) es = (pn :: eD :: pD :: rL :: (lawMid L VL ML o1 o2 o3 o4 o5 (es.map (·.v)) (mvs ++ [.ref D]) nV nM).map (·.1)) ++ I :: es.map (·.pr) := by simp [lawM]
  have e2' : lawM pn eD pD rL (lawMid L VL ML o1 o2 o3 o4 o5 (es.map (·.v)) (mvs ++ [.ref D]) nV nM) es = (pn :: eD :: pD :: rL :: (lawMid L VL ML o1 o2 o3 o4 o5 (es.map (·.v)) (mvs ++ [.ref D]) nV nM).map (·.1)) ++ es.map (·.pr) := by simp [lawM]
  have SI : Sep (I :: lawM pn eD pD rL (lawMid L VL ML o1 o2 o3 o4 o5 (es.map (·.v)) (mvs ++ [.ref D]) nV nM) es) (((D, tupO [.ref x, .int ((j : Nat) : Int) t] nD) :: R).map (·.1)) := by
    refine S'.perm ?_
    rw [e1', e2']
    exact List.perm_middle
  refine ⟨lawL w pn eD pD rL DS p u np e1 e2 nr (lawMid L VL ML o1 o2 o3 o4 o5 (es.map (·.v)) (mvs ++ [.ref D]) nV nM) es ys ((D, tupO [.ref x, .int ((j : Nat) : Int) t] nD) :: R), News.sub N sub_te, Sep.off SI fun b hb => ?_, ?_⟩
  · simp only [lawL, List.map_cons, List.map_append, ent_fst, List.mem_cons, List.mem_append] at hb ⊢
    grind
  · refine ⟨KL, TL, VL, o1, o2, o3, o4, o5, p, u, np, e1, e2, nr, nV, nM, es, ys, tvs, mvs ++ [.ref D], _, hf, rfl, J.mono hs, JL.mono hs, ?_, SI.sub (List.sublist_cons_self _ _), hi, by simp [hm], hp0, by omega, hv, hc1, hc2, hc3, hc4, hc5, hV1, hV2⟩
    intro c v hcv
    by_cases hcl : c < mvs.length
    · rw [List.getElem?_append_left hcl] at hcv
      exact JM.mono hs (Nat.le_refl _) c v hcv
    · have hc9 : c = mvs.length := by
        have := (List.getElem?_eq_some_iff.mp hcv).1
        simp at this
        omega
      subst hc9
      rw [List.getElem?_append_right (Nat.le_refl _), Nat.sub_self] at hcv
      cases hcv
      exact ⟨D, x, nD, t, u6, j, rfl, List.mem_cons_self, hR.mono hs, hj⟩
theorem law_lists {w : World} {h₀ h : Heap} {L pn eD pD rL DS VL VL2 TL2 KL2 D0 v1 t1 k1 : Addr} {oVL oV2 od ov oT ot oK ok : Obj} {p : Int} {u : Tok} {np e1 e2 nr : Nat} {m5 m2 R : List (Addr × Obj)} {es : List Ent} {ys : List (List Scal × Addr × Value)}
    (N : News h₀ L h ((D0, od) :: (VL2, oV2) :: (v1, ov) :: (TL2, oT) :: (t1, ot) :: (KL2, oK) :: (k1, ok) :: lawL w pn eD pD rL DS p u np e1 e2 nr (m5 ++ (VL, oVL) :: m2) es ys R))
    (hk : AllLt KL2 (lawL w pn eD pD rL DS p u np e1 e2 nr (m5 ++ (VL, oVL) :: m2) es ys R)) (ht : AllLt TL2 (lawL w pn eD pD rL DS p u np e1 e2 nr (m5 ++ (VL, oVL) :: m2) es ys R)) (hv : AllLt VL2 (lawL w pn eD pD rL DS p u np e1 e2 nr (m5 ++ (VL, oVL) :: m2) es ys R))
    (h1 : @LT.lt Nat _ TL2 VL2) (h2 : @LT.lt Nat _ KL2 VL2) (S : Sep (lawM pn eD pD rL (m5 ++ (VL, oVL) :: m2) es) (R.map (·.1))) :
    News h₀ L h (lawL w pn eD pD rL DS p u np e1 e2 nr (m5 ++ (VL2, oV2) :: m2) es ys ((TL2, oT) :: (KL2, oK) :: R)) ∧ Sep (lawM pn eD pD rL (m5 ++ (VL2, oV2) :: m2) es) (((TL2, oT) :: (KL2, oK) :: R).map (·.1)) := by
  refine ⟨News.sub N ?_, ?_⟩
  · intro q hq
    simp only [lawL, List.mem_cons, List.mem_append] at hq ⊢
    grind
  · have S1 := S.up (own := [(TL2, oT), (KL2, oK)]) lawM_in (news := lawL w pn eD pD rL DS p u np e1 e2 nr (m5 ++ (VL, oVL) :: m2) es ys R) fun q hq r hr => by
      simp only [List.mem_cons, List.not_mem_nil, or_false] at hr
      rcases hr with rfl | rfl
      · exact of_allLt ht q hq
      · exact of_allLt hk q hq
    have e1' : lawM pn eD pD rL (m5 ++ (VL, oVL) :: m2) es = (pn :: eD :: pD :: rL :: m5.map (·.1)) ++ VL :: (m2.map (·.1) ++ es.map (·.pr)) := by simp [lawM]
    have e2' : lawM pn eD pD rL (m5 ++ (VL2, oV2) :: m2) es = (pn :: eD :: pD :: rL :: m5.map (·.1)) ++ VL2 :: (m2.map (·.1) ++ es.map (·.pr)) := by simp [lawM]
    have hsub : ((pn :: eD :: pD :: rL :: m5.map (·.1)) ++ (m2.map (·.1) ++ es.map (·.pr))).Sublist (lawM pn eD pD rL (m5 ++ (VL, oVL) :: m2) es) := by
      rw [e1']
      exact List.Sublist.append_left (List.sublist_cons_self _ _) _
    have low : ∀ b ∈ lawM pn eD pD rL (m5 ++ (VL, oVL) :: m2) es, @LT.lt Nat _ b VL2 := fun b hb => by
      obtain ⟨q, hq, rfl⟩ := lawM_in (rest := R) b hb
      exact of_allLt hv q hq
    rw [e2']
    refine ((S1.sub hsub).cons (a := VL2) (fun hm => Nat.lt_irrefl _ (low _ (hsub.subset hm))) fun hm => ?_).perm List.perm_middle.symm
    rw [List.map_append] at hm
    rcases List.mem_append.mp hm with hm | hm
    · simp only [List.map_cons, List.map_nil, List.mem_cons, List.not_mem_nil, or_false] at hm
      rcases hm with rfl | rfl
      · exact Nat.lt_irrefl _ h1
      · exact Nat.lt_irrefl _ h2
    · obtain ⟨q, hq, e⟩ := List.mem_map.mp hm
      have : @LT.lt Nat _ q.1 VL2 := of_allLt hv q (.tail _ (.tail _ (.tail _ (.tail _ (List.mem_append_right _ (List.mem_append_right _ hq))))))
      rw [e] at this
      exact Nat.lt_irrefl _ this
theorem ListJ.snoc {w : World} {KL TL KL2 TL2 : Addr} {es : List Ent} {tvs : List Value} {R R' : List (Addr × Obj)} {E : Ent} {tv : Value} {n1 n2 : Nat} (J : ListJ w KL TL es tvs R) (hs : ∀ p ∈ R, p ∈ R') (hK : (KL2, lstO (es.map (·.kv) ++ [E.kv]) n1) ∈ R') (hT : (TL2, lstO (tvs ++ [tv]) n2) ∈ R') (ht : TagV w R' E.tg.tup tv) : ListJ w KL2 TL2 (es ++ [E]) (tvs ++ [tv]) R' := by
  refine ⟨⟨n1, by rw [List.map_append]; exact hK⟩, ⟨n2, hT⟩, ?_⟩
  have hl := J.tags.1
  refine ⟨by simp at hl ⊢; exact hl, fun j k v h1 h2 => ?_⟩
  by_cases hj : j < tvs.length
  · rw [List.getElem?_append_left hj] at h2
    rw [List.map_append, List.getElem?_append_left (by rw [hl]; exact hj)] at h1
    exact (J.tags.mono hs).2 j k v h1 h2
  · have hj2 : j = tvs.length := by
      have := (List.getElem?_eq_some_iff.mp h2).1
      simp at this
      omega
    subst hj2
    rw [List.getElem?_append_right (Nat.le_refl _), Nat.sub_self] at h2
    rw [List.map_append, List.getElem?_append_right (Nat.le_of_eq hl), hl, Nat.sub_self] at h1
    cases h1
    cases h2
    exact ht

local macro_rules | `(tactic| walk_at "getMethod ref") => `(tactic| (k_here; (with_reducible show wpAny _ _ (getMethod _ (Str.ofString "append") _) _ _ _); k_dflt (apply app_method; k_asm; (focus k_mem); k_whole)))
theorem off_B22 : True := by
  w_top off
  exact True.intro
section
variable {w : World} {dp un : Nat} {gd : Option (List Code)} {cn : Str} {a : Addr} {ccd : Value} {outer : List Env} {A₀ : Around} {base h₀ : Heap} {L : Addr} {m : Str → Option Value} {news : List (Addr × Obj)} {s : Shared}
    {loose : List Str} {mean : ExcName → Option Value} {mg mb : Str → Option Value} {Q : Flow → Shared → Prop} {E : Value → Shared → Prop}
    (B : Below A₀ base outer h₀) (F : Fr h₀ L s.heap m) (X : (pre.heap_1 w.params).In h₀) (N : News h₀ L s.heap news) (T : Top pre.view_1 loose mean mg mb h₀) (hdp : dp < 820) (hun : un < 8500)
include B F X N T hdp hun
theorem law_turn {pn tA aA eD pD rL ML DS I : Addr} {oI : Obj} {ws : List Value} {ns : List Int} {news1 : List (Addr × Obj)} {i : Nat} {u9 : Tok} (hn : news = (I, oI) :: news1) (hJ0 : LawI w L pn tA aA eD pD rL ML DS ws 1 i m news1) (hm9 : m (Str.ofString "turn") = some (.int (i : Int) u9)) (hi : i < 12) (off : ∀ p ∈ news1, p.1 ≠ I) (O : LawO L pn eD pD rL ML) (hI : IntsAre ws ns) (hlen : ws.length ≤ 1000)
    (k : ∀ h' tk' m' news', Fr h₀ L h' m' → News h₀ L h' ((I, oI) :: news') → (∀ p ∈ news', p.1 ≠ I) → LawI w L pn tA aA eD pD rL ML DS ws 1 (i + 1) m' news' → Q .next { s with heap := h', toks := tk' }) :
    wpAny (model (RowW.prog (OpenRow.toRowW (OpenLaw.row PySem.Challenge.rw_rh0225_01))) w) (ktrTop dp un gd cn lawCs L a ccd (lawCl L) outer) (execs law_tb (envX cn lawCs L a ccd (lawCl L))) Q E s := by
  have X₁ : (pre.heap_1 w.params).In s.heap := X.keeps F.keep
  obtain ⟨KL, TL, VL, o1, o2, o3, o4, o5, p, u, np, e1, e2, nr, nV, nM, es, ys, tvs, mvs, rest, ⟨f1, f2, f3, f4, f5, f6⟩, rfl, J, JL, JM, S, hl1, hl2, hp0, hp1, hv, hc1, ⟨x2, hc2⟩, ⟨x3, hc3⟩, ⟨x4, hc4⟩, ⟨x5, hc5⟩, hV1, hV2⟩ := hJ0
  subst hn
  have j1 : @Ne Nat pn I := off _ (.head _)
  have j2 : @Ne Nat eD I := off _ (.tail _ (.head _))
  have j3 : @Ne Nat pD I := off _ (.tail _ (.tail _ (.head _)))
  have j4 : @Ne Nat rL I := off _ (.tail _ (.tail _ (.tail _ (.head _))))
  have j5 : @Ne Nat (L + 1) I := off _ (.tail _ (.tail _ (.tail _ (.tail _ (.head _)))))
  have j6 : @Ne Nat (L + 1 + 1) I := off _ (.tail _ (.tail _ (.tail _ (.tail _ (.tail _ (.head _))))))
  have j7 : @Ne Nat (L + 1 + 1 + 1) I := off _ (.tail _ (.tail _ (.tail _ (.tail _ (.tail _ (.tail _ (.head _)))))))
  have j8 : @Ne Nat (L + 1 + 1 + 1 + 1) I := off _ (.tail _ (.tail _ (.tail _ (.tail _ (.tail _ (.tail _ (.tail _ (.head _))))))))
  have j9 : @Ne Nat (L + 1 + 1 + 1 + 1 + 1) I := off _ (.tail _ (.tail _ (.tail _ (.tail _ (.tail _ (.tail _ (.tail _ (.tail _ (.head _)))))))))
  have j10 : @Ne Nat VL I := off _ (.tail _ (.tail _ (.tail _ (.tail _ (.tail _ (.tail _ (.tail _ (.tail _ (.tail _ (.head _))))))))))
  have j11 : @Ne Nat ML I := off _ (.tail _ (.tail _ (.tail _ (.tail _ (.tail _ (.tail _ (.tail _ (.tail _ (.tail _ (.tail _ (.head _)))))))))))
  obtain ⟨q1, q2, q3, q4, q5⟩ := O
  have a1 := Nat.lt_trans q1 q2
  have a2 := Nat.lt_trans a1 q3
  have a3 := Nat.lt_trans a2 q4
  have a4 := Nat.lt_trans a3 q5
  have a5 := Nat.lt_trans a3 hV1
  have b1 := Nat.lt_trans q2 q3
  have b2 := Nat.lt_trans b1 q4
  have b3 := Nat.lt_trans b2 q5
  have b4 := Nat.lt_trans b2 hV1
  have b5 := Nat.lt_trans q3 q4
  have b6 := Nat.lt_trans b5 q5
  have b7 := Nat.lt_trans b5 hV1
  have b8 := Nat.lt_trans q4 q5
  have b9 := Nat.lt_trans q4 hV1
  have N4 : News h₀ L s.heap (lawL w pn eD pD rL DS p u np e1 e2 nr [(L + 1, o1), (L + 1 + 1, o2), (L + 1 + 1 + 1, o3), (L + 1 + 1 + 1 + 1, o4), (L + 1 + 1 + 1 + 1 + 1, o5), (VL, lstO (es.map (·.v)) nV), (ML, lstO mvs nM), (I, oI)] es ys rest) := News.sub N (law_in_sub (mid := lawMid L VL ML o1 o2 o3 o4 o5 (es.map (·.v)) mvs nV nM))
  have S4 : Sep (lawM pn eD pD rL [(L + 1, o1), (L + 1 + 1, o2), (L + 1 + 1 + 1, o3), (L + 1 + 1 + 1 + 1, o4), (L + 1 + 1 + 1 + 1 + 1, o5), (VL, lstO (es.map (·.v)) nV), (ML, lstO mvs nM), (I, oI)] es) (rest.map (·.1)) := law_in (mid := lawMid L VL ML o1 o2 o3 o4 o5 (es.map (·.v)) mvs nV nM) S off
  have F4 := frKnow (frKnow (frKnow (frKnow (frKnow (frKnow F _ _ f1) _ _ ((if_neg (by decide)).trans f2)) _ _ (((if_neg (by decide)).trans (if_neg (by decide))).trans f3)) _ _ ((((if_neg (by decide)).trans (if_neg (by decide))).trans (if_neg (by decide))).trans f4)) _ _ (((((if_neg (by decide)).trans (if_neg (by decide))).trans (if_neg (by decide))).trans (if_neg (by decide))).trans f5)) _ _ ((((((if_neg (by decide)).trans (if_neg (by decide))).trans (if_neg (by decide))).trans (if_neg (by decide))).trans (if_neg (by decide))).trans f6)
  have F5 := frKnow F4 (Str.ofString "turn") _ ((((((((if_neg (by decide)).trans (if_neg (by decide))).trans (if_neg (by decide))).trans (if_neg (by decide))).trans (if_neg (by decide))).trans (if_neg (by decide))).trans hm9))
  clear F N F4 S off
  dsimp only [law_tb, lawFb, lawCs, lawSc]
  k_steps
  refine' held_open (law_key (mid := [_, _, _, _, _, _, _, _]) ?qB ?qF ?qX ?qN ?qT ?qd ?qu rfl J hI hlen ?qS hp0 (by omega) ?qML JM (by omega) ?_)
  (case qF => k_asm)
  (case qN => k_asm)
  (case qB => k_asm)
  (case qX => k_asm)
  (case qT => k_asm)
  (case qd => first | k_room | omega)
  (case qu => first | k_units | omega)
  (case qS => exact S4)
  (case qML => k_mem)
  intro g6 tk6 tp own1 tg kv ta items n4 n5 u2 n2 F6 N6 S6 m1 m2 hI6 hK6 hok6
  have J6 := J.mono (fun p hp => List.mem_append_right own1 hp)
  have JL6 := JL.mono (fun p hp => List.mem_append_right own1 hp)
  have JM6 := JM.mono (fun p hp => List.mem_append_right own1 hp) (Nat.le_refl _)
  have hta : TagV w (own1 ++ rest) tg.tup (.ref ta) := ⟨ta, items, n5, rfl, List.mem_append_left _ m2, hI6⟩
  clear J JL JM N4 S4 F5
  k_steps
  rename_i kl gk Fk Nk lk
  obtain ⟨N8, S8⟩ := law_push1 (mid := [_, _, _, _, _, _, _, _]) Nk S6 lk
  have hs8 : ∀ p ∈ own1 ++ rest, p ∈ (kl, lstO [kv] 0) :: (own1 ++ rest) := fun p hp => .tail _ hp
  refine' held_open (law_item (mid := [_, _, _, _, _, _, _, _]) ?qB Fk ?qX N8 ?qT ?qd ?qu rfl (J6.mono hs8) ?qS List.mem_cons_self (hK6.mono hs8) hok6 (by omega) ?qold ?qnew)
  (case qB => k_asm)
  (case qX => k_asm)
  (case qT => k_asm)
  (case qd => first | k_room | omega)
  (case qu => first | k_units | omega)
  (case qS => exact S8)
  (case qold =>
    intro g9 tk9 x own2 j e u9 e19 e29 nr9 F9 N9 S9 hj9 etg hR9
    have hs9 : ∀ p ∈ own1 ++ rest, p ∈ own2 ++ ((kl, lstO [kv] 0) :: (own1 ++ rest)) := fun p hp => List.mem_append_right _ (.tail _ hp)
    have J9 := J6.mono hs9
    have JL9 := JL6.mono hs9
    have JM9 := JM6.mono hs9 (Nat.le_refl _)
    have hta9 := hta.mono hs9
    clear J6 JL6 JM6 hta Fk Nk N8 S8 S6
    dsimp only [lawL, List.cons_append, List.nil_append] at N9
    obtain ⟨nK9, hK9⟩ := JL9.hK
    obtain ⟨nT9, hT9⟩ := JL9.hTL
    have ht9 := JL9.tags
    obtain ⟨tg', kv', mA', pr', v', ne'⟩ := e
    dsimp only at etg
    subst etg
    obtain ⟨z9, uz9, ez9⟩ := hv _ (List.mem_of_getElem? hj9)
    dsimp only at ez9
    subst ez9
    have hlj : j < es.length := (List.getElem?_eq_some_iff.mp hj9).1
    have h49 : (es.map fun e => Value.ref e.pr)[((j : Nat) : Int).toNat]? = some (.ref pr') := by rw [Int.toNat_natCast, List.getElem?_map, hj9]; rfl
    have h59 : (pr', lstO [kv', .int z9 uz9] ne') ∈ es.map Ent.o ++ (own2 ++ (kl, lstO [kv] 0) :: (own1 ++ rest)) := List.mem_append_left _ (List.mem_map_of_mem (f := Ent.o) (List.mem_of_getElem? hj9))
    have hv9 : (es.map (·.v))[((j : Nat) : Int).toNat]? = some (.int z9 uz9) := by rw [Int.toNat_natCast, List.getElem?_map, hj9]; rfl
    have hT9' := J9.hT
    replace hR9 := hR9.mono (news' := own2 ++ (kl, lstO [kv] 0) :: (own1 ++ rest)) fun p hp => List.mem_append_left _ hp
    have hin9 : tg'.tup ∈ es.map (·.tg.tup) := List.mem_map.mpr ⟨_, List.mem_of_getElem? hj9, rfl⟩
    k_steps
    refine' held_open (index_tags (j := j) (ks := es.map (·.tg.tup)) ?qu ?qN ?qm ?qt ?qx ?qnd ?qj ?qz ?_)
    (case qN => k_asm)
    (case qm => k_mem)
    (case qt => exact TagsV.mono ht9 (by ktr_rel))
    (case qx => exact TagV.mono hta9 (by ktr_rel))
    (case qnd => exact nodup_tup J9.nd)
    (case qj => rw [List.getElem?_map, hj9]; rfl)
    (case qz => have := JL9.tags.1; simp at this; omega)
    (case qu => first | k_units | decide)
    intro t10 tk10
    k_steps
    · exact absurd rfl (by assumption : z9 ≠ z9)
    refine' held_open (law_cut (p := p + 2) (mid := [_, _, _, _, _, _, _, _]) ?qB ?qF ?qX ?qN ?qT ?qd ?qu rfl J9 hI hlen ?qS (by omega) (by omega) (.inr (.inr rfl)) ?_)
    (case qF => k_asm)
    (case qN => assumption)
    (case qB => k_asm)
    (case qX => k_asm)
    (case qT => k_asm)
    (case qd => first | k_room | omega)
    (case qu => first | k_units | omega)
    (case qS => exact S9)
    intro g11 tk11 r11 t11 u11 n11 F11 N11 hr11
    dsimp only [lawL, List.cons_append, List.nil_append] at N11
    k_steps
    refine' held_open (law_set (p := p + 2 + 1) (mid := [_, _, _, _, _, _, _, _]) ?qB ?qF ?qX ?qN ?qT ?qd ?qu rfl J9 ?qS hR9 hj9 (by omega) ?_)
    (case qF => k_asm)
    (case qN => assumption)
    (case qB => k_asm)
    (case qX => k_asm)
    (case qT => k_asm)
    (case qd => first | k_room | omega)
    (case qu => first | k_units | omega)
    (case qS => exact S9)
    intro g12 tk12 n12 F12 N12 S12
    dsimp only [lawL, List.cons_append, List.nil_append] at N12
    clear S9
    k_steps
    (with_reducible rename Fr _ _ _ _ => F13)
    (with_reducible rename News _ _ _ _ => N13)
    obtain ⟨news', a1, a2, a3⟩ := turn_end (KL := KL) (TL := TL) F13 ⟨rfl, rfl, rfl, rfl, rfl, rfl⟩ N13 (by assumption) (by rw [Int.toNat_natCast, List.map_set]; rfl) (J9.set hj9) (JL9.set hj9) (by rw [List.length_set]; exact JM9) S12 (by rw [List.length_set]; exact hlj) hR9 (by rw [List.length_set]; omega) hl2 (by omega) (by omega)
      (fun e he => by rcases List.mem_or_eq_of_mem_set he with h | rfl; exact hv e h; exact ⟨_, _, rfl⟩) hc1 ⟨_, by assumption⟩ ⟨_, by assumption⟩ ⟨_, hc4⟩ ⟨_, hc5⟩ hV1 hV2
    exact k _ _ _ news' F13 a1 a2 a3)
  (case qnew =>
    intro g9 tk9 x own2 mA pr u9 u3 n29 e19 e29 nr9 ys9 F9 N9 S9 J9 hnin hR9
    have hs9 : ∀ p ∈ own1 ++ rest, p ∈ own2 ++ (kl, lstO [kv] 0) :: (own1 ++ rest) := fun p hp => List.mem_append_right _ (.tail _ hp)
    have JL9 := JL6.mono hs9
    have JM9 := JM6.mono hs9 (Nat.le_succ _)
    have hta9 := hta.mono hs9
    clear J6 JL6 JM6 hta Fk Nk N8 S8 S6
    dsimp only [lawL, List.cons_append, List.nil_append] at N9
    obtain ⟨nK9, hK9⟩ := JL9.hK
    obtain ⟨nT9, hT9⟩ := JL9.hTL
    have ht9 := JL9.tags
    have h49 : ((es ++ [(⟨tg, kv, mA, pr, .str (Str.ofString "") u3, n29⟩ : Ent)]).map fun e => Value.ref e.pr)[((es.length : Nat) : Int).toNat]? = some (.ref pr) := by rw [Int.toNat_natCast]; simp
    have h59 : (pr, lstO [kv, .str (Str.ofString "") u3] n29) ∈ (es ++ [(⟨tg, kv, mA, pr, .str (Str.ofString "") u3, n29⟩ : Ent)]).map Ent.o ++ (own2 ++ (kl, lstO [kv] 0) :: (own1 ++ rest)) := List.mem_append_left _ (by simp [Ent.o])
    have hT9' := J9.hT
    replace hR9 := hR9.mono (news' := own2 ++ (kl, lstO [kv] 0) :: (own1 ++ rest)) fun p hp => List.mem_append_left _ hp
    have hnin9 : tg.tup ∉ es.map (·.tg.tup) := fun h => by
      obtain ⟨e, he, e9⟩ := List.mem_map.mp h
      exact hnin (List.mem_map.mpr ⟨e, he, Tag.tup_inj e9⟩)
    have hz1 : (es.map (·.kv)).length ≤ 1000 := by rw [List.length_map]; omega
    have hz2 : tvs.length ≤ 1000 := by have := JL9.tags.1; simp at this; omega
    have hz3 : (es.map (·.v)).length ≤ 1000 := by rw [List.length_map]; omega
    have hlen9 : ((es.length : Nat) : Int) < 1000 := by omega
    k_steps
    rename_i k1 gk1 lk1 KL2 gk2 lk2 t1 gt1 lt1 TL2 gt2 lt2 v1 gv1 lv1 VL2 gv2 lv2 D0 gd0 ld0 ga gb gc gd o1' F10 N10 d10
    obtain ⟨N11, S11⟩ := law_lists (m5 := [_, _, _, _, _]) (m2 := [_, _]) N10 lk2.2 lt2.2.2.2 lv2.2.2.2.2.2 lv2.2.1 lv2.2.2.2.1 S9
    have hV1' : @LT.lt Nat _ rL VL2 := lv2.2.2.2.2.2.2.2.2.1
    have hV2' : VL2 ≠ ML := Ne.symm (Nat.ne_of_lt lv2.2.2.2.2.2.2.2.2.2.2.2.2.2.2.2.1)
    have j10' : @Ne Nat VL2 I := Ne.symm (Nat.ne_of_lt lv2.2.2.2.2.2.2.2.2.2.2.2.2.2.2.2.2.1)
    clear lk1 lk2 lt1 lt2 lv1 lv2 ld0 N10 S9
    dsimp only [lawL, List.cons_append, List.nil_append] at N11
    have hs10 : ∀ p ∈ own2 ++ (kl, lstO [kv] 0) :: (own1 ++ rest), p ∈ (TL2, lstO (tvs ++ [.ref ta]) 0) :: (KL2, lstO (es.map (·.kv) ++ [kv]) 0) :: (own2 ++ (kl, lstO [kv] 0) :: (own1 ++ rest)) := fun p hp => .tail _ (.tail _ hp)
    have J10 := J9.mono hs10
    have hta10 := hta9.mono hs10
    have JL10 := ListJ.snoc (E := ⟨tg, kv, mA, pr, .str (Str.ofString "") u3, n29⟩) JL9 hs10 (.tail _ (.head _)) (.head _) hta10
    have JM10 := JM9.mono hs10 (Nat.le_refl _)
    have hR10 := hR9.mono hs10
    have hT10 := J10.hT
    have h510 : (pr, lstO [kv, .str (Str.ofString "") u3] n29) ∈ (es ++ [(⟨tg, kv, mA, pr, .str (Str.ofString "") u3, n29⟩ : Ent)]).map Ent.o ++ ((TL2, lstO (tvs ++ [.ref ta]) 0) :: (KL2, lstO (es.map (·.kv) ++ [kv]) 0) :: (own2 ++ (kl, lstO [kv] 0) :: (own1 ++ rest))) := List.mem_append_left _ (by simp [Ent.o])
    have hj10 : (es ++ [(⟨tg, kv, mA, pr, .str (Str.ofString "") u3, n29⟩ : Ent)])[es.length]? = some ⟨tg, kv, mA, pr, .str (Str.ofString "") u3, n29⟩ := by simp
    clear J9 JL9 JM9 hR9 hT9' hta9 ht9 hK9 hT9 h59
    refine' held_open (index_tags (j := es.length) (ks := (es ++ [(⟨tg, kv, mA, pr, .str (Str.ofString "") u3, n29⟩ : Ent)]).map (·.tg.tup)) ?qu ?qN ?qm ?qt ?qx ?qnd ?qj ?qz ?_)
    (case qN => k_asm)
    (case qm => k_mem)
    (case qt => exact TagsV.mono JL10.tags (by ktr_rel))
    (case qx => exact TagV.mono hta10 (by ktr_rel))
    (case qnd => exact nodup_tup J10.nd)
    (case qj => rw [List.getElem?_map, hj10]; rfl)
    (case qz => have := JL10.tags.1; simp at this ⊢; omega)
    (case qu => first | k_units | decide)
    intro t10 tk11
    k_steps
    refine' held_open (law_cut (p := p + 2) (mid := [_, _, _, _, _, _, _, _]) ?qB ?qF ?qX ?qN ?qT ?qd ?qu rfl J10 hI hlen ?qS (by omega) (by omega) (.inr (.inr rfl)) ?_)
    (case qF => k_asm)
    (case qN => assumption)
    (case qB => k_asm)
    (case qX => k_asm)
    (case qT => k_asm)
    (case qd => first | k_room | omega)
    (case qu => first | k_units | omega)
    (case qS => exact S11)
    intro g11 tk11 r11 t11 u11 n11 F11 N11 hr11
    dsimp only [lawL, List.cons_append, List.nil_append] at N11
    k_steps
    refine' held_open (law_set (p := p + 2 + 1) (mid := [_, _, _, _, _, _, _, _]) ?qB ?qF ?qX ?qN ?qT ?qd ?qu rfl J10 ?qS hR10 hj10 (by simp; omega) ?_)
    (case qF => k_asm)
    (case qN => assumption)
    (case qB => k_asm)
    (case qX => k_asm)
    (case qT => k_asm)
    (case qd => first | k_room | omega)
    (case qu => first | k_units | omega)
    (case qS => exact S11)
    intro g12 tk12 n12 F12 N12 S12
    dsimp only [lawL, List.cons_append, List.nil_append] at N12
    clear S11
    k_steps
    (with_reducible rename Fr _ _ _ _ => F13)
    (with_reducible rename News _ _ _ _ => N13)
    obtain ⟨news', a1, a2, a3⟩ := turn_end (KL := KL2) (TL := TL2) F13 ⟨rfl, rfl, rfl, rfl, rfl, rfl⟩ N13 (by assumption) (by rw [Int.toNat_natCast]; simp [Ent.put]) (J10.set hj10) (JL10.set hj10) (by rw [List.length_set]; simpa using JM10) S12 (by simp) hR10 (by simp; omega) hl2 (by omega) (by omega)
      (fun e he => by
        have h9 : ∀ y : Ent, (es ++ [(⟨tg, kv, mA, pr, .str (Str.ofString "") u3, n29⟩ : Ent)]).set es.length y = es ++ [y] := by intro y; simp
        rw [h9] at he
        rcases List.mem_append.mp he with h | h
        · exact hv e h
        · rw [List.mem_singleton.mp h]; exact ⟨_, _, rfl⟩) (by assumption) ⟨_, by assumption⟩ ⟨_, by assumption⟩ ⟨_, hc4⟩ ⟨_, hc5⟩ hV1' hV2'
    exact k _ _ _ news' F13 a1 a2 a3)
end

theorem off_B23 : True := by
  w_top off
  exact True.intro
section
variable {w : World} {dp un : Nat} {gd : Option (List Code)} {cn : Str} {a : Addr} {ccd : Value} {outer : List Env} {A₀ : Around} {base h₀ : Heap} {L : Addr} {m : Str → Option Value} {news : List (Addr × Obj)} {s : Shared}
    {loose : List Str} {mean : ExcName → Option Value} {mg mb : Str → Option Value} {Q : Flow → Shared → Prop} {E : Value → Shared → Prop}
    (B : Below A₀ base outer h₀) (F : Fr h₀ L s.heap m) (X : (pre.heap_1 w.params).In h₀) (N : News h₀ L s.heap news) (T : Top pre.view_1 loose mean mg mb h₀) (hdp : dp < 820) (hun : un < 8500)
include B F X N T hdp hun
theorem law_loop1 {pn tA aA eD pD rL ML DS : Addr} {ws : List Value} {ns : List Int} (h0 : LawI w L pn tA aA eD pD rL ML DS ws 0 0 m news) (O : LawO L pn eD pD rL ML) (hI : IntsAre ws ns) (hlen : ws.length ≤ 1000)
    (k : ∀ n h' tk' m' news', Fr h₀ L h' m' → News h₀ L h' news' → LawI w L pn tA aA eD pD rL ML DS ws 1 n m' news' → n ≤ 11 → Q .next { s with heap := h', toks := tk' }) :
    wpAny (model (RowW.prog (OpenRow.toRowW (OpenLaw.row PySem.Challenge.rw_rh0225_01))) w) (ktrTop dp un gd cn lawCs L a ccd (lawCl L) outer) (exec law_for1 (envX cn lawCs L a ccd (lawCl L))) Q E s := by
  have X₁ : (pre.heap_1 w.params).In s.heap := X.keeps F.keep
  have hh0 := h0
  obtain ⟨KL, TL, VL, o1, o2, o3, o4, o5, p, u, np, e1, e2, nr, nV, nM, es, ys, tvs, mvs, rest, ⟨f1, f2, f3, f4, f5, f6⟩, hn, J, JL, JM, S, hl1, hl2, hp0, hp1, hv, hc1, ⟨x2, hc2⟩, ⟨x3, hc3⟩, ⟨x4, hc4⟩, ⟨x5, hc5⟩, hV1, hV2⟩ := h0
  have F1 := frKnow F (Str.ofString "pan") _ f1
  dsimp only [law_for1, lawSt, lawCs, lawSc]
  refine wpAny_For ?_ (by intro _; rfl)
  clear F
  k_steps
  refine' held_open (law_cut ?qB ?qF ?qX ?qN ?qT ?qd ?qu hn J hI hlen S hp0 (by omega) (.inr (.inr rfl)) ?_)
  (case qF => k_asm)
  (case qN => k_asm)
  (case qB => k_asm)
  (case qX => k_asm)
  (case qT => k_asm)
  (case qd => first | k_room | omega)
  (case qu => first | k_units | omega)
  intro g1 tk1 r0 t0 u1 n1 F2 N2 hr0
  k_steps
  rename_i aR aF aN aK
  clear F1 N
  try clear F2
  try clear N2
  refine' for_range (J := LawI w L pn tA aA eD pD rL ML DS ws 1) (n := 3 + r0) ?qhh ?qgo aR ?qsm ?qsz aF aN ?qh0 ?qturn ?qdone
  (case qhh => rfl)
  (case qgo => intro I v s' Q' E' h; exact wpAny_pure h)
  (case qsm => exact (range_few hr0).1)
  (case qsz => exact (range_few hr0).2)
  (case qh0 => exact ⟨KL, TL, VL, o1, o2, o3, o4, o5, p + 1, u1, n1, e1, e2, nr, nV, nM, es, ys, tvs, mvs, rest, ⟨rfl, f2, f3, f4, f5, f6⟩, rfl, J, JL, JM, S, hl1, hl2, by omega, by omega, hv, hc1, ⟨x2, hc2⟩, ⟨x3, hc3⟩, ⟨x4, hc4⟩, ⟨x5, hc5⟩, hV1, hV2⟩)
  (case qdone =>
    intro g2 tk2 m1 news1 F3 N3 J3
    exact k _ g2 tk2 m1 news1 F3 N3 J3 (by omega))
  (case qturn =>
    rintro i u8 m1 news1 I oI g2 tk2 hi hJ0 F3 N3 off
    have e9 : (0 + (i : Int) : Int) = (i : Int) := by omega
    rw [e9]
    refine wpAny_assign_Name (wpAny_storeName_local rfl F3.ns (fun g4 n4 s4 => ?_) rfl)
    refine law_turn B (F3.set n4 s4) X (N3.set s4) T hdp hun rfl hJ0.turn (if_pos rfl) (by omega) off O hI hlen ?_
    intro h' tk' m' news' F6 N6 off6 J6
    exact ⟨h', tk', m', news', rfl, F6, N6, off6, J6⟩)
end

theorem off_B24 : True := by
  w_top off
  exact True.intro
/-! ## behind the main loop -/
structure FinJ (w : World) (L tA aA eD pD rL ML KL VL : Addr) (es : List Ent) (mvs : List Value) (R : List (Addr × Obj)) : Prop where
  hE : ∃ n, (eD, dictOf (ents w (es.map Ent.x)) n) ∈ R
  hr : ∃ n, (rL, lstO (es.map fun e => Value.ref e.pr) n) ∈ R
  hc1 : ∃ o1, (L + 1, o1) ∈ R ∧ o1.data = .cell (some (.ref VL))
  hV : ∃ n, (VL, lstO (es.map (·.v)) n) ∈ R
  hM : ∃ n, (ML, lstO mvs n) ∈ R
  hK : ∃ n, (KL, lstO (es.map (·.kv)) n) ∈ R
  hT : TabD w R tA 5 eD pD rL
  hA : ArrD w R aA 6
  D1 : DicM w R eD (es.map Ent.x)
  pr : ∀ e ∈ es, e.o ∈ R
  kv : ∀ e ∈ es, KeyV w R tA aA e.kv e.tg
  ok : ∀ e ∈ es, e.tg.ok
  allI : ∀ e ∈ es, ∃ (z : Int) (u : Tok), e.v = .int z u
  made : MadeJ w tA es.length mvs R
  few : es.length ≤ 11
  few2 : mvs.length ≤ 11
theorem FinJ.mono {w : World} {L tA aA eD pD rL ML KL VL : Addr} {es : List Ent} {mvs : List Value} {R R' : List (Addr × Obj)} (J : FinJ w L tA aA eD pD rL ML KL VL es mvs R) (hs : ∀ p ∈ R, p ∈ R') : FinJ w L tA aA eD pD rL ML KL VL es mvs R' :=
  ⟨let ⟨n, h⟩ := J.hE; ⟨n, hs _ h⟩, let ⟨n, h⟩ := J.hr; ⟨n, hs _ h⟩, let ⟨n, h, e⟩ := J.hc1; ⟨n, hs _ h, e⟩, let ⟨n, h⟩ := J.hV; ⟨n, hs _ h⟩, let ⟨n, h⟩ := J.hM; ⟨n, hs _ h⟩, let ⟨n, h⟩ := J.hK; ⟨n, hs _ h⟩,
    J.hT.mono hs, J.hA.mono hs, J.D1.mono hs, fun e he => hs _ (J.pr e he), fun e he => (J.kv e he).mono hs, J.ok, J.allI, J.made.mono hs (Nat.le_refl _), J.few, J.few2⟩
def lawG (tA KL ML : Addr) (m' : Str → Option Value) : Prop := m' (Str.ofString "table") = some (.ref tA) ∧ m' (Str.ofString "keys") = some (.ref KL) ∧ m' (Str.ofString "made") = some (.ref ML)
/-- the cells that the rest of the law stores -/
noncomputable abbrev lawC (L : Addr) (o2 o3 o4 o5 : Obj) (R : List (Addr × Obj)) : List (Addr × Obj) := (L + 1 + 1, o2) :: (L + 1 + 1 + 1, o3) :: (L + 1 + 1 + 1 + 1, o4) :: (L + 1 + 1 + 1 + 1 + 1, o5) :: R
def OffC (L : Addr) (R : List (Addr × Obj)) : Prop := ∀ p ∈ R, p.1 ≠ L + 1 + 1 ∧ p.1 ≠ L + 1 + 1 + 1 ∧ p.1 ≠ L + 1 + 1 + 1 + 1 ∧ p.1 ≠ L + 1 + 1 + 1 + 1 + 1
theorem law_fin {w : World} {h₀ h : Heap} {L pn tA aA eD pD rL ML DS : Addr} {ws : List Value} {n : Nat} {m' : Str → Option Value} {news : List (Addr × Obj)} (O : LawO L pn eD pD rL ML) (N : News h₀ L h news) (I : LawI w L pn tA aA eD pD rL ML DS ws 1 n m' news) (hn : n ≤ 11) :
    ∃ KL VL es mvs o2 o3 o4 o5 R, News h₀ L h (lawC L o2 o3 o4 o5 R) ∧ OffC L R ∧ FinJ w L tA aA eD pD rL ML KL VL es mvs R ∧ lawG tA KL ML m' ∧ (∃ x, o2.data = .cell x) ∧ (∃ x, o3.data = .cell x) ∧ (∃ x, o4.data = .cell x) ∧ ∃ x, o5.data = .cell x := by
  obtain ⟨KL, TL, VL, o1, o2, o3, o4, o5, p, u, np, e1, e2, nr, nV, nM, es, ys, tvs, mvs, rest, ⟨f1, f2, f3, f4, f5, f6⟩, rfl, J, JL, JM, S, hl1, hl2, hp0, hp1, hv, hc1, hc2, hc3, hc4, hc5, hV1, hV2⟩ := I
  obtain ⟨q1, q2, q3, q4, q5⟩ := O
  have hs : ∀ q ∈ rest, q ∈ (pn, lstO [.int p u, .ref DS] np) :: (eD, dictOf (ents w (es.map Ent.x)) e1) :: (pD, dictOf (ents w ys) e2) :: (rL, lstO (es.map fun e => Value.ref e.pr) nr) :: (L + 1, o1) :: (VL, lstO (es.map (·.v)) nV) :: (ML, lstO mvs nM) :: (es.map Ent.o ++ rest) := fun q hq => .tail _ (.tail _ (.tail _ (.tail _ (.tail _ (.tail _ (.tail _ (List.mem_append_right _ hq)))))))
  refine ⟨KL, VL, es, mvs, o2, o3, o4, o5, (pn, lstO [.int p u, .ref DS] np) :: (eD, dictOf (ents w (es.map Ent.x)) e1) :: (pD, dictOf (ents w ys) e2) :: (rL, lstO (es.map fun e => Value.ref e.pr) nr) :: (L + 1, o1) :: (VL, lstO (es.map (·.v)) nV) :: (ML, lstO mvs nM) :: (es.map Ent.o ++ rest), News.sub N ?_, ?_, ?_, ⟨f2, f4, f6⟩, hc2, hc3, hc4, hc5⟩
  · intro q hq
    simp only [lawC, lawL, lawMid, List.mem_cons, List.mem_append, List.not_mem_nil, or_false] at hq ⊢
    grind
  · have t2 := law_off S (a := L + 1 + 1) (by simp)
    have t3 := law_off S (a := L + 1 + 1 + 1) (by simp)
    have t4 := law_off S (a := L + 1 + 1 + 1 + 1) (by simp)
    have t5 := law_off S (a := L + 1 + 1 + 1 + 1 + 1) (by simp)
    intro q hq
    simp only [List.mem_cons] at hq
    rcases hq with rfl | rfl | rfl | rfl | rfl | rfl | rfl | hq
    iterate 7 (exact ⟨neN (by dsimp only; omega), neN (by dsimp only; omega), neN (by dsimp only; omega), neN (by dsimp only; omega)⟩)
    exact ⟨t2 q hq, t3 q hq, t4 q hq, t5 q hq⟩
  · exact ⟨⟨_, .tail _ (.head _)⟩, ⟨_, .tail _ (.tail _ (.tail _ (.head _)))⟩, ⟨o1, .tail _ (.tail _ (.tail _ (.tail _ (.head _)))), hc1⟩, ⟨_, .tail _ (.tail _ (.tail _ (.tail _ (.tail _ (.head _)))))⟩, ⟨_, .tail _ (.tail _ (.tail _ (.tail _ (.tail _ (.tail _ (.head _))))))⟩,
      let ⟨n, h⟩ := JL.hK; ⟨n, hs _ h⟩, J.hT.mono hs, J.hA.mono hs, J.D1.mono hs, fun e he => .tail _ (.tail _ (.tail _ (.tail _ (.tail _ (.tail _ (.tail _ (List.mem_append_left _ (List.mem_map_of_mem he)))))))), fun e he => (J.kv e he).mono hs, J.ok, hv, JM.mono hs (Nat.le_refl _), by omega, by omega⟩
section
variable {prog : Program} {w : World} {A : Around} {E : Value → Shared → Prop} {s : Shared} {cn : Str} {cs : Scope} {ccd : Value} {cl : List (Str × Addr)} {a : Addr} {h₀ : Heap} {L : Addr} {m : Str → Option Value}
theorem assign_cells {x1 x2 : Str} {p1 p2 pos : Pos} {k : Nat} {t c1 c2 : Addr} {v1 v2 : Value} {n : Nat} {o1 o2 : Obj} {y1 y2 : Option Value} {rest : List (Addr × Obj)} {Q : Unit → Shared → Prop} (hh : A.handled = none) (F : Fr h₀ L s.heap m) (N : News h₀ L s.heap ((c1, o1) :: (c2, o2) :: rest)) (ht : (t, tupO [v1, v2] n) ∈ rest)
    (hl1 : cl.lookup x1 = some c1) (hl2 : cl.lookup x2 = some c2) (h12 : c1 ≠ c2) (ho1 : ∀ p ∈ rest, p.1 ≠ c1) (ho2 : ∀ p ∈ rest, p.1 ≠ c2) (d1 : o1.data = .cell y1) (d2 : o2.data = .cell y2)
    (hQ : ∀ h' tk' o1' o2', Fr h₀ L h' m → News h₀ L h' ((c1, o1') :: (c2, o2') :: rest) → o1'.data = .cell (some v1) → o2'.data = .cell (some v2) → Q () { s with heap := h', toks := tk' })
    (hk : cs.kind = .function := by rfl) (hx1 : (envX cn cs L a ccd cl).kindOf x1 = some .cell := by rfl) (hx2 : (envX cn cs L a ccd cl).kindOf x2 = some .cell := by rfl) :
    wpAny (model prog w) A (assign (.Tuple [.Name x1 p1, .Name x2 p2] k pos) (envX cn cs L a ccd cl) (.ref t)) Q E s := by
  refine assign_Tuple_tuple hh (News.isTup N (.tail _ (.tail _ ht))) rfl rfl fun g he => ?_
  have up : ∀ c o, s.heap.get? c = some o → g.get? c = some o := fun c o e => he c o (Nat.ne_of_lt (Heap.lt_size e)) e
  refine assignInOrder_cons (wpAny_assign_Name (storeX_C (F.keeps up) (N.grown up) hl1 (.head (List.forall_mem_cons.mpr ⟨Ne.symm h12, ho1⟩)) d1 (fun g1 o1' F1 N1 e1 => ?_) hk hx1))
  refine assignInOrder_cons (wpAny_assign_Name (storeX_C F1 N1 hl2 (.tail h12 (.head ho2)) d2 (fun g2 o2' F2 N2 e2 => ?_) hk hx2))
  refine assignInOrder_nil ?_
  exact hQ g2 _ o1' o2' F2 N2 e1 e2
end

theorem off_B25 : True := by
  w_top off
  exact True.intro
noncomputable abbrev law_for2 : Stmt := lawSt.1.2.2.2.1
theorem items4 {prog : Program} {w : World} {a b c d : Scal} {items : List Value} (h : ItemsAre (scalKind prog w) [a, b, c, d] items) : ∃ v1 v2 v3 v4, items = [v1, v2, v3, v4] ∧ Scal.is a v1 = true ∧ Scal.is b v2 = true ∧ Scal.is c v3 = true ∧ Scal.is d v4 = true := by
  cases h with
  | cons h1 h => cases h with
    | cons h2 h => cases h with
      | cons h3 h => cases h with
        | cons h4 h => cases h with
          | nil => exact ⟨_, _, _, _, rfl, h1, h2, h3, h4⟩
theorem scal_kind {a : Scal} {v : Value} (h : Scal.is a v = true) : (∃ x t, v = .str x t) ∨ ∃ z t, v = .int z t := by
  cases a with
  | i n => obtain ⟨t, e⟩ := Scal.is_i h; exact .inr ⟨n, t, e⟩
  | s x => obtain ⟨t, e⟩ := Scal.is_s h; exact .inl ⟨x, t, e⟩
theorem sub_l3 {α : Type} {I A B C D : α} {R : List α} : ∀ p ∈ I :: A :: B :: C :: D :: R, p ∈ A :: B :: I :: C :: D :: R := by
  intro p hp
  simp only [List.mem_cons] at hp ⊢
  grind
theorem sub_l2 {α : Type} {I A B C D : α} {R : List α} : ∀ p ∈ A :: B :: I :: C :: D :: R, p ∈ I :: A :: B :: C :: D :: R := by
  intro p hp
  simp only [List.mem_cons] at hp ⊢
  grind
section
variable {w : World} {dp un : Nat} {gd : Option (List Code)} {cn : Str} {a : Addr} {ccd : Value} {outer : List Env} {A₀ : Around} {base h₀ : Heap} {L : Addr} {m : Str → Option Value} {news : List (Addr × Obj)} {s : Shared}
    {loose : List Str} {mean : ExcName → Option Value} {mg mb : Str → Option Value} {Q : Flow → Shared → Prop} {E : Value → Shared → Prop}
    (B : Below A₀ base outer h₀) (F : Fr h₀ L s.heap m) (X : (pre.heap_1 w.params).In h₀) (N : News h₀ L s.heap news) (T : Top pre.view_1 loose mean mg mb h₀) (hdp : dp < 820) (hun : un < 8500)
include B F X N T hdp hun
theorem law_loop2 {tA aA eD pD rL ML KL VL : Addr} {es : List Ent} {mvs : List Value} {o2 o3 o4 o5 : Obj} {R : List (Addr × Obj)} (hn : news = lawC L o2 o3 o4 o5 R) (off : OffC L R) (J : FinJ w L tA aA eD pD rL ML KL VL es mvs R) (hg : lawG tA KL ML m) (c2 : ∃ x, o2.data = .cell x) (c3 : ∃ x, o3.data = .cell x)
    (k : ∀ h' tk' m' o2' o3', Fr h₀ L h' m' → News h₀ L h' (lawC L o2' o3' o4 o5 R) → lawG tA KL ML m' → (∃ x, o2'.data = .cell x) → (∃ x, o3'.data = .cell x) → Q .next { s with heap := h', toks := tk' }) :
    wpAny (model (RowW.prog (OpenRow.toRowW (OpenLaw.row PySem.Challenge.rw_rh0225_01))) w) (ktrTop dp un gd cn lawCs L a ccd (lawCl L) outer) (exec law_for2 (envX cn lawCs L a ccd (lawCl L))) Q E s := by
  have X₁ : (pre.heap_1 w.params).In s.heap := X.keeps F.keep
  subst hn
  have F1 := frKnow F (Str.ofString "made") _ hg.2.2
  have hg1 : lawG tA KL ML (fun y => if y = Str.ofString "made" then some (Value.ref ML) else m y) := ⟨(if_neg (by decide)).trans hg.1, (if_neg (by decide)).trans hg.2.1, rfl⟩
  clear F
  dsimp only [law_for2, lawSt, lawCs, lawSc]
  refine wpAny_For ?_ (by intro _; rfl)
  k_steps
  obtain ⟨nM, hM⟩ := J.hM
  refine' for_list (its := mvs.toArray) (J := fun _ m₁ news₁ => m₁ = (fun y => if y = Str.ofString "made" then some (Value.ref ML) else m y) ∧ ∃ o2' o3', news₁ = lawC L o2' o3' o4 o5 R ∧ (∃ x, o2'.data = .cell x) ∧ ∃ x, o3'.data = .cell x) ?qhh ?qgo ?qS F1 N ⟨rfl, o2, o3, rfl, c2, c3⟩ ?qturn ?qdone
  (case qhh => rfl)
  (case qgo =>
    intro I v i s' Q' E' hv hi hq
    obtain ⟨mt, nm, n4, u5, u6, sp, e, _⟩ := J.made i v (by simpa using hv)
    exact go_tuple I v i s' Q' E' mt e hi hq)
  (case qS =>
    rintro i m1 n1 ⟨_, o2', o3', rfl, _⟩
    exact .inr ⟨_, .tail _ (.tail _ (.tail _ (.tail _ hM))), rfl, _, rfl⟩)
  (case qdone =>
    rintro g tk m1 n1 F3 N3 ⟨rfl, o2', o3', rfl, c2', c3'⟩
    exact k g tk _ o2' o3' F3 N3 hg1 c2' c3')
  (case qturn =>
    rintro i v m1 n1 I oI g tk hv ⟨rfl, o2', o3', rfl, ⟨y2, d2⟩, ⟨y3, d3⟩⟩ F3 N3 offI
    obtain ⟨mt, nm, n4, u5, u6, sp, rfl, hmt, hR, hsp⟩ := J.made i v (by simpa using hv)
    have hI2 : @Ne Nat (L + 1 + 1) I := offI _ (.head _)
    have hI3 : @Ne Nat (L + 1 + 1 + 1) I := offI _ (.tail _ (.head _))
    refine assign_cells (c1 := L + 1 + 1) (c2 := L + 1 + 1 + 1) rfl F3 (News.sub N3 sub_l2) (.tail _ (.tail _ (.tail _ hmt))) rfl rfl (neN (by omega)) ?qoff2 ?qoff3 d2 d3 fun g4 tk4 o2n o3n F4 N4 e2 e3 => ?_
    (case qoff2 => exact List.forall_mem_cons.mpr ⟨Ne.symm hI2, List.forall_mem_cons.mpr ⟨neN (by dsimp only; omega), List.forall_mem_cons.mpr ⟨neN (by dsimp only; omega), fun p hp => (off p hp).1⟩⟩⟩)
    (case qoff3 => exact List.forall_mem_cons.mpr ⟨Ne.symm hI3, List.forall_mem_cons.mpr ⟨neN (by dsimp only; omega), List.forall_mem_cons.mpr ⟨neN (by dsimp only; omega), fun p hp => (off p hp).2.1⟩⟩⟩)
    obtain ⟨e, he⟩ : ∃ e, es[sp]? = some e := ⟨es[sp], List.getElem?_eq_getElem hsp⟩
    obtain ⟨z9, uz9, ez9⟩ := J.allI e (List.mem_of_getElem? he)
    have h59 := J.pr e (List.mem_of_getElem? he)
    obtain ⟨tg, kv, mA, pr, v, ne⟩ := e
    dsimp only at ez9
    subst ez9
    replace h59 : (pr, lstO [kv, .int z9 uz9] ne) ∈ R := h59
    have h49 : (es.map fun e => Value.ref e.pr)[((sp : Nat) : Int).toNat]? = some (.ref pr) := by rw [Int.toNat_natCast, List.getElem?_map, he]; rfl
    have hv9 : (es.map (·.v))[((sp : Nat) : Int).toNat]? = some (.int z9 uz9) := by rw [Int.toNat_natCast, List.getElem?_map, he]; rfl
    have hT := J.hT
    have hA := J.hA
    have hfew := J.few
    obtain ⟨nr, hr⟩ := J.hr
    obtain ⟨o1, hc1, hd1⟩ := J.hc1
    obtain ⟨nV, hV⟩ := J.hV
    have hKV : KeyV w R tA aA (.ref nm) (.item sp) := ⟨nm, u6, rfl, hR⟩
    clear N3 F3 F1 N d2 d3
    k_steps
    · exact absurd rfl (by assumption : z9 ≠ z9)
    refine' held_open (cg_ListComp ?qF ?qclos ?qcell ?qkind ?qnames ?qh ?qhs)
    (case qF => k_asm)
    (case qclos => with_unfolding_all rfl)
    (case qcell => decide)
    (case qkind => rfl)
    (case qnames => decide)
    (case qhs => intro _; rfl)
    k_steps
    refine' held_open (call_tkey ?qB ?qF ?qX ?qN ?qT ?qd ?qu ?qK ?qTT ?qAA ?_)
    (case qF => k_asm)
    (case qN => k_asm)
    (case qB => k_asm)
    (case qX => k_asm)
    (case qT => k_asm)
    (case qd => first | k_room | omega)
    (case qu => first | k_units | omega)
    (case qK => exact KeyV.mono hKV (by ktr_rel))
    (case qTT => exact TabD.mono hT (by ktr_rel))
    (case qAA => exact ArrD.mono hA (by ktr_rel))
    intro g7 tk7 tx items nx F7 N7 l7 hI7
    obtain ⟨v1, v2, v3, v4, rfl, q1, q2, q3, q4⟩ := items4 hI7
    k_steps
    refine' held_open (cg_tup (its := [v1, v2, v3, v4]) (nl := nx) (J := fun _ ys news' => ys = [] ∧ news' = (tx, tupO [v1, v2, v3, v4] nx) :: (L + 1 + 1, o2n) :: (L + 1 + 1 + 1, o3n) :: (I, oI) :: (L + 1 + 1 + 1 + 1, o4) :: (L + 1 + 1 + 1 + 1 + 1, o5) :: R) ?qhh ?qF ?qN ?qgo ?qsrc ?qsize ?qJ0 ?qturn ?qfin)
    (case qhh => rfl)
    (case qF => k_asm)
    (case qN => k_asm)
    (case qgo => intro I i v s' Q' E' hv h; exact wpAny_pure h)
    (case qsrc => rintro i ys news' ⟨rfl, rfl⟩; exact ⟨.head _, Nat.zero_le _⟩)
    (case qsize => exact Nat.le_of_ble_eq_true rfl)
    (case qJ0 => exact ⟨rfl, rfl⟩)
    (case qturn =>
      rintro i9 v9 ys news9 wl C oC m9 D g9 tk9 E9 hi9 ⟨rfl, rfl⟩ hv99 hC F9 N9 p1 p2 hCD p3
      have hk9 : (∃ x t, v9 = .str x t) ∨ ∃ z t, v9 = .int z t := by
        have hm9 := List.mem_of_getElem? hv99
        simp only [List.mem_cons, List.not_mem_nil, or_false] at hm9
        rcases hm9 with rfl | rfl | rfl | rfl
        · exact scal_kind q1
        · exact scal_kind q2
        · exact scal_kind q3
        · exact scal_kind q4
      refine cg_name rfl rfl hC F9 N9 (fun p hp => ?_) fun g10 tk10 oC2 m10 hC2 hx2 F10 N10 => ?_
      · rcases List.mem_cons.mp hp with rfl | hp
        · exact Ne.symm hCD
        rcases List.mem_append.mp hp with hp | hp
        · exact (p2 p hp).1
        · exact (p1 p hp).1
      refine wpAny_tests_one ?_
      clear F9 N9 hC F7 N7
      rcases hk9 with ⟨x9, t9, rfl⟩ | ⟨x9, t9, rfl⟩
      · k_steps
        exact cg_end0 (by assumption) hC2 (News.sub (by assumption) fun p hp => .tail _ hp) p1 p3 ⟨rfl, rfl⟩
      · k_steps
        exact cg_end0 (by assumption) hC2 (News.sub (by assumption) fun p hp => .tail _ hp) p1 p3 ⟨rfl, rfl⟩)
    (case qfin =>
      rintro ys news9 ⟨rfl, rfl⟩ D9 h9 tk9 F9 N9 o9
      k_steps
      try clear F9
      try clear N9
      clear o9
      refine' held_open (cg_ListComp ?qF ?qclos ?qcell ?qkind ?qnames ?qh5 ?qhs)
      (case qF => k_asm)
      (case qclos => with_unfolding_all rfl)
      (case qcell => decide)
      (case qkind => rfl)
      (case qnames => decide)
      (case qhs => intro _; rfl)
      k_steps
      refine' held_open (cg_list (its := mvs) (nl := nM) (l := ML) (J := fun _ ys news' => ys = [] ∧ news' = (L + 1 + 1, o2n) :: (L + 1 + 1 + 1, o3n) :: (I, oI) :: (L + 1 + 1 + 1 + 1, o4) :: (L + 1 + 1 + 1 + 1 + 1, o5) :: R) ?qhh ?qF ?qN ?qgo ?qsrc ?qsize ?qJ0 ?qturn ?qfin)
      (case qhh => rfl)
      (case qF => k_asm)
      (case qN => exact News.sub (by assumption) fun p hp => .tail _ (.tail _ (.tail _ hp)))
      (case qgo =>
        intro I i v s' Q' E' hv hi hq
        obtain ⟨mt, nm, n4, u5, u6, sp, e, _⟩ := J.made i v hv
        exact go_tuple I v i s' Q' E' mt e hi hq)
      (case qsrc => rintro i ys news' ⟨rfl, rfl⟩; exact ⟨.tail _ (.tail _ (.tail _ (.tail _ (.tail _ hM)))), Nat.zero_le _⟩)
      (case qsize => have := J.few2; omega)
      (case qJ0 => exact ⟨rfl, rfl⟩)
      (case qturn =>
        rintro i9 v9 ys news9 wl C oC m9 D g9 tk9 E9 hi9 ⟨rfl, rfl⟩ hv99 hC F9 N9 p1 p2 hCD p3
        obtain ⟨mt2, nm2, n42, u52, u62, sp2, rfl, hmt2, hR2, hsp2⟩ := J.made i9 v9 hv99
        refine cg_pair rfl rfl rfl (by decide) rfl hC F9 N9 (fun p hp => ?_) (News.isTup N9 (.tail _ (.tail _ (List.mem_append_right _ (.tail _ (.tail _ (.tail _ (.tail _ (.tail _ hmt2))))))))) fun g10 tk10 oC2 m10 hC2 hx1 hx2 F10 N10 => ?_
        · rcases List.mem_cons.mp hp with rfl | hp
          · exact Ne.symm hCD
          rcases List.mem_append.mp hp with hp | hp
          · exact (p2 p hp).1
          · exact (p1 p hp).1
        refine wpAny_tests_one ?_
        clear F9 N9 hC
        k_steps
        refine' held_open (call_same_ref ?qB ?qF ?qX ?qN ?qT ?qd ?qu ?qh1 ?qh2 ?qt1 ?qt2 ?_)
        (case qF => k_asm)
        (case qN => k_asm)
        (case qB => k_asm)
        (case qX => k_asm)
        (case qT => k_asm)
        (case qd => first | k_room | omega)
        (case qu => first | k_units | omega)
        (case qh1 => exact RefD.mono hR (by ktr_rel))
        (case qh2 => exact RefD.mono hR2 (by ktr_rel))
        (case qt1 => exact TabD.mono hT (by ktr_rel))
        (case qt2 => exact TabD.mono hT (by ktr_rel))
        intro g11 tk11 F11 N11
        by_cases hq : sp2 = sp
        · subst hq
          have e9 : (decide ((sp2 : Int) = (sp2 : Int)) && decide ((5 : Int) = 5)) = true := by simp
          rw [e9]
          k_steps
          all_goals first
            | exact cg_end0 (by assumption) hC2 (by assumption) p1 p3 ⟨rfl, rfl⟩
            | exact absurd (by assumption : (true != ((sp2 : Int) == (sp2 : Int))) = true) (by simp)
        · have e9 : (decide ((sp : Int) = (sp2 : Int)) && decide ((5 : Int) = 5)) = false := by
            have : ¬ ((sp : Int) = (sp2 : Int)) := fun h => hq (by omega)
            simp [this]
          rw [e9]
          have e10 : ((sp2 : Int) == (sp : Int)) = false := by
            have : ¬ ((sp2 : Int) = (sp : Int)) := fun h => hq (by omega)
            simp [this]
          k_steps
          all_goals first
            | exact cg_end0 (by assumption) hC2 (by assumption) p1 p3 ⟨rfl, rfl⟩
            | exact absurd (by assumption : (false != ((sp2 : Int) == (sp : Int))) = true) (by rw [e10]; simp))
      (case qfin =>
        rintro ys news9 ⟨rfl, rfl⟩ D9 h9 tk9 F9 N9 o9
        k_steps
        exact ⟨_, _, _, lawC L o2n o3n o4 o5 R, rfl, by assumption, News.sub (by assumption) (fun p hp => .tail _ (.tail _ (sub_l3 p hp))), fun p hp => by
          rcases List.mem_cons.mp hp with rfl | hp
          · exact hI2
          rcases List.mem_cons.mp hp with rfl | hp
          · exact hI3
          · exact offI p (.tail _ (.tail _ hp)), rfl, o2n, o3n, rfl, ⟨_, e2⟩, ⟨_, e3⟩⟩)))
end

theorem off_B26 : True := by
  w_top off
  exact True.intro
section
open PySem.SeqAt
theorem all_tt (n : Nat) : ((List.range n).all fun _ => true) = true := List.all_eq_true.mpr fun _ _ => rfl
theorem scal_eqAt {A : Around} {s : Shared} {a : Scal} {v v' : Value} (h : Scal.is a v = true) (h' : Scal.is a v' = true) : EqAt A s v v' true := by
  cases a with
  | i n =>
    obtain ⟨t, rfl⟩ := Scal.is_i h; obtain ⟨t', rfl⟩ := Scal.is_i h'
    intro prog w' E Q hq
    exact wpAny_eqBool_int (by simpa using hq)
  | s x =>
    obtain ⟨t, rfl⟩ := Scal.is_s h; obtain ⟨t', rfl⟩ := Scal.is_s h'
    intro prog w' E Q hq
    exact wpAny_eqBool_str (by simpa using hq)
theorem itemsAre_get {prog : Program} {w : World} : ∀ {ks : List Scal} {is js : List Value}, ItemsAre (scalKind prog w) ks is → ItemsAre (scalKind prog w) ks js → is.length = js.length ∧ ∀ (j : Nat) (h1 : j < is.length) (h2 : j < js.length), ∃ a : Scal, Scal.is a is[j] = true ∧ Scal.is a js[j] = true
  | _, _, _, .nil, .nil => ⟨rfl, fun j h1 => absurd h1 (Nat.not_lt_zero j)⟩
  | _, _, _, .cons (k := k) h1 r1, .cons h2 r2 => by
    obtain ⟨e, f⟩ := itemsAre_get r1 r2
    refine ⟨by simp [e], fun j q1 q2 => ?_⟩
    cases j with
    | zero => exact ⟨k, h1, h2⟩
    | succ j => simpa using f j (by simpa using q1) (by simpa using q2)
section
variable {w : World} {A : Around} {E : Value → Shared → Prop} {s : Shared} {h₀ : Heap} {L : Addr} {news : List (Addr × Obj)} {prog : Program}
theorem ne_alike {l b : Addr} {vs : List Value} {n n2 : Nat} {Q : Value → Shared → Prop} (hu : A.units < cLine) (N : News h₀ L s.heap news) (hl : (l, lstO vs n) ∈ news) (hb : (b, lstO vs n2) ∈ news) (h : Q (.bool false) s) : wpAny (model prog w) A (compareOp .NotEq (.ref l) (.ref b)) Q E s := by
  refine RcNeAt.lists (e := fun _ => true) (News.isList N hl) (News.isList N hb) rfl hu (fun j _ _ => EqAt.same _) prog w E Q ?_
  rw [all_tt]; exact h
theorem eq_alike {l b : Addr} {vs : List Value} {n n2 : Nat} {Q : Value → Shared → Prop} (hu : A.units < cLine) (N : News h₀ L s.heap news) (hl : (l, lstO vs n) ∈ news) (hb : (b, lstO vs n2) ∈ news) (h : Q (.bool true) s) : wpAny (model prog w) A (compareOp .Eq (.ref l) (.ref b)) Q E s := by
  refine eq_listAt (e := fun _ => true) (News.isList N hl) (News.isList N hb) rfl hu (fun j _ _ => EqAt.same _) ?_
  rw [all_tt]; exact h
theorem ne_marks {prog' : Program} {w' : World} {l b : Addr} {ks : List Scal} {is js : List Value} {n n2 : Nat} {Q : Value → Shared → Prop} (hu : A.units < cLine) (N : News h₀ L s.heap news) (hi : ItemsAre (scalKind prog' w') ks is) (hj : ItemsAre (scalKind prog' w') ks js) (hl : (l, tupO is n) ∈ news) (hb : (b, tupO js n2) ∈ news) (h : Q (.bool false) s) : wpAny (model prog w) A (compareOp .NotEq (.ref l) (.ref b)) Q E s := by
  obtain ⟨e, f⟩ := itemsAre_get hi hj
  have hsz : is.toArray.size = js.toArray.size := by simpa using e
  refine RcNeAt.tuples (e := fun _ => true) (News.isTup N hl) (News.isTup N hb) hu (fun j h1 h2 => ?_) prog w E Q ?_
  · obtain ⟨a, q1, q2⟩ := f j (by simpa using h1) (by simpa using h2)
    exact scal_eqAt (by simpa using q1) (by simpa using q2)
  · rw [all_tt, hsz, beq_self_eq_true]; exact h
end
end
theorem same_obj {h₀ h : Heap} {L a : Addr} {l : List (Addr × Obj)} {o o' : Obj} (N : News h₀ L h l) (h1 : (a, o) ∈ l) (h2 : (a, o') ∈ l) : o = o' := Option.some.inj ((N.get h1).symm.trans (N.get h2))
theorem same_pair {a b c d : Value} {n n' : Nat} (h : lstO [a, b] n = lstO [c, d] n') : a = c ∧ b = d := by
  have := congrArg Obj.data h
  exact (by simpa using this : (a = c ∧ b = d) ∧ n = n').1

local macro_rules
  | `(tactic| walk_at "compareOp NotEq ref ref") => `(tactic| walk_at "hold")
  | `(tactic| walk_at "compareOp Eq ref ref") => `(tactic| walk_at "hold")
  | `(tactic| walk_at "subscriptTail Name Constant ref int") => `(tactic| walk_at "hold")
theorem off_B28 : True := by
  w_top off
  exact True.intro
/-! ## the copy -/
theorem ext_at {α β : Type} {es : List α} {a b : List β} (h : ∀ (j : Nat) (e : α), es[j]? = some e → a[j]? = b[j]?) (ha : a.length = es.length) (hb : b.length = es.length) : a = b := by
  apply List.ext_getElem?
  intro j
  by_cases hj : j < es.length
  · exact h j _ (List.getElem?_eq_getElem hj)
  · rw [List.getElem?_eq_none (by omega), List.getElem?_eq_none (by omega)]
noncomputable def capO (o : Obj) : Nat := match o.data with
  | .seq _ n => n
  | _ => 0
theorem copy_es {w : World} {h₀ h : Heap} {L : Addr} {news base own : List (Addr × Obj)} {es : List Ent} {r eD2 pD2 : Addr} {xs2 ys2 : List (List Scal × Addr × Value)} {vs2 : List Value} (N : News h₀ L h news) (hpr : ∀ e ∈ es, e.o ∈ news)
    (CJ : CopyJ w news base (es.map Ent.x) r eD2 pD2 own xs2 ys2 vs2 (es.map Ent.x).length) :
    ∃ es2 : List Ent, own = es2.map Ent.o ∧ xs2 = es2.map Ent.x ∧ vs2 = (es2.map fun e => Value.ref e.pr) ∧ es2.length = es.length ∧ es2.map (·.kv) = es.map (·.kv) ∧ es2.map (·.v) = es.map (·.v) ∧ es2.map (·.tg) = es.map (·.tg) ∧
      (∀ (j : Nat) (e : Ent), es2[j]? = some e → ∃ u : Tok, ys2[j]? = some (e.tg.key, e.mA, .int (j : Int) u)) ∧ (∀ e ∈ es2, @LT.lt Nat _ r e.pr) ∧ (es2.map (·.pr)).Nodup := by
  have hlen : (es.map Ent.x).length = es.length := List.length_map _
  have key : ∀ (j : Nat) (e : Ent), es[j]? = some e → ∃ (p2 : Addr) (n2 : Nat) (u : Tok), own[j]? = some (p2, lstO [e.kv, e.v] n2) ∧ xs2[j]? = some (e.tg.key, e.mA, .ref p2) ∧ ys2[j]? = some (e.tg.key, e.mA, .int (j : Int) u) ∧ vs2[j]? = some (.ref p2) := by
    intro j e he
    have hj : j < (es.map Ent.x).length := by rw [hlen]; exact (List.getElem?_eq_some_iff.mp he).1
    obtain ⟨p, p2, n, n2, kv, v, u, q1, q2, q3, q4, q5, q6⟩ := CJ.at' j e.x hj (by rw [List.getElem?_map, he]; rfl)
    have e1 : p = e.pr := by
      have : Value.ref e.pr = Value.ref p := q1
      cases this; rfl
    subst e1
    have e2 := same_pair (same_obj N q2 (hpr e (List.mem_of_getElem? he) : (e.pr, lstO [e.kv, e.v] e.n) ∈ news))
    rw [e2.1, e2.2] at q3
    exact ⟨p2, n2, u, q3, q4, q5, q6⟩
  have zl : ∀ (j : Nat) (e : Ent) (p2 : Addr) (n2 : Nat), es[j]? = some e → own[j]? = some (p2, lstO [e.kv, e.v] n2) → (List.zipWith (fun (e : Ent) (q : Addr × Obj) => (⟨e.tg, e.kv, e.mA, q.1, e.v, capO q.2⟩ : Ent)) es own)[j]? = some ⟨e.tg, e.kv, e.mA, p2, e.v, n2⟩ := by
    intro j e p2 n2 he ho
    rw [List.getElem?_zipWith, he, ho]
    rfl
  have zlen : (List.zipWith (fun (e : Ent) (q : Addr × Obj) => (⟨e.tg, e.kv, e.mA, q.1, e.v, capO q.2⟩ : Ent)) es own).length = es.length := by
    rw [List.length_zipWith, CJ.l1, hlen]; omega
  generalize hes2 : List.zipWith (fun (e : Ent) (q : Addr × Obj) => (⟨e.tg, e.kv, e.mA, q.1, e.v, capO q.2⟩ : Ent)) es own = es2 at zl zlen
  have eo : own = es2.map Ent.o := ext_at (es := es) (fun j e he => by
    obtain ⟨p2, n2, u, q1, q2, q3, q4⟩ := key j e he
    rw [q1, List.getElem?_map, zl j e p2 n2 he q1]; rfl) (by rw [CJ.l1, hlen]) (by rw [List.length_map, zlen])
  refine ⟨es2, eo, ext_at (es := es) (fun j e he => ?_) (by rw [CJ.l2, hlen]) (by rw [List.length_map, zlen]), ext_at (es := es) (fun j e he => ?_) (by rw [CJ.l4, hlen]) (by rw [List.length_map, zlen]), zlen, ext_at (es := es) (fun j e he => ?_) (by rw [List.length_map, zlen]) (by rw [List.length_map]), ext_at (es := es) (fun j e he => ?_) (by rw [List.length_map, zlen]) (by rw [List.length_map]), ext_at (es := es) (fun j e he => ?_) (by rw [List.length_map, zlen]) (by rw [List.length_map]), fun j e2 he2 => ?_, fun e2 he2 => ?_, ?_⟩
  · obtain ⟨p2, n2, u, q1, q2, q3, q4⟩ := key j e he
    rw [q2, List.getElem?_map, zl j e p2 n2 he q1]; rfl
  · obtain ⟨p2, n2, u, q1, q2, q3, q4⟩ := key j e he
    rw [q4, List.getElem?_map, zl j e p2 n2 he q1]; rfl
  · obtain ⟨p2, n2, u, q1, q2, q3, q4⟩ := key j e he
    rw [List.getElem?_map, zl j e p2 n2 he q1, List.getElem?_map, he]; rfl
  · obtain ⟨p2, n2, u, q1, q2, q3, q4⟩ := key j e he
    rw [List.getElem?_map, zl j e p2 n2 he q1, List.getElem?_map, he]; rfl
  · obtain ⟨p2, n2, u, q1, q2, q3, q4⟩ := key j e he
    rw [List.getElem?_map, zl j e p2 n2 he q1, List.getElem?_map, he]; rfl
  · have hj : j < es.length := by rw [← zlen]; exact (List.getElem?_eq_some_iff.mp he2).1
    have he := List.getElem?_eq_getElem hj
    obtain ⟨p2, n2, u, q1, q2, q3, q4⟩ := key j _ he
    rw [zl j _ p2 n2 he q1] at he2
    cases he2
    exact ⟨u, q3⟩
  · refine CJ.up e2.o ?_
    rw [eo]; exact List.mem_map_of_mem he2
  · have := CJ.nd
    rw [eo, ent_fst] at this
    exact this
/-- the copy, on what does not change -/
structure CopyS (w : World) (tB eD2 pD2 rL2 : Addr) (es es2 : List Ent) (ys2 : List (List Scal × Addr × Value)) (R : List (Addr × Obj)) : Prop where
  l : es2.length = es.length
  kv : es2.map (·.kv) = es.map (·.kv)
  v : es2.map (·.v) = es.map (·.v)
  tg : es2.map (·.tg) = es.map (·.tg)
  hT : TabD w R tB 9 eD2 pD2 rL2
  D1 : DicM w R eD2 (es2.map Ent.x)
  D2 : DicM w R pD2 ys2
  ya : ∀ (j : Nat) (e : Ent), es2[j]? = some e → ∃ u : Tok, ys2[j]? = some (e.tg.key, e.mA, .int (j : Int) u)
  yl : ys2.length = es2.length
  o1 : @LT.lt Nat _ eD2 pD2
  o2 : @LT.lt Nat _ pD2 rL2
  o3 : ∀ e ∈ es2, @LT.lt Nat _ rL2 e.pr
  nd : (es2.map (·.pr)).Nodup
  off : ∀ p ∈ R, p.1 ≠ eD2 ∧ p.1 ≠ pD2 ∧ p.1 ≠ rL2 ∧ p.1 ∉ es2.map (·.pr)
theorem CopyS.mono {w : World} {tB eD2 pD2 rL2 : Addr} {es es2 : List Ent} {ys2 : List (List Scal × Addr × Value)} {R R' : List (Addr × Obj)} (C : CopyS w tB eD2 pD2 rL2 es es2 ys2 R) (hs : ∀ p ∈ R, p ∈ R') (ho : ∀ p ∈ R', p.1 ≠ eD2 ∧ p.1 ≠ pD2 ∧ p.1 ≠ rL2 ∧ p.1 ∉ es2.map (·.pr)) : CopyS w tB eD2 pD2 rL2 es es2 ys2 R' :=
  ⟨C.l, C.kv, C.v, C.tg, C.hT.mono hs, C.D1.mono hs, C.D2.mono hs, C.ya, C.yl, C.o1, C.o2, C.o3, C.nd, ho⟩
/-- the ledger with the copy -/
noncomputable abbrev lawD (w : World) (L : Addr) (o2 o3 o4 o5 : Obj) (eD2 pD2 rL2 : Addr) (e1 e2 n2 : Nat) (es2 : List Ent) (ys2 : List (List Scal × Addr × Value)) (R : List (Addr × Obj)) : List (Addr × Obj) :=
  lawC L o2 o3 o4 o5 ((eD2, dictOf (ents w (es2.map Ent.x)) e1) :: (pD2, dictOf (ents w ys2) e2) :: (rL2, lstO (es2.map fun e => Value.ref e.pr) n2) :: (es2.map Ent.o ++ R))

theorem off_B29 : True := by
  w_top off
  exact True.intro
section
variable {w : World} {dp un : Nat} {gd : Option (List Code)} {cn : Str} {nm : List (Str × NameKind)} {ig ic : Bool} {mo : List (Str × Const)} {a : Addr} {ccd : Value} {cl : List (Str × Addr)} {outer : List Env} {A₀ : Around} {base h₀ : Heap} {L : Addr} {m : Str → Option Value} {news : List (Addr × Obj)} {s : Shared}
    {loose : List Str} {mean : ExcName → Option Value} {mg mb : Str → Option Value} {Q E : Value → Shared → Prop}
    (B : Below A₀ base outer h₀) (F : Fr h₀ L s.heap m) (X : (pre.heap_1 w.params).In h₀) (N : News h₀ L s.heap news) (T : Top pre.view_1 loose mean mg mb h₀) (hdp : dp < 840) (hun : un < 8600)
include B F X N T hdp hun
theorem law_item2 {tA aA eD pD rL tB eD2 pD2 rL2 kl : Addr} {e1 e2 n2 nk j : Nat} {uw : Tok} {o2 o3 o4 o5 : Obj} {es es2 : List Ent} {ys2 : List (List Scal × Addr × Value)} {top R : List (Addr × Obj)} {kv : Value} {e : Ent}
    (hn : news = top ++ lawD w L o2 o3 o4 o5 eD2 pD2 rL2 e1 e2 n2 es2 ys2 R) (C : CopyS w tB eD2 pD2 rL2 es es2 ys2 R) (hoff : ∀ p ∈ top, p.1 ≠ eD2 ∧ p.1 ≠ pD2 ∧ p.1 ≠ rL2) (hc : @LT.lt Nat _ (L + 1 + 1 + 1 + 1 + 1) eD2) (hA : ArrD w R aA 6) (hT0 : TabD w R tA 5 eD pD rL)
    (hkl : (kl, lstO [kv] nk) ∈ top) (hK : KeyV w R tA aA kv e.tg) (he : es2[j]? = some e) (hz : es2.length ≤ 900)
    (k : ∀ h' tk' x own e1' e2' n2' u', Fr h₀ L h' m → News h₀ L h' (top ++ lawD w L o2 o3 o4 o5 eD2 pD2 rL2 e1' e2' n2' es2 ys2 (own ++ R)) → RefD w own x (Str.ofString "item") (.ref tB) (.int (j : Int) u') → (∀ p ∈ news, ∀ q ∈ own, @LT.lt Nat _ p.1 q.1) → Q (.ref x) { s with heap := h', toks := tk' }) :
    wpAny (model (RowW.prog (OpenRow.toRowW (OpenLaw.row PySem.Challenge.rw_rh0225_01))) w) (ktrTop dp un gd cn ⟨.function, nm, ig, ic, mo⟩ L a ccd cl outer) (call (.ref 295) [.ref tB, .ref kl, .int 32 uw]) Q E s := by
  subst hn
  obtain ⟨u9, hy⟩ := C.ya j e he
  have k1 : atKey (es2.map Ent.x) e.tg.key = some (e.mA, .ref e.pr) := atKey_get C.D1.nodup (i := j) (by rw [List.getElem?_map, he]; rfl)
  have k2 : atKey ys2 e.tg.key = some (e.mA, .int (j : Int) u9) := atKey_get C.D2.nodup hy
  have hs : ∀ q ∈ R, q ∈ top ++ lawC L o2 o3 o4 o5 (es2.map Ent.o ++ R) := fun q hq => List.mem_append_right _ (.tail _ (.tail _ (.tail _ (.tail _ (List.mem_append_right _ hq)))))
  have hp1 := C.o1
  have hp2 := C.o2
  have offs : ∀ q ∈ top ++ lawC L o2 o3 o4 o5 (es2.map Ent.o ++ R), q.1 ≠ eD2 ∧ q.1 ≠ pD2 ∧ q.1 ≠ rL2 := by
    intro q hq
    rcases List.mem_append.mp hq with hq | hq
    · exact hoff q hq
    simp only [lawC, List.mem_cons, List.mem_append] at hq
    rcases hq with rfl | rfl | rfl | rfl | hq | hq
    iterate 4 (exact ⟨neN (by dsimp only; omega), neN (by dsimp only; omega), neN (by dsimp only; omega)⟩)
    · obtain ⟨e9, h9, rfl⟩ := List.mem_map.mp hq
      have h8 := C.o3 e9 h9
      exact ⟨neN (by dsimp only [Ent.o]; omega), neN (by dsimp only [Ent.o]; omega), neN (by dsimp only [Ent.o]; omega)⟩
    · exact ⟨(C.off q hq).1, (C.off q hq).2.1, (C.off q hq).2.2.1⟩
  have hsub : ∀ q ∈ (eD2, dictOf (ents w (es2.map Ent.x)) e1) :: (pD2, dictOf (ents w ys2) e2) :: (rL2, lstO (es2.map fun e => Value.ref e.pr) n2) :: (top ++ lawC L o2 o3 o4 o5 (es2.map Ent.o ++ R)), q ∈ top ++ lawD w L o2 o3 o4 o5 eD2 pD2 rL2 e1 e2 n2 es2 ys2 R := by
    intro q hq
    simp only [lawD, lawC, List.mem_cons, List.mem_append] at hq ⊢
    grind
  have hsub2 : ∀ q ∈ top ++ lawD w L o2 o3 o4 o5 eD2 pD2 rL2 e1 e2 n2 es2 ys2 R, q ∈ (eD2, dictOf (ents w (es2.map Ent.x)) e1) :: (pD2, dictOf (ents w ys2) e2) :: (rL2, lstO (es2.map fun e => Value.ref e.pr) n2) :: (top ++ lawC L o2 o3 o4 o5 (es2.map Ent.o ++ R)) := by
    intro q hq
    simp only [lawD, lawC, List.mem_cons, List.mem_append] at hq ⊢
    grind
  refine item_tab B F X (News.sub N hsub) T (by omega) (by omega) rfl (Nat.ne_of_lt hp1) (Nat.ne_of_lt (Nat.lt_trans hp1 hp2)) (Nat.ne_of_lt hp2) (fun q hq => (offs q hq).1) (fun q hq => (offs q hq).2.1) (fun q hq => (offs q hq).2.2) (C.hT.mono hs) (hT0.mono hs) (hA.mono hs) (C.D1.mono hs) (C.D2.mono hs) (.inr ⟨_, _, _, _, k1, k2⟩) (hK.mono hs) (List.mem_append_left _ hkl) (by rw [List.length_map]; omega) (by rw [C.yl]; omega) (by rw [List.length_map]; omega) ?_
  intro h' tk' x own xs' ys' vs' e1' e2' n' m2 i u' F' N' hP hR hl
  cases hP with
  | new q1 _ _ _ _ _ => rw [k1] at q1; cases q1
  | old q =>
    rw [k2] at q
    cases q
    refine k h' tk' x own e1' e2' n' u9 F' (News.sub N' ?_) hR fun p hp q hq => hl p (hsub2 p hp) q hq
    intro q hq
    simp only [lawD, lawC, List.mem_cons, List.mem_append] at hq ⊢
    grind
end
def NameJ (w : World) (L tB eD2 pD2 rL2 : Addr) (o2 o3 o4 o5 : Obj) (es2 : List Ent) (ys2 : List (List Scal × Addr × Value)) (R : List (Addr × Obj)) (i : Nat) (ys : List Value) (news' : List (Addr × Obj)) : Prop :=
  ∃ own' e1 e2 n2, news' = lawD w L o2 o3 o4 o5 eD2 pD2 rL2 e1 e2 n2 es2 ys2 (own' ++ R) ∧ ys.length = i ∧ (∀ (j : Nat) y, ys[j]? = some y → ∃ x u, y = .ref x ∧ RefD w own' x (Str.ofString "item") (.ref tB) (.int (j : Int) u)) ∧
    (∀ p ∈ lawD w L o2 o3 o4 o5 eD2 pD2 rL2 0 0 0 es2 ys2 R, ∀ q ∈ own', @LT.lt Nat _ p.1 q.1)

theorem off_B31 : True := by
  w_top off
  exact True.intro
theorem sub_s1 {α : Type} {E I a b c d e f g : α} {l1 l2 R : List α} : ∀ p ∈ E :: I :: a :: b :: c :: d :: e :: f :: g :: ((l1 ++ l2) ++ R), p ∈ I :: a :: b :: c :: d :: e :: f :: g :: ((l1 ++ E :: l2) ++ R) := by
  intro p hp
  simp only [List.mem_cons, List.mem_append] at hp ⊢
  grind
theorem sub_s2 {α : Type} {E I a b c d e f g : α} {l1 l2 R : List α} : ∀ p ∈ I :: a :: b :: c :: d :: e :: f :: g :: ((l1 ++ E :: l2) ++ R), p ∈ E :: I :: a :: b :: c :: d :: e :: f :: g :: ((l1 ++ l2) ++ R) := by
  intro p hp
  simp only [List.mem_cons, List.mem_append] at hp ⊢
  grind
theorem x_pr {es es' : List Ent} (h : es'.map Ent.x = es.map Ent.x) : es'.map (·.pr) = es.map (·.pr) := by
  have e : ∀ l : List Ent, l.map (·.pr) = (l.map Ent.x).map fun x => match x.2.2 with | .ref p => p | _ => 0 := by
    intro l
    rw [List.map_map]; rfl
  rw [e es', e es, h]
section
variable {w : World} {dp un : Nat} {gd : Option (List Code)} {cn : Str} {nm : List (Str × NameKind)} {ig ic : Bool} {mo : List (Str × Const)} {a : Addr} {ccd : Value} {cl : List (Str × Addr)} {outer : List Env} {A₀ : Around} {base h₀ : Heap} {L : Addr} {m : Str → Option Value} {news : List (Addr × Obj)} {s : Shared}
    {loose : List Str} {mean : ExcName → Option Value} {mg mb : Str → Option Value} {Q E : Value → Shared → Prop}
    (B : Below A₀ base outer h₀) (F : Fr h₀ L s.heap m) (X : (pre.heap_1 w.params).In h₀) (N : News h₀ L s.heap news) (T : Top pre.view_1 loose mean mg mb h₀) (hdp : dp < 840) (hun : un < 8600)
include B F X N T hdp hun
theorem law_set2 {tB eD2 pD2 rL2 x I : Addr} {oI : Obj} {e1 e2 n2 j : Nat} {o2 o3 o4 o5 : Obj} {es3 : List Ent} {ys2 : List (List Scal × Addr × Value)} {R : List (Addr × Obj)} {e : Ent} {u' : Tok} {z : Value}
    (hn : news = (I, oI) :: lawD w L o2 o3 o4 o5 eD2 pD2 rL2 e1 e2 n2 es3 ys2 R) (hTB : TabD w R tB 9 eD2 pD2 rL2) (hc : @LT.lt Nat _ (L + 1 + 1 + 1 + 1 + 1) eD2) (h1 : @LT.lt Nat _ eD2 pD2) (h2 : @LT.lt Nat _ pD2 rL2) (h3 : ∀ e ∈ es3, @LT.lt Nat _ rL2 e.pr) (hnd : (es3.map (·.pr)).Nodup) (hoff : ∀ p ∈ R, p.1 ∉ es3.map (·.pr)) (hI : I ∉ es3.map (·.pr))
    (hR : RefD w R x (Str.ofString "item") (.ref tB) (.int (j : Int) u')) (he : es3[j]? = some e) (hz : es3.length ≤ 900)
    (k : ∀ h' tk' n3, Fr h₀ L h' m → News h₀ L h' ((I, oI) :: lawD w L o2 o3 o4 o5 eD2 pD2 rL2 e1 e2 n2 (es3.set j (e.put z n3)) ys2 R) → Q .none { s with heap := h', toks := tk' }) :
    wpAny (model (RowW.prog (OpenRow.toRowW (OpenLaw.row PySem.Challenge.rw_rh0225_01))) w) (ktrTop dp un gd cn ⟨.function, nm, ig, ic, mo⟩ L a ccd cl outer) (call (.ref 309) [.ref x, z]) Q E s := by
  subst hn
  obtain ⟨l1, l2, rfl, rfl⟩ := split_get he
  have eo : (l1 ++ e :: l2).map Ent.o = l1.map Ent.o ++ e.o :: l2.map Ent.o := by simp
  have hj : (l1.length : Int) < 1000 := by simp at hz; omega
  have hpe := h3 e (by simp)
  have ep : ((l1 ++ e :: l2).map (·.pr)).Perm (e.pr :: (l1.map (·.pr) ++ l2.map (·.pr))) := by
    rw [List.map_append, List.map_cons]; exact List.perm_middle
  have hnd2 := List.nodup_cons.mp (ep.nodup_iff.mp hnd)
  have hs : ∀ q ∈ R, q ∈ (I, oI) :: lawC L o2 o3 o4 o5 ((eD2, dictOf (ents w ((l1 ++ e :: l2).map Ent.x)) e1) :: (pD2, dictOf (ents w ys2) e2) :: (rL2, lstO ((l1 ++ e :: l2).map fun e => Value.ref e.pr) n2) :: ((l1.map Ent.o ++ l2.map Ent.o) ++ R)) := fun q hq => .tail _ (.tail _ (.tail _ (.tail _ (.tail _ (.tail _ (.tail _ (.tail _ (List.mem_append_right _ hq))))))))
  refine call_sset B F X (News.sub (l' := e.o :: (I, oI) :: lawC L o2 o3 o4 o5 ((eD2, dictOf (ents w ((l1 ++ e :: l2).map Ent.x)) e1) :: (pD2, dictOf (ents w ys2) e2) :: (rL2, lstO ((l1 ++ e :: l2).map fun e => Value.ref e.pr) n2) :: ((l1.map Ent.o ++ l2.map Ent.o) ++ R))) N ?_) T (by omega) (by omega) rfl ?_ (hR.mono hs) (hTB.mono hs) (.tail _ (.tail _ (.tail _ (.tail _ (.tail _ (.tail _ (.tail _ (.head _)))))))) ?_ (by omega) hj fun h' tk' n3 F' N' => ?_
  · unfold lawD; rw [eo]; exact sub_s1
  · intro q hq
    simp only [lawC, List.mem_cons, List.mem_append] at hq
    have hm0 : e.pr ∈ (l1 ++ e :: l2).map (·.pr) := by simp
    rcases hq with rfl | rfl | rfl | rfl | rfl | rfl | rfl | rfl | (hq | hq) | hq
    · exact fun e9 => hI (by dsimp only at e9; rw [e9]; exact hm0)
    iterate 7 (exact neN (by dsimp only; omega))
    · obtain ⟨e9, h9, rfl⟩ := List.mem_map.mp hq
      exact fun e8 => hnd2.1 (List.mem_append_left _ (List.mem_map.mpr ⟨e9, h9, e8⟩))
    · obtain ⟨e9, h9, rfl⟩ := List.mem_map.mp hq
      exact fun e8 => hnd2.1 (List.mem_append_right _ (List.mem_map.mpr ⟨e9, h9, e8⟩))
    · exact fun e8 => hoff q hq (by rw [e8]; exact hm0)
  · rw [Int.toNat_natCast]; simp
  · have q1 : (l1 ++ e :: l2).set l1.length (e.put z n3) = l1 ++ e.put z n3 :: l2 := by simp
    refine k h' tk' n3 F' ?_
    unfold lawD
    rw [set_same (f := Ent.x) (e' := e.put z n3) he rfl, set_same (f := fun e => Value.ref e.pr) (e' := e.put z n3) he rfl, q1]
    have eo2 : (l1 ++ e.put z n3 :: l2).map Ent.o = l1.map Ent.o ++ (e.pr, lstO [e.kv, z] n3) :: l2.map Ent.o := by simp [Ent.o, Ent.put]
    rw [eo2]
    exact News.sub N' sub_s2
end

theorem off_B32 : True := by
  w_top off
  exact True.intro
abbrev LoopJ3 (w : World) (L eD2 pD2 rL2 : Addr) (o3 o4 o5 : Obj) (e1 e2 n2 : Nat) (es2 : List Ent) (ys2 : List (List Scal × Addr × Value)) (R : List (Addr × Obj)) (m : Str → Option Value) (i : Nat) (m₁ : Str → Option Value) (news₁ : List (Addr × Obj)) : Prop :=
  m = m₁ ∧ ∃ (o2' : Obj) (es3 : List Ent), (∃ x : Option Value, o2'.data = .cell x) ∧ news₁ = lawD w L o2' o3 o4 o5 eD2 pD2 rL2 e1 e2 n2 es3 ys2 R ∧ es3.map Ent.x = es2.map Ent.x ∧ ∀ (j : Nat) (e : Ent), j < i → es3[j]? = some e → ∃ u : Tok, e.v = .str (Str.ofString "new") u
noncomputable abbrev law_for3 : Stmt := lawSt.1.2.2.2.2.2.2.2.2.2.1
theorem lawD_fst2 {w : World} {L eD2 pD2 rL2 : Addr} {o2 o3 o4 o5 o2' o3' o4' o5' : Obj} {e1 e2 n2 e1' e2' n2' : Nat} {es2 es3 : List Ent} {ys2 : List (List Scal × Addr × Value)} {R : List (Addr × Obj)} {P : Addr → Prop} (hx : es3.map (·.pr) = es2.map (·.pr)) (h : ∀ p ∈ lawD w L o2 o3 o4 o5 eD2 pD2 rL2 e1 e2 n2 es2 ys2 R, P p.1) : ∀ p ∈ lawD w L o2' o3' o4' o5' eD2 pD2 rL2 e1' e2' n2' es3 ys2 R, P p.1 := by
  intro p hp
  simp only [lawD, lawC, List.mem_cons, List.mem_append] at hp h
  rcases hp with rfl | rfl | rfl | rfl | rfl | rfl | rfl | hp | hp
  · exact h (_, o2) (by simp)
  · exact h (_, o3) (by simp)
  · exact h (_, o4) (by simp)
  · exact h (_, o5) (by simp)
  · exact h (eD2, dictOf (ents w (es2.map Ent.x)) e1) (.inr (.inr (.inr (.inr (.inl rfl)))))
  · exact h (pD2, dictOf (ents w ys2) e2) (.inr (.inr (.inr (.inr (.inr (.inl rfl))))))
  · exact h (rL2, lstO (es2.map fun e => Value.ref e.pr) n2) (.inr (.inr (.inr (.inr (.inr (.inr (.inl rfl)))))))
  · obtain ⟨e, he, rfl⟩ := List.mem_map.mp hp
    have hm : e.pr ∈ es2.map (·.pr) := by rw [← hx]; exact List.mem_map_of_mem he
    obtain ⟨e', he', q⟩ := List.mem_map.mp hm
    have := h e'.o (.inr (.inr (.inr (.inr (.inr (.inr (.inr (.inl (List.mem_map_of_mem he')))))))))
    show P e.pr
    rw [← q]; exact this
  · exact h p (.inr (.inr (.inr (.inr (.inr (.inr (.inr (.inr hp))))))))
theorem sub_f3 {α : Type} {I a b c d : α} {R : List α} : ∀ p ∈ a :: I :: b :: c :: d :: R, p ∈ I :: a :: b :: c :: d :: R := by
  intro p hp
  simp only [List.mem_cons] at hp ⊢
  grind
theorem sub_f3' {α : Type} {I a b c d : α} {R : List α} : ∀ p ∈ I :: a :: b :: c :: d :: R, p ∈ a :: I :: b :: c :: d :: R := by
  intro p hp
  simp only [List.mem_cons] at hp ⊢
  grind
section
variable {w : World} {dp un : Nat} {gd : Option (List Code)} {cn : Str} {a : Addr} {ccd : Value} {outer : List Env} {A₀ : Around} {base h₀ : Heap} {L : Addr} {m : Str → Option Value} {news : List (Addr × Obj)} {s : Shared}
    {loose : List Str} {mean : ExcName → Option Value} {mg mb : Str → Option Value} {Q : Flow → Shared → Prop} {E : Value → Shared → Prop}
    (B : Below A₀ base outer h₀) (F : Fr h₀ L s.heap m) (X : (pre.heap_1 w.params).In h₀) (N : News h₀ L s.heap news) (T : Top pre.view_1 loose mean mg mb h₀) (hdp : dp < 820) (hun : un < 8500)
include B F X N T hdp hun
theorem law_loop3 {tA KL ML tB eD2 pD2 rL2 NL : Addr} {es2 : List Ent} {ys2 : List (List Scal × Addr × Value)} {nms : List Value} {nL : Nat} {o2 o3 o4 o5 : Obj} {e1 e2 n2 : Nat} {R : List (Addr × Obj)} (hn : news = lawD w L o2 o3 o4 o5 eD2 pD2 rL2 e1 e2 n2 es2 ys2 R) (off : OffC L R) (hTB : TabD w R tB 9 eD2 pD2 rL2) (hc : @LT.lt Nat _ (L + 1 + 1 + 1 + 1 + 1) eD2) (h1 : @LT.lt Nat _ eD2 pD2) (h2 : @LT.lt Nat _ pD2 rL2) (h3 : ∀ e ∈ es2, @LT.lt Nat _ rL2 e.pr) (hnd : (es2.map (·.pr)).Nodup) (hoff : ∀ p ∈ R, p.1 ∉ es2.map (·.pr))
    (hNL : (NL, lstO nms nL) ∈ R) (hlen : nms.length = es2.length) (hfew : es2.length ≤ 11) (hnm : ∀ (j : Nat) (y : Value), nms[j]? = some y → ∃ x u, y = Value.ref x ∧ RefD w R x (Str.ofString "item") (.ref tB) (.int (j : Int) u)) (hd5 : o5.data = .cell (some (.ref NL))) (hg : lawG tA KL ML m) (c2 : ∃ x, o2.data = .cell x)
    (k : ∀ h' tk' m' o2' es3, Fr h₀ L h' m' → News h₀ L h' (lawD w L o2' o3 o4 o5 eD2 pD2 rL2 e1 e2 n2 es3 ys2 R) → lawG tA KL ML m' → es3.map Ent.x = es2.map Ent.x → (∀ e ∈ es3, ∃ u : Tok, e.v = .str (Str.ofString "new") u) → Q .next { s with heap := h', toks := tk' }) :
    wpAny (model (RowW.prog (OpenRow.toRowW (OpenLaw.row PySem.Challenge.rw_rh0225_01))) w) (ktrTop dp un gd cn lawCs L a ccd (lawCl L) outer) (exec law_for3 (envX cn lawCs L a ccd (lawCl L))) Q E s := by
  have X₁ : (pre.heap_1 w.params).In s.heap := X.keeps F.keep
  subst hn
  dsimp only [law_for3, lawSt, lawCs, lawSc]
  obtain ⟨y0, d0⟩ := c2
  refine wpAny_For ?_ (by intro _; rfl)
  k_steps
  refine' for_list (l := NL) (its := nms.toArray) (J := LoopJ3 w L eD2 pD2 rL2 o3 o4 o5 e1 e2 n2 es2 ys2 R m) ?qhh ?qgo ?qS F N ⟨rfl, o2, es2, ⟨y0, d0⟩, rfl, rfl, fun j _ hj => absurd hj (Nat.not_lt_zero j)⟩ ?qturn ?qdone
  (case qhh => rfl)
  (case qgo => intro I v i s' Q' E' hv hi hq; exact go_name hi hq)
  (case qS =>
    rintro i m1 n1 ⟨_, o2', es3, _, rfl, _⟩
    exact .inr ⟨_, .tail _ (.tail _ (.tail _ (.tail _ (.tail _ (.tail _ (.tail _ (List.mem_append_right _ hNL))))))), rfl, _, rfl⟩)
  (case qdone =>
    rintro g tk m1 n1 F3 N3 ⟨rfl, o2', es3, c2', rfl, hx, hv⟩
    have hl3 : es3.length = es2.length := by have := congrArg List.length hx; simpa using this
    refine k g tk _ o2' es3 F3 N3 hg hx fun e he => ?_
    obtain ⟨j, hj, e9⟩ := List.mem_iff_getElem.mp he
    exact hv j e (by simp; omega) (by rw [List.getElem?_eq_getElem hj, e9]))
  (case qturn =>
    rintro i v m1 n1 I oI g tk hv ⟨rfl, o2', es3, ⟨y2, d2⟩, rfl, hx, hvv⟩ F3 N3 offI
    have hl3 : es3.length = es2.length := by have := congrArg List.length hx; simpa using this
    have hpr := x_pr hx
    obtain ⟨x, ux, rfl, hRx⟩ := hnm i v (by simpa using hv)
    have hi : i < es3.length := by
      have hv' : nms[i]? = some (.ref x) := by simpa using hv
      have := (List.getElem?_eq_some_iff.mp hv').1
      omega
    obtain ⟨e, he⟩ : ∃ e, es3[i]? = some e := ⟨_, List.getElem?_eq_getElem hi⟩
    have hI2 : @Ne Nat (L + 1 + 1) I := offI _ (.head _)
    have h33 : ∀ e ∈ es3, @LT.lt Nat _ rL2 e.pr := by
      intro e9 h9
      have : e9.pr ∈ es2.map (·.pr) := by rw [← hpr]; exact List.mem_map_of_mem h9
      obtain ⟨e8, h8, q⟩ := List.mem_map.mp this
      rw [← q]; exact h3 e8 h8
    have hIpr : I ∉ es3.map (·.pr) := by
      intro hm
      obtain ⟨e9, h9, q⟩ := List.mem_map.mp hm
      exact offI e9.o (.tail _ (.tail _ (.tail _ (.tail _ (.tail _ (.tail _ (.tail _ (List.mem_append_left _ (List.mem_map_of_mem h9))))))))) q
    refine wpAny_assign_Name (storeX_C F3 (News.sub N3 sub_f3) rfl (.head ?qU) d2 (fun g4 o2n F4 N4 d4 => ?_) rfl rfl)
    (case qU =>
      refine List.forall_mem_cons.mpr ⟨Ne.symm hI2, List.forall_mem_cons.mpr ⟨neN (by dsimp only; omega), List.forall_mem_cons.mpr ⟨neN (by dsimp only; omega), List.forall_mem_cons.mpr ⟨neN (by dsimp only; omega), List.forall_mem_cons.mpr ⟨neN (by dsimp only; omega), List.forall_mem_cons.mpr ⟨neN (by dsimp only; omega), List.forall_mem_cons.mpr ⟨neN (by dsimp only; omega), fun p hp => ?_⟩⟩⟩⟩⟩⟩⟩
      rcases List.mem_append.mp hp with hp | hp
      · obtain ⟨e9, h9, rfl⟩ := List.mem_map.mp hp
        have := h33 e9 h9
        exact neN (by dsimp only [Ent.o]; omega)
      · exact (off p hp).1)
    have N5 : News h₀ L g4 ((I, oI) :: lawD w L o2n o3 o4 o5 eD2 pD2 rL2 e1 e2 n2 es3 ys2 R) := News.sub N4 sub_f3'
    clear N4 N3 F3 N
    show wpAny _ _ (execs _ _) _ _ _
    k_steps
    refine' held_open (law_set2 ?qB ?qF ?qX ?qN ?qT ?qd ?qu rfl hTB hc h1 h2 h33 (by rw [hpr]; exact hnd) (by rw [hpr]; exact hoff) hIpr hRx he (by omega) ?_)
    (case qF => k_asm)
    (case qN => k_asm)
    (case qB => k_asm)
    (case qX => k_asm)
    (case qT => k_asm)
    (case qd => first | k_room | omega)
    (case qu => first | k_units | omega)
    intro g6 tk6 n3 F6 N6
    k_steps
    refine ⟨g6, tk6, _, _, rfl, F6, N6, ?_, rfl, o2n, _, ⟨_, d4⟩, rfl, by rw [set_same (f := Ent.x) (e' := e.put _ n3) he rfl]; exact hx, ?_⟩
    · exact lawD_fst2 (P := fun b => b ≠ I) (by rw [set_same (f := fun e => e.pr) (e' := e.put _ n3) he rfl]) offI
    · intro j e9 hj h9
      by_cases hji : j = i
      · subst hji
        rw [List.getElem?_set_self hi] at h9
        cases h9
        exact ⟨_, rfl⟩
      · rw [List.getElem?_set_ne (Ne.symm hji)] at h9
        exact hvv j e9 (by omega) h9)
end

theorem off_B30 : True := by
  w_top off
  exact True.intro
noncomputable abbrev law_d8 : List Stmt := [lawSt.1.2.2.2.2.2.2.2.1, lawSt.1.2.2.2.2.2.2.2.2.1, lawSt.1.2.2.2.2.2.2.2.2.2.1, lawSt.1.2.2.2.2.2.2.2.2.2.2]
theorem lawD_fst {w : World} {L eD2 pD2 rL2 : Addr} {o2 o3 o4 o5 o2' o3' o4' o5' : Obj} {e1 e2 n2 e1' e2' n2' : Nat} {es2 : List Ent} {ys2 : List (List Scal × Addr × Value)} {R : List (Addr × Obj)} {P : Addr → Prop} (h : ∀ p ∈ lawD w L o2 o3 o4 o5 eD2 pD2 rL2 e1 e2 n2 es2 ys2 R, P p.1) : ∀ p ∈ lawD w L o2' o3' o4' o5' eD2 pD2 rL2 e1' e2' n2' es2 ys2 R, P p.1 := by
  intro p hp
  simp only [lawD, lawC, List.mem_cons, List.mem_append] at hp h
  rcases hp with rfl | rfl | rfl | rfl | rfl | rfl | rfl | hp
  · exact h (_, o2) (by simp)
  · exact h (_, o3) (by simp)
  · exact h (_, o4) (by simp)
  · exact h (_, o5) (by simp)
  · exact h (eD2, dictOf (ents w (es2.map Ent.x)) e1) (.inr (.inr (.inr (.inr (.inl rfl)))))
  · exact h (pD2, dictOf (ents w ys2) e2) (.inr (.inr (.inr (.inr (.inr (.inl rfl))))))
  · exact h (rL2, lstO (es2.map fun e => Value.ref e.pr) n2) (.inr (.inr (.inr (.inr (.inr (.inr (.inl rfl)))))))
  · exact h p (.inr (.inr (.inr (.inr (.inr (.inr (.inr hp)))))))
theorem sub_nm {α : Type} {D a b c d e f g : α} {l r : List α} : ∀ p ∈ a :: b :: c :: d :: e :: f :: g :: (l ++ D :: r), p ∈ D :: a :: b :: c :: d :: e :: f :: g :: (l ++ r) := by
  intro p hp
  simp only [List.mem_cons, List.mem_append] at hp ⊢
  grind
theorem CopyS.own {w : World} {L tB eD2 pD2 rL2 : Addr} {o2 o3 o4 o5 : Obj} {es es2 : List Ent} {ys2 : List (List Scal × Addr × Value)} {own' R : List (Addr × Obj)} (C : CopyS w tB eD2 pD2 rL2 es es2 ys2 R) (hf : ∀ p ∈ lawD w L o2 o3 o4 o5 eD2 pD2 rL2 0 0 0 es2 ys2 R, ∀ q ∈ own', @LT.lt Nat _ p.1 q.1) : CopyS w tB eD2 pD2 rL2 es es2 ys2 (own' ++ R) := by
  refine C.mono (fun p hp => List.mem_append_right _ hp) fun p hp => ?_
  rcases List.mem_append.mp hp with hp | hp
  · refine ⟨Nat.ne_of_gt (hf (eD2, dictOf (ents w (es2.map Ent.x)) 0) (.tail _ (.tail _ (.tail _ (.tail _ (.head _))))) p hp), Nat.ne_of_gt (hf (pD2, dictOf (ents w ys2) 0) (.tail _ (.tail _ (.tail _ (.tail _ (.tail _ (.head _)))))) p hp), Nat.ne_of_gt (hf (rL2, lstO (es2.map fun e => Value.ref e.pr) 0) (.tail _ (.tail _ (.tail _ (.tail _ (.tail _ (.tail _ (.head _))))))) p hp), fun hm => ?_⟩
    obtain ⟨e, he, e9⟩ := List.mem_map.mp hm
    have := hf e.o (.tail _ (.tail _ (.tail _ (.tail _ (.tail _ (.tail _ (.tail _ (List.mem_append_left _ (List.mem_map_of_mem he))))))))) p hp
    exact Nat.ne_of_lt this e9
  · exact C.off p hp
theorem OffC.own {w : World} {L eD2 pD2 rL2 : Addr} {o2 o3 o4 o5 : Obj} {es2 : List Ent} {ys2 : List (List Scal × Addr × Value)} {own' R : List (Addr × Obj)} (C : OffC L R) (hf : ∀ p ∈ lawD w L o2 o3 o4 o5 eD2 pD2 rL2 0 0 0 es2 ys2 R, ∀ q ∈ own', @LT.lt Nat _ p.1 q.1) : OffC L (own' ++ R) := by
  intro p hp
  rcases List.mem_append.mp hp with hp | hp
  · exact ⟨Nat.ne_of_gt (hf (_, o2) (.head _) p hp), Nat.ne_of_gt (hf (_, o3) (.tail _ (.head _)) p hp), Nat.ne_of_gt (hf (_, o4) (.tail _ (.tail _ (.head _))) p hp), Nat.ne_of_gt (hf (_, o5) (.tail _ (.tail _ (.tail _ (.head _)))) p hp)⟩
  · exact C p hp
theorem pick {α β : Type} : ∀ (l : List α) (P : Nat → α → β → Prop), (∀ (j : Nat) (a : α), l[j]? = some a → ∃ b, P j a b) → ∃ bs : List β, bs.length = l.length ∧ ∀ (j : Nat) (a : α), l[j]? = some a → ∃ b, bs[j]? = some b ∧ P j a b
  | [], _, _ => ⟨[], rfl, fun j a h => by simp at h⟩
  | x :: l, P, h => by
    obtain ⟨b, hb⟩ := h 0 x rfl
    obtain ⟨bs, e, f⟩ := pick l (fun j => P (j + 1)) fun j a hj => h (j + 1) a (by simpa using hj)
    refine ⟨b :: bs, by simp [e], fun j a hj => ?_⟩
    cases j with
    | zero => simp at hj; subst hj; exact ⟨b, rfl, hb⟩
    | succ j => simpa using f j a (by simpa using hj)
section
variable {w : World} {dp un : Nat} {gd : Option (List Code)} {cn : Str} {a : Addr} {ccd : Value} {outer : List Env} {A₀ : Around} {base h₀ : Heap} {L : Addr} {m : Str → Option Value} {news : List (Addr × Obj)} {s : Shared}
    {loose : List Str} {mean : ExcName → Option Value} {mg mb : Str → Option Value} {Q : Flow → Shared → Prop} {E : Value → Shared → Prop}
    (B : Below A₀ base outer h₀) (F : Fr h₀ L s.heap m) (X : (pre.heap_1 w.params).In h₀) (N : News h₀ L s.heap news) (T : Top pre.view_1 loose mean mg mb h₀) (hdp : dp < 820) (hun : un < 8500)
include B F X N T hdp hun
theorem law_rest2 {tA aA eD pD rL ML KL VL tB eD2 pD2 rL2 : Addr} {es es2 : List Ent} {ys2 : List (List Scal × Addr × Value)} {mvs : List Value} {o2 o3 o4 o5 : Obj} {e1 e2 n2 : Nat} {R : List (Addr × Obj)} (hn : news = lawD w L o2 o3 o4 o5 eD2 pD2 rL2 e1 e2 n2 es2 ys2 R) (off : OffC L R) (J : FinJ w L tA aA eD pD rL ML KL VL es mvs R) (C : CopyS w tB eD2 pD2 rL2 es es2 ys2 R) (hc : @LT.lt Nat _ (L + 1 + 1 + 1 + 1 + 1) eD2) (hg : lawG tA KL ML m) (c2 : ∃ x, o2.data = .cell x) (hd4 : o4.data = .cell (some (.ref tB))) (c5 : ∃ x, o5.data = .cell x)
    (k : ∀ h' tk' m' news', Fr h₀ L h' m' → News h₀ L h' news' → Q (.ret (.bool true)) { s with heap := h', toks := tk' }) :
    wpAny (model (RowW.prog (OpenRow.toRowW (OpenLaw.row PySem.Challenge.rw_rh0225_01))) w) (ktrTop dp un gd cn lawCs L a ccd (lawCl L) outer) (execs law_d8 (envX cn lawCs L a ccd (lawCl L))) Q E s := by
  have X₁ : (pre.heap_1 w.params).In s.heap := X.keeps F.keep
  subst hn
  have F1 := frKnow (frKnow (frKnow F _ _ hg.1) _ _ ((if_neg (by decide)).trans hg.2.1)) _ _ (((if_neg (by decide)).trans (if_neg (by decide))).trans hg.2.2)
  clear F
  dsimp only [law_d8, lawSt, lawCs, lawSc]
  obtain ⟨nE, hE⟩ := J.hE
  obtain ⟨nM, hM⟩ := J.hM
  obtain ⟨nK, hK⟩ := J.hK
  obtain ⟨nV, hV⟩ := J.hV
  obtain ⟨nr, hr⟩ := J.hr
  obtain ⟨o1, hc1, hd1⟩ := J.hc1
  have hT := J.hT
  have hA := J.hA
  have hfew := J.few
  have hl2 := C.l
  k_steps
  refine held_open (wpAny_Assign_Name ?_ rfl)
  refine' (cg_ListComp ?qF ?qclos ?qcell ?qkind ?qnames ?qh ?qhs)
  (case qF => k_asm)
  (case qclos => with_unfolding_all rfl)
  (case qcell => decide)
  (case qkind => rfl)
  (case qnames => decide)
  (case qhs => intro _; rfl)
  k_steps
  refine' held_open (cg_list (its := es.map (·.kv)) (nl := nK) (l := KL) (J := NameJ w L tB eD2 pD2 rL2 o2 o3 o4 o5 es2 ys2 R) ?qhh ?qF ?qN ?qgo ?qsrc ?qsize ?qJ0 ?qturn ?qfinA)
  (case qhh => rfl)
  (case qF => k_asm)
  (case qN => k_asm)
  (case qgo => intro I i v s' Q' E' hv hi hq; exact go_name hi hq)
  (case qsrc => rintro i ys news' ⟨own', f1, f2, f3, rfl, hl, _⟩; exact ⟨.tail _ (.tail _ (.tail _ (.tail _ (.tail _ (.tail _ (.tail _ (List.mem_append_right _ (List.mem_append_right _ hK)))))))), Nat.le_of_eq hl⟩)
  (case qsize => rw [List.length_map]; omega)
  (case qJ0 => exact ⟨[], e1, e2, n2, rfl, rfl, fun j y h => by simp at h, fun _ _ _ h => absurd h List.not_mem_nil⟩)
  (case qturn =>
    rintro i9 v9 ys news9 wl CC oC m9 D g9 tk9 E9 hi9 ⟨own', f1, f2, f3, rfl, hyl, hya, hyf⟩ hv99 hC F9 N9 p1 p2 hCD p3
    rw [List.getElem?_map] at hv99
    obtain ⟨e0, he0, rfl⟩ : ∃ e, es[i9]? = some e ∧ v9 = e.kv := by
      cases h : es[i9]? with
      | none => rw [h] at hv99; cases hv99
      | some e => rw [h] at hv99; exact ⟨e, rfl, (Option.some.inj hv99).symm⟩
    have hi2 : i9 < es2.length := by rw [hl2]; exact (List.getElem?_eq_some_iff.mp he0).1
    have he2 := List.getElem?_eq_getElem hi2
    have htg : (es2[i9]).tg = e0.tg := by
      have h1 := congrArg (·[i9]?) C.tg
      simp only [List.getElem?_map, he2, he0, Option.map_some, Option.some.injEq] at h1
      exact h1
    have hKV := J.kv e0 (List.mem_of_getElem? he0)
    refine cg_name rfl rfl hC F9 N9 (fun p hp => ?_) fun g10 tk10 oC2 m10 hC2 hx1 F10 N10 => ?_
    · rcases List.mem_cons.mp hp with rfl | hp
      · exact Ne.symm hCD
      rcases List.mem_append.mp hp with hp | hp
      · exact (p2 p hp).1
      · exact (p1 p hp).1
    refine wpAny_tests_nil ?_
    clear F9 N9 hC
    k_steps
    rename_i kl gk Fk Nk lk
    have mE : (eD2, dictOf (ents w (es2.map Ent.x)) f1) ∈ lawD w L o2 o3 o4 o5 eD2 pD2 rL2 f1 f2 f3 es2 ys2 (own' ++ R) := .tail _ (.tail _ (.tail _ (.tail _ (.head _))))
    have mP : (pD2, dictOf (ents w ys2) f2) ∈ lawD w L o2 o3 o4 o5 eD2 pD2 rL2 f1 f2 f3 es2 ys2 (own' ++ R) := .tail _ (.tail _ (.tail _ (.tail _ (.tail _ (.head _)))))
    have mR : (rL2, lstO (es2.map fun e => Value.ref e.pr) f3) ∈ lawD w L o2 o3 o4 o5 eD2 pD2 rL2 f1 f2 f3 es2 ys2 (own' ++ R) := .tail _ (.tail _ (.tail _ (.tail _ (.tail _ (.tail _ (.head _))))))
    have hsR : ∀ p ∈ R, p ∈ own' ++ R := fun p hp => List.mem_append_right _ hp
    refine' held_open (law_item2 (top := _ :: _ :: _ :: wl) (e := es2[i9]) ?qB ?qF ?qX ?qN ?qT ?qd ?qu rfl (C.own hyf) ?qoffT hc (hA.mono hsR) (hT.mono hsR) (.head _) ?qKK he2 (by omega) ?_)
    (case qF => exact Fk)
    (case qN => exact Nk)
    (case qB => k_asm)
    (case qX => k_asm)
    (case qT => k_asm)
    (case qd => first | k_room | omega)
    (case qu => first | k_units | omega)
    (case qoffT =>
      refine List.forall_mem_cons.mpr ⟨⟨Nat.ne_of_gt (of_allLt lk.2.2 _ (List.mem_append_right _ mE)), Nat.ne_of_gt (of_allLt lk.2.2 _ (List.mem_append_right _ mP)), Nat.ne_of_gt (of_allLt lk.2.2 _ (List.mem_append_right _ mR))⟩, List.forall_mem_cons.mpr ⟨⟨Ne.symm (p1 _ mE).1, Ne.symm (p1 _ mP).1, Ne.symm (p1 _ mR).1⟩, List.forall_mem_cons.mpr ⟨⟨Ne.symm (p1 _ mE).2, Ne.symm (p1 _ mP).2, Ne.symm (p1 _ mR).2⟩, fun q hq => ⟨Ne.symm (p3 _ mE q hq), Ne.symm (p3 _ mP q hq), Ne.symm (p3 _ mR q hq)⟩⟩⟩⟩)
    (case qKK => rw [htg]; exact hKV.mono hsR)
    intro g12 tk12 x own e1'' e2'' n2'' u'' F12 N12 hR12 hf12
    clear Fk Nk
    try k_steps
    refine ⟨g12, tk12, oC2, m10, lawD w L o2 o3 o4 o5 eD2 pD2 rL2 e1'' e2'' n2'' es2 ys2 ((own ++ own') ++ R), rfl, hC2, F12, News.sub N12 ?_, ?_, own ++ own', e1'', e2'', n2'', rfl, by simp [hyl], ?_, ?_⟩
    · intro q hq
      simp only [lawD, lawC, List.mem_cons, List.mem_append] at hq ⊢
      grind
    · intro q hq
      have hq' : q ∈ own ∨ q ∈ lawD w L o2 o3 o4 o5 eD2 pD2 rL2 e1'' e2'' n2'' es2 ys2 (own' ++ R) := by
        simp only [lawD, lawC, List.mem_cons, List.mem_append] at hq ⊢
        grind
      rcases hq' with hq | hq
      · exact ⟨Nat.ne_of_gt (hf12 (CC, oC2) (.tail _ (.head _)) q hq), Nat.ne_of_gt (hf12 (D, LCg.lst ys) (.tail _ (.tail _ (.head _))) q hq), fun r hr => Nat.ne_of_gt (hf12 r (.tail _ (.tail _ (.tail _ (List.mem_append_left _ hr)))) q hq)⟩
      · exact lawD_fst (P := fun b => b ≠ CC ∧ b ≠ D ∧ ∀ r ∈ wl, b ≠ r.1) (fun p hp => ⟨(p1 p hp).1, (p1 p hp).2, p3 p hp⟩) q hq
    · intro j y hj
      by_cases hjl : j < ys.length
      · rw [List.getElem?_append_left hjl] at hj
        obtain ⟨x', u', q1, q2⟩ := hya j y hj
        exact ⟨x', u', q1, q2.mono fun p hp => List.mem_append_right _ hp⟩
      · have hj9 : j = ys.length := by
          have := (List.getElem?_eq_some_iff.mp hj).1
          simp at this
          omega
        subst hj9
        rw [List.getElem?_append_right (Nat.le_refl _), Nat.sub_self] at hj
        cases hj
        rw [hyl]
        exact ⟨x, _, rfl, hR12.mono fun p hp => List.mem_append_left _ hp⟩
    · intro q hq r hr
      rcases List.mem_append.mp hr with hr | hr
      · have hq' : q ∈ lawD w L o2 o3 o4 o5 eD2 pD2 rL2 0 0 0 es2 ys2 (own' ++ R) := by
          simp only [lawD, lawC, List.mem_cons, List.mem_append] at hq ⊢
          grind
        exact lawD_fst (P := fun b => ∀ r ∈ own, @LT.lt Nat _ b r.1) (fun p hp => hf12 p (.tail _ (.tail _ (.tail _ (List.mem_append_right _ hp))))) q hq' r hr
      · exact hyf q hq r hr)
  rintro ys news9 ⟨own', f1, f2, f3, rfl, hyl, hya, hyf⟩ D9 h9 tk9 F9 N9 o9
  have hyl2 : ys.length = es.length := by rw [hyl, List.length_map]
  have hs9 : ∀ p ∈ R, p ∈ (D9, lstO ys ys.length) :: (own' ++ R) := fun p hp => .tail _ (List.mem_append_right _ hp)
  have hs9' : ∀ p ∈ own', p ∈ (D9, lstO ys ys.length) :: (own' ++ R) := fun p hp => .tail _ (List.mem_append_left _ hp)
  have C9 : CopyS w tB eD2 pD2 rL2 es es2 ys2 ((D9, lstO ys ys.length) :: (own' ++ R)) := by
    refine (C.own hyf).mono (fun p hp => .tail _ hp) (List.forall_mem_cons.mpr ⟨⟨?_, ?_, ?_, fun hm => ?_⟩, (C.own hyf).off⟩)
    · exact Ne.symm (o9 (eD2, dictOf (ents w (es2.map Ent.x)) f1) (.tail _ (.tail _ (.tail _ (.tail _ (.head _))))))
    · exact Ne.symm (o9 (pD2, dictOf (ents w ys2) f2) (.tail _ (.tail _ (.tail _ (.tail _ (.tail _ (.head _)))))))
    · exact Ne.symm (o9 (rL2, lstO (es2.map fun e => Value.ref e.pr) f3) (.tail _ (.tail _ (.tail _ (.tail _ (.tail _ (.tail _ (.head _))))))))
    · obtain ⟨e, he, e9⟩ := List.mem_map.mp hm
      exact o9 e.o (.tail _ (.tail _ (.tail _ (.tail _ (.tail _ (.tail _ (.tail _ (List.mem_append_left _ (List.mem_map_of_mem he))))))))) e9
  have off9 : OffC L ((D9, lstO ys ys.length) :: (own' ++ R)) := List.forall_mem_cons.mpr ⟨⟨Ne.symm (o9 _ (.head _)), Ne.symm (o9 _ (.tail _ (.head _))), Ne.symm (o9 _ (.tail _ (.tail _ (.head _)))), Ne.symm (o9 _ (.tail _ (.tail _ (.tail _ (.head _)))))⟩, OffC.own off hyf⟩
  have J9 := J.mono hs9
  have N10 : News h₀ L h9 (lawD w L o2 o3 o4 o5 eD2 pD2 rL2 f1 f2 f3 es2 ys2 ((D9, lstO ys ys.length) :: (own' ++ R))) := News.sub (show News h₀ L h9 ((D9, lstO ys ys.length) :: lawD w L o2 o3 o4 o5 eD2 pD2 rL2 f1 f2 f3 es2 ys2 (own' ++ R)) from N9) (fun p hp => sub_nm (D := (D9, lstO ys ys.length)) p hp)
  have hya9 : ∀ (j : Nat) (y : Value), ys[j]? = some y → ∃ x u, y = Value.ref x ∧ RefD w ((D9, lstO ys ys.length) :: (own' ++ R)) x (Str.ofString "item") (.ref tB) (.int (j : Int) u) := fun j y hj => by
    obtain ⟨x, u, q1, q2⟩ := hya j y hj
    exact ⟨x, u, q1, q2.mono hs9'⟩
  have hNL : (D9, lstO ys ys.length) ∈ (D9, lstO ys ys.length) :: (own' ++ R) := .head _
  generalize (D9, lstO ys ys.length) :: (own' ++ R) = R9 at hs9 hs9' C9 off9 J9 N10 hya9 hNL
  clear N9 o9 hyf hya hyl C J off hs9' hE hM hK hV hr hc1 hT hA hs9
  obtain ⟨nE, hE⟩ := J9.hE
  obtain ⟨nM, hM⟩ := J9.hM
  obtain ⟨nK, hK⟩ := J9.hK
  obtain ⟨nV, hV⟩ := J9.hV
  obtain ⟨nr, hr⟩ := J9.hr
  obtain ⟨o1', hc1, hd1'⟩ := J9.hc1
  have hT := J9.hT
  have hA := J9.hA
  have hTB := C9.hT
  have hC1 := C9.o1
  have hC2 := C9.o2
  obtain ⟨x5, hd5⟩ := c5
  have offP : ∀ p ∈ es2.map Ent.o ++ R9, p.1 ≠ L + 1 + 1 ∧ p.1 ≠ L + 1 + 1 + 1 ∧ p.1 ≠ L + 1 + 1 + 1 + 1 ∧ p.1 ≠ L + 1 + 1 + 1 + 1 + 1 := by
    intro p hp
    rcases List.mem_append.mp hp with hp | hp
    · obtain ⟨e, he, rfl⟩ := List.mem_map.mp hp
      have := C9.o3 e he
      exact ⟨neN (by dsimp only [Ent.o]; omega), neN (by dsimp only [Ent.o]; omega), neN (by dsimp only [Ent.o]; omega), neN (by dsimp only [Ent.o]; omega)⟩
    · exact off9 p hp
  have off5 : ∀ p ∈ es2.map Ent.o ++ R9, p.1 ≠ L + 1 + 1 + 1 + 1 + 1 := fun p hp => (offP p hp).2.2.2
  k_steps
  (with_reducible rename News _ _ _ _ => N5)
  (with_reducible rename _ = Data.cell (some (Value.ref D9)) => d5)
  have N6 : ∃ o5n, o5n.data = .cell (some (.ref D9)) ∧ News h₀ L _ (lawD w L o2 o3 o4 o5n eD2 pD2 rL2 f1 f2 f3 es2 ys2 R9) := ⟨_, d5, N5⟩
  clear N5 d5
  obtain ⟨o5n, d5, N5⟩ := N6
  refine' held_open (cg_ListComp ?qF ?qclos ?qcell ?qkind ?qnames ?qhB ?qhs)
  (case qF => k_asm)
  (case qclos => with_unfolding_all rfl)
  (case qcell => decide)
  (case qkind => rfl)
  (case qnames => decide)
  (case qhs => intro _; rfl)
  k_steps
  refine' held_open (cg_list (its := ys) (nl := ys.length) (l := D9) (J := fun i zs news' => zs = (es.map (·.v)).take i ∧ news' = lawD w L o2 o3 o4 o5n eD2 pD2 rL2 f1 f2 f3 es2 ys2 R9) ?qhh ?qF ?qN ?qgo ?qsrc ?qsize ?qJ0 ?qturn ?qfinB)
  (case qhh => rfl)
  (case qF => k_asm)
  (case qN => k_asm)
  (case qgo => intro I i v s' Q' E' hv hi hq; exact go_name hi hq)
  (case qsrc => rintro i zs news' ⟨rfl, rfl⟩; exact ⟨.tail _ (.tail _ (.tail _ (.tail _ (.tail _ (.tail _ (.tail _ (List.mem_append_right _ hNL))))))), by rw [List.length_take]; exact Nat.min_le_left _ _⟩)
  (case qsize => omega)
  (case qJ0 => exact ⟨by simp, rfl⟩)
  (case qturn =>
    rintro i9 v9 zs news9 wl CC oC m9 D g9 tk9 E9 hi9 ⟨rfl, rfl⟩ hv99 hC F9 N9 p1 p2 hCD p3
    obtain ⟨x, ux, rfl, hRx⟩ := hya9 i9 v9 hv99
    have hi2 : i9 < es2.length := by omega
    obtain ⟨e0, he2⟩ : ∃ e, es2[i9]? = some e := ⟨_, List.getElem?_eq_getElem hi2⟩
    have hv9 : (es.map (·.v))[i9]? = some e0.v := by rw [← C9.v, List.getElem?_map, he2]; rfl
    obtain ⟨tg, kv, mA, pr, v, ne⟩ := e0
    have h4 : (es2.map fun e => Value.ref e.pr)[((i9 : Nat) : Int).toNat]? = some (.ref pr) := by rw [Int.toNat_natCast, List.getElem?_map, he2]; rfl
    have h5 : (pr, lstO [kv, v] ne) ∈ es2.map Ent.o ++ R9 := List.mem_append_left _ (List.mem_map_of_mem (f := Ent.o) (List.mem_of_getElem? he2))
    have hi3 : i9 < 1000 := by omega
    refine cg_name rfl rfl hC F9 N9 (fun p hp => ?_) fun g10 tk10 oC2 m10 hC2 hx1 F10 N10 => ?_
    · rcases List.mem_cons.mp hp with rfl | hp
      · exact Ne.symm hCD
      rcases List.mem_append.mp hp with hp | hp
      · exact (p2 p hp).1
      · exact (p1 p hp).1
    refine wpAny_tests_nil ?_
    clear F9 N9 hC
    k_steps
    exact cg_end0 (by assumption) hC2 (by assumption) p1 p3 ⟨by rw [take_snoc hv9], rfl⟩)
  rintro zs news9 ⟨rfl, rfl⟩ D8 h8 tk8 F8 N8 o8
  have e8 : (es.map (·.v)).take ys.length = es.map (·.v) := List.take_of_length_le (by rw [List.length_map, hyl2]; exact Nat.le_refl _)
  rw [e8] at N8
  k_steps
  refine' held_open (ne_alike (vs := es.map (·.v)) ?qu ?qN ?qm1 ?qm2 ?_)
  (case qN => k_asm)
  (case qm1 => exact .head _)
  (case qm2 => k_mem)
  (case qu => first | k_units | omega)
  k_steps
  refine' held_open (cg_ListComp ?qF ?qclos ?qcell ?qkind ?qnames ?qhC ?qhs)
  (case qF => k_asm)
  (case qclos => with_unfolding_all rfl)
  (case qcell => decide)
  (case qkind => rfl)
  (case qnames => decide)
  (case qhs => intro _; rfl)
  k_steps
  refine' held_open (cg_list (its := mvs) (nl := nM) (l := ML) (J := fun _ zs news' => zs = [] ∧ news' = lawD w L o2 o3 o4 o5n eD2 pD2 rL2 f1 f2 f3 es2 ys2 R9) ?qhh ?qF ?qN ?qgo ?qsrc ?qsize ?qJ0 ?qturn ?qfinC)
  (case qhh => rfl)
  (case qF => k_asm)
  (case qN => exact News.sub N8 fun p hp => .tail _ hp)
  (case qgo =>
    intro I i v s' Q' E' hv hi hq
    obtain ⟨mt, nm, n4, u5, u6, sp, e, _⟩ := J9.made i v hv
    exact go_tuple I v i s' Q' E' mt e hi hq)
  (case qsrc => rintro i zs news' ⟨rfl, rfl⟩; exact ⟨.tail _ (.tail _ (.tail _ (.tail _ (.tail _ (.tail _ (.tail _ (List.mem_append_right _ hM))))))), Nat.zero_le _⟩)
  (case qsize => have := J9.few2; omega)
  (case qJ0 => exact ⟨rfl, rfl⟩)
  (case qturn =>
    rintro i9 v9 zs news9 wl CC oC m9 D g9 tk9 E9 hi9 ⟨rfl, rfl⟩ hv99 hC F9 N9 p1 p2 hCD p3
    obtain ⟨mt, nm, n4, u5, u6, sp, rfl, hmt, hR, hsp⟩ := J9.made i9 v9 hv99
    obtain ⟨y, hy⟩ : ∃ y, ys[sp]? = some y := ⟨_, List.getElem?_eq_getElem (by omega)⟩
    obtain ⟨xB, uB, rfl, hRB⟩ := hya9 sp y hy
    have hy9 : ys[((sp : Nat) : Int).toNat]? = some (.ref xB) := by rw [Int.toNat_natCast]; exact hy
    have hsp3 : sp < 1000 := by omega
    refine cg_pair rfl rfl rfl (by decide) rfl hC F9 N9 (fun p hp => ?_) (News.isTup N9 (.tail _ (.tail _ (List.mem_append_right _ (.tail _ (.tail _ (.tail _ (.tail _ (.tail _ (.tail _ (.tail _ (List.mem_append_right _ hmt)))))))))))) fun g10 tk10 oC2 m10 hC2 hx1 hx2 F10 N10 => ?_
    · rcases List.mem_cons.mp hp with rfl | hp
      · exact Ne.symm hCD
      rcases List.mem_append.mp hp with hp | hp
      · exact (p2 p hp).1
      · exact (p1 p hp).1
    refine wpAny_tests_one ?_
    clear F9 N9 hC
    k_steps
    refine' held_open (call_same_ref ?qB ?qF ?qX ?qN ?qT ?qd ?qu ?qh1 ?qh2 ?qt1 ?qt2 ?_)
    (case qF => k_asm)
    (case qN => k_asm)
    (case qB => k_asm)
    (case qX => k_asm)
    (case qT => k_asm)
    (case qd => first | k_room | omega)
    (case qu => first | k_units | omega)
    (case qh1 => exact RefD.mono hR (by ktr_rel))
    (case qh2 => exact RefD.mono hRB (by ktr_rel))
    (case qt1 => exact TabD.mono hT (by ktr_rel))
    (case qt2 => exact TabD.mono hTB (by ktr_rel))
    intro g11 tk11 F11 N11
    have e9 : (decide ((sp : Int) = (sp : Int)) && decide ((5 : Int) = 9)) = false := by simp
    rw [e9]
    k_steps
    exact cg_end0 (by assumption) hC2 (by assumption) p1 p3 ⟨rfl, rfl⟩)
  rintro zs news9 ⟨rfl, rfl⟩ D7 h7 tk7 F7 N7 o7
  k_steps
  refine' held_open (ne_alike (vs := []) ?qu ?qN ?qm1 ?qm2 ?_)
  (case qN => k_asm)
  (case qm1 => exact .tail _ (.head _))
  (case qm2 => exact .head _)
  (case qu => first | k_units | omega)
  k_steps
  (with_reducible rename News _ _ _ _ => N40)
  have N41 := News.sub (l' := lawD w L o2 o3 o4 o5n eD2 pD2 rL2 f1 f2 f3 es2 ys2 R9) N40 fun p hp => .tail _ (.tail _ hp)
  clear N40
  refine' held_open (law_loop3 (tA := tA) (KL := KL) (ML := ML) ?qB ?qF ?qX N41 ?qT ?qd ?qu rfl off9 hTB hc hC1 hC2 C9.o3 C9.nd (fun p hp => (C9.off p hp).2.2.2) hNL (by omega) (by omega) hya9 d5 ?qhg c2 ?_)
  (case qF => k_asm)
  (case qhg => exact ⟨rfl, rfl, rfl⟩)
  (case qB => k_asm)
  (case qX => k_asm)
  (case qT => k_asm)
  (case qd => first | k_room | omega)
  (case qu => first | k_units | omega)
  intro g42 tk42 m42 o2z es3 F42 N42 hg42 hx42 hv42
  have F43 := frKnow (frKnow (frKnow F42 _ _ hg42.1) _ _ ((if_neg (by decide)).trans hg42.2.1)) _ _ (((if_neg (by decide)).trans (if_neg (by decide))).trans hg42.2.2)
  clear F42
  have hl42 : es3.length = es.length := by
    have := congrArg List.length hx42
    simp only [List.length_map] at this
    omega
  obtain ⟨vals, hvl, hvals⟩ := pick mvs (fun _ v (b : Value) => ∃ (mt nm : Addr) (n4 : Nat) (u5 u6 : Tok) (sp : Nat) (e : Ent), v = Value.ref mt ∧ (mt, tupO [.ref nm, .int (sp : Int) u5] n4) ∈ R9 ∧ RefD w R9 nm (Str.ofString "item") (.ref tA) (.int (sp : Int) u6) ∧ es[sp]? = some e ∧ b = e.v) (fun j v hv => by
    obtain ⟨mt, nm, n4, u5, u6, sp, q1, q2, q3, q4⟩ := J9.made j v hv
    exact ⟨_, mt, nm, n4, u5, u6, sp, es[sp], q1, q2, q3, List.getElem?_eq_getElem q4, rfl⟩)
  k_steps
  refine' held_open (cg_ListComp ?qF ?qclos ?qcell ?qkind ?qnames ?qhD ?qhs)
  (case qF => k_asm)
  (case qclos => with_unfolding_all rfl)
  (case qcell => decide)
  (case qkind => rfl)
  (case qnames => decide)
  (case qhs => intro _; rfl)
  k_steps
  refine' held_open (cg_list (its := mvs) (nl := nM) (l := ML) (J := fun i zs news' => zs = vals.take i ∧ news' = lawD w L o2z o3 o4 o5n eD2 pD2 rL2 f1 f2 f3 es3 ys2 R9) ?qhh ?qF ?qN ?qgo ?qsrc ?qsize ?qJ0 ?qturn ?qfinD)
  (case qhh => rfl)
  (case qF => k_asm)
  (case qN => exact N42)
  (case qgo =>
    intro I i v s' Q' E' hv hi hq
    obtain ⟨mt, nm, n4, u5, u6, sp, e, _⟩ := J9.made i v hv
    exact go_tuple I v i s' Q' E' mt e hi hq)
  (case qsrc => rintro i zs news' ⟨rfl, rfl⟩; exact ⟨.tail _ (.tail _ (.tail _ (.tail _ (.tail _ (.tail _ (.tail _ (List.mem_append_right _ hM))))))), by rw [List.length_take]; exact Nat.min_le_left _ _⟩)
  (case qsize => have := J9.few2; omega)
  (case qJ0 => exact ⟨by simp, rfl⟩)
  (case qturn =>
    rintro i9 v9 zs news9 wl CC oC m9 D g9 tk9 E9 hi9 ⟨rfl, rfl⟩ hv99 hC F9 N9 p1 p2 hCD p3
    obtain ⟨b9, hb9, mt, nm, n4, u5, u6, sp, e0, rfl, hmt, hR, he0, rfl⟩ := hvals i9 v9 hv99
    have hpr0 := J9.pr e0 (List.mem_of_getElem? he0)
    obtain ⟨tg, kv, mA, pr, v, ne⟩ := e0
    replace hpr0 : (pr, lstO [kv, v] ne) ∈ R9 := hpr0
    have h49 : (es.map fun e => Value.ref e.pr)[((sp : Nat) : Int).toNat]? = some (.ref pr) := by rw [Int.toNat_natCast, List.getElem?_map, he0]; rfl
    have hsp0 : sp < 1000 := by have := (List.getElem?_eq_some_iff.mp he0).1; omega
    refine cg_pair rfl rfl rfl (by decide) rfl hC F9 N9 (fun p hp => ?_) (News.isTup N9 (.tail _ (.tail _ (List.mem_append_right _ (.tail _ (.tail _ (.tail _ (.tail _ (.tail _ (.tail _ (.tail _ (List.mem_append_right _ hmt)))))))))))) fun g10 tk10 oC2 m10 hC2 hx1 hx2 F10 N10 => ?_
    · rcases List.mem_cons.mp hp with rfl | hp
      · exact Ne.symm hCD
      rcases List.mem_append.mp hp with hp | hp
      · exact (p2 p hp).1
      · exact (p1 p hp).1
    refine wpAny_tests_nil ?_
    clear F9 N9 hC
    k_steps
    exact cg_end0 (by assumption) hC2 (by assumption) p1 p3 ⟨by rw [take_snoc hb9], rfl⟩)
  rintro zs news9 ⟨rfl, rfl⟩ D6 h6 tk6 F6 N6 o6
  rw [show vals.take mvs.length = vals from List.take_of_length_le (Nat.le_of_eq hvl)] at N6
  k_steps
  refine' held_open (cg_ListComp ?qF ?qclos ?qcell ?qkind ?qnames ?qhE ?qhs)
  (case qF => k_asm)
  (case qclos => with_unfolding_all rfl)
  (case qcell => decide)
  (case qkind => rfl)
  (case qnames => decide)
  (case qhs => intro _; rfl)
  k_steps
  refine' held_open (cg_list (its := mvs) (nl := nM) (l := ML) (J := fun i zs news' => zs = vals.take i ∧ news' = (D6, lstO vals vals.length) :: lawD w L o2z o3 o4 o5n eD2 pD2 rL2 f1 f2 f3 es3 ys2 R9) ?qhh ?qF ?qN ?qgo ?qsrc ?qsize ?qJ0 ?qturn ?qfinE)
  (case qhh => rfl)
  (case qF => k_asm)
  (case qN => exact N6)
  (case qgo =>
    intro I i v s' Q' E' hv hi hq
    obtain ⟨mt, nm, n4, u5, u6, sp, e, _⟩ := J9.made i v hv
    exact go_tuple I v i s' Q' E' mt e hi hq)
  (case qsrc => rintro i zs news' ⟨rfl, rfl⟩; exact ⟨.tail _ (.tail _ (.tail _ (.tail _ (.tail _ (.tail _ (.tail _ (.tail _ (List.mem_append_right _ hM)))))))), by rw [List.length_take]; exact Nat.min_le_left _ _⟩)
  (case qsize => have := J9.few2; omega)
  (case qJ0 => exact ⟨by simp, rfl⟩)
  (case qturn =>
    rintro i9 v9 zs news9 wl CC oC m9 D g9 tk9 E9 hi9 ⟨rfl, rfl⟩ hv99 hC F9 N9 p1 p2 hCD p3
    obtain ⟨b9, hb9, mt, nm, n4, u5, u6, sp, e0, rfl, hmt, hR, he0, rfl⟩ := hvals i9 v9 hv99
    have hv9 : (es.map (·.v))[((sp : Nat) : Int).toNat]? = some e0.v := by rw [Int.toNat_natCast, List.getElem?_map, he0]; rfl
    have hsp0 : sp < 1000 := by have := (List.getElem?_eq_some_iff.mp he0).1; omega
    have hsp1 : sp < es.length := (List.getElem?_eq_some_iff.mp he0).1
    refine cg_pair rfl rfl rfl (by decide) rfl hC F9 N9 (fun p hp => ?_) (News.isTup N9 (.tail _ (.tail _ (List.mem_append_right _ (.tail _ (.tail _ (.tail _ (.tail _ (.tail _ (.tail _ (.tail _ (.tail _ (List.mem_append_right _ hmt))))))))))))) fun g10 tk10 oC2 m10 hC2 hx1 hx2 F10 N10 => ?_
    · rcases List.mem_cons.mp hp with rfl | hp
      · exact Ne.symm hCD
      rcases List.mem_append.mp hp with hp | hp
      · exact (p2 p hp).1
      · exact (p1 p hp).1
    refine wpAny_tests_nil ?_
    clear F9 N9 hC
    k_steps
    exact cg_end0 (by assumption) hC2 (by assumption) p1 p3 ⟨by rw [take_snoc hb9], rfl⟩)
  rintro zs news9 ⟨rfl, rfl⟩ D3 h3 tk3 F3 N3 o3'
  rw [show vals.take mvs.length = vals from List.take_of_length_le (Nat.le_of_eq hvl)] at N3
  k_steps
  refine' held_open (eq_alike (vs := vals) ?qu ?qN ?qm1 ?qm2 ?_)
  (case qN => k_asm)
  (case qm1 => exact .tail _ (.head _))
  (case qm2 => exact .head _)
  (case qu => first | k_units | omega)
  k_steps
  refine' held_open (call_entries (eD := eD2) (pD := pD2) (rL := rL2) (num := 9) (xs := es3.map Ent.x) ?qB ?qF ?qX ?qN ?qT ?qd ?qu ?qhT9 ?qhE9 C9.D1.low ?qz9 ?qhp9 ?_)
  (case qF => k_asm)
  (case qN => k_asm)
  (case qB => k_asm)
  (case qX => k_asm)
  (case qT => k_asm)
  (case qd => first | k_room | omega)
  (case qu => first | k_units | omega)
  (case qhT9 => exact TabD.mono hTB (by ktr_rel))
  (case qhE9 => k_mem)
  (case qz9 => rw [List.length_map]; omega)
  (case qhp9 =>
    intro i x hx
    rw [List.getElem?_map] at hx
    cases h : es3[i]? with
    | none => rw [h] at hx; cases hx
    | some e =>
      rw [h] at hx
      cases hx
      obtain ⟨u, ez⟩ := hv42 e (List.mem_of_getElem? h)
      exact ⟨e.pr, e.n, e.kv, e.v, rfl, .tail _ (.tail _ (.tail _ (.tail _ (.tail _ (.tail _ (.tail _ (.tail _ (.tail _ (List.mem_append_left _ (List.mem_map_of_mem (f := Ent.o) (List.mem_of_getElem? h))))))))))), .inr ⟨u, ez⟩⟩)
  intro g50 tk50 PL ts own50 nts F50 N50 hts hta hfr50
  have htl : ts.length = es.length := by rw [hts, List.length_map, hl42]
  have hz1 : ts.length ≤ 1000 := by omega
  have hz2 : (es.map (·.kv)).length ≤ 1000 := by rw [List.length_map]; omega
  k_steps
  have e50 : ((ts.length : Int) == ((es.map (·.kv)).length : Int)) = true := by rw [List.length_map, htl]; exact beq_self_eq_true _
  rw [e50]
  exact k _ _ _ _ F50 N50
end

theorem off_B27 : True := by
  w_top off
  exact True.intro
theorem MarkD.uncell {w : World} {L : Addr} {o2 o3 o4 o5 : Obj} {own2 R : List (Addr × Obj)} {k : List Scal} {a : Addr} (h : MarkD w (own2 ++ lawC L o2 o3 o4 o5 R) k a) (c2 : ∃ x, o2.data = .cell x) (c3 : ∃ x, o3.data = .cell x) (c4 : ∃ x, o4.data = .cell x) (c5 : ∃ x, o5.data = .cell x) : MarkD w (own2 ++ R) k a := by
  obtain ⟨items, n, hm, hi⟩ := h
  have no : ∀ o : Obj, (∃ x, o.data = .cell x) → ∀ b : Addr, (a, tupO items n) ≠ (b, o) := by
    rintro o ⟨x, hx⟩ b e
    have e2 : tupO items n = o := congrArg Prod.snd e
    rw [← e2] at hx
    cases hx
  refine ⟨items, n, ?_, hi⟩
  rcases List.mem_append.mp hm with hm | hm
  · exact List.mem_append_left _ hm
  rcases List.mem_cons.mp hm with e | hm
  · exact absurd e (no o2 c2 _)
  rcases List.mem_cons.mp hm with e | hm
  · exact absurd e (no o3 c3 _)
  rcases List.mem_cons.mp hm with e | hm
  · exact absurd e (no o4 c4 _)
  rcases List.mem_cons.mp hm with e | hm
  · exact absurd e (no o5 c5 _)
  · exact List.mem_append_right _ hm
theorem sub_c1 {α : Type} {A B C P Q R : α} {D : α} {own own2 S : List α} : ∀ p ∈ D :: A :: B :: C :: P :: Q :: R :: (own ++ (own2 ++ S)), p ∈ P :: Q :: R :: (own ++ (own2 ++ A :: B :: D :: C :: S)) := by
  intro p hp
  simp only [List.mem_cons, List.mem_append] at hp ⊢
  grind
theorem sub_c2 {α : Type} {A B C P Q R : α} {D : α} {S : List α} : ∀ p ∈ A :: B :: D :: C :: P :: Q :: R :: S, p ∈ D :: A :: B :: C :: P :: Q :: R :: S := by
  intro p hp
  simp only [List.mem_cons] at hp ⊢
  grind
noncomputable abbrev law_d4 : List Stmt := [lawSt.1.2.2.2.2.1, lawSt.1.2.2.2.2.2.1, lawSt.1.2.2.2.2.2.2.1, lawSt.1.2.2.2.2.2.2.2.1, lawSt.1.2.2.2.2.2.2.2.2.1, lawSt.1.2.2.2.2.2.2.2.2.2.1, lawSt.1.2.2.2.2.2.2.2.2.2.2]
section
variable {w : World} {dp un : Nat} {gd : Option (List Code)} {cn : Str} {a : Addr} {ccd : Value} {outer : List Env} {A₀ : Around} {base h₀ : Heap} {L : Addr} {m : Str → Option Value} {news : List (Addr × Obj)} {s : Shared}
    {loose : List Str} {mean : ExcName → Option Value} {mg mb : Str → Option Value} {Q : Flow → Shared → Prop} {E : Value → Shared → Prop}
    (B : Below A₀ base outer h₀) (F : Fr h₀ L s.heap m) (X : (pre.heap_1 w.params).In h₀) (N : News h₀ L s.heap news) (T : Top pre.view_1 loose mean mg mb h₀) (hdp : dp < 820) (hun : un < 8500)
include B F X N T hdp hun
set_option maxHeartbeats 400000 in
theorem law_rest {tA aA eD pD rL ML KL VL : Addr} {es : List Ent} {mvs : List Value} {o2 o3 o4 o5 : Obj} {R : List (Addr × Obj)} (hn : news = lawC L o2 o3 o4 o5 R) (off : OffC L R) (J : FinJ w L tA aA eD pD rL ML KL VL es mvs R) (hg : lawG tA KL ML m) (c2 : ∃ x, o2.data = .cell x) (c3 : ∃ x, o3.data = .cell x) (c4 : ∃ x, o4.data = .cell x) (c5 : ∃ x, o5.data = .cell x)
    (k : ∀ h' tk' m' news', Fr h₀ L h' m' → News h₀ L h' news' → Q (.ret (.bool true)) { s with heap := h', toks := tk' }) :
    wpAny (model (RowW.prog (OpenRow.toRowW (OpenLaw.row PySem.Challenge.rw_rh0225_01))) w) (ktrTop dp un gd cn lawCs L a ccd (lawCl L) outer) (execs law_d4 (envX cn lawCs L a ccd (lawCl L))) Q E s := by
  have X₁ : (pre.heap_1 w.params).In s.heap := X.keeps F.keep
  subst hn
  have F1 := frKnow (frKnow (frKnow F _ _ hg.1) _ _ ((if_neg (by decide)).trans hg.2.1)) _ _ (((if_neg (by decide)).trans (if_neg (by decide))).trans hg.2.2)
  clear F
  dsimp only [law_d4, lawSt, lawCs, lawSc]
  obtain ⟨nE, hE⟩ := J.hE
  obtain ⟨nM, hM⟩ := J.hM
  obtain ⟨nK, hK⟩ := J.hK
  obtain ⟨nV, hV⟩ := J.hV
  obtain ⟨nr, hr⟩ := J.hr
  obtain ⟨o1, hc1, hd1⟩ := J.hc1
  have hT := J.hT
  have hA := J.hA
  have hfew := J.few
  k_steps
  refine' held_open (call_entries (eD := eD) (pD := pD) (rL := rL) (num := 5) (xs := es.map Ent.x) ?qB ?qF ?qX ?qN ?qT ?qd ?qu ?qhT ?qhE J.D1.low ?qz ?qhp ?_)
  (case qF => k_asm)
  (case qN => k_asm)
  (case qB => k_asm)
  (case qX => k_asm)
  (case qT => k_asm)
  (case qd => first | k_room | omega)
  (case qu => first | k_units | omega)
  (case qhT => exact TabD.mono hT (by ktr_rel))
  (case qhE => k_mem)
  (case qz => rw [List.length_map]; omega)
  (case qhp =>
    intro i x hx
    rw [List.getElem?_map] at hx
    cases h : es[i]? with
    | none => rw [h] at hx; cases hx
    | some e =>
      rw [h] at hx
      cases hx
      obtain ⟨z, u, ez⟩ := J.allI e (List.mem_of_getElem? h)
      exact ⟨e.pr, e.n, e.kv, e.v, rfl, .tail _ (.tail _ (.tail _ (.tail _ (J.pr e (List.mem_of_getElem? h))))), .inl ⟨z, u, ez⟩⟩)
  intro g1 tk1 PL ts own1 nts F2 N2 hts hta hfr1
  have hta' : ∀ (i : Nat) e, es[i]? = some e → ∃ (T : Addr) (n : Nat), ts[i]? = some (.ref T) ∧ (T, tupO [e.kv, e.v] n) ∈ own1 := by
    intro i e he
    obtain ⟨T, n, kv, v, p, n2, q1, q2, q3, q4⟩ := hta i e.x (by rw [List.getElem?_map, he]; rfl)
    cases q3
    have h8 : e.o ∈ (PL, lstO ts nts) :: (own1 ++ lawC L o2 o3 o4 o5 R) := List.mem_cons_of_mem _ (List.mem_append_right _ (.tail _ (.tail _ (.tail _ (.tail _ (J.pr e (List.mem_of_getElem? he)))))))
    have e9 := same_pair (same_obj N2 (.tail _ (List.mem_append_right _ q4)) h8)
    rw [e9.1, e9.2] at q2
    exact ⟨T, n, q1, q2⟩
  have htl : ts.length = es.length := by rw [hts, List.length_map]
  have offP : OffC L ((PL, lstO ts nts) :: (own1 ++ R)) := by
    intro p hp
    have hp' : p ∈ (PL, lstO ts nts) :: own1 ∨ p ∈ R := by
      simp only [List.mem_cons, List.mem_append] at hp ⊢
      grind
    rcases hp' with hp | hp
    · exact ⟨Ne.symm (hfr1 (L + 1 + 1, o2) (.head _) p hp), Ne.symm (hfr1 (L + 1 + 1 + 1, o3) (.tail _ (.head _)) p hp), Ne.symm (hfr1 (L + 1 + 1 + 1 + 1, o4) (.tail _ (.tail _ (.head _))) p hp), Ne.symm (hfr1 (L + 1 + 1 + 1 + 1 + 1, o5) (.tail _ (.tail _ (.tail _ (.head _)))) p hp)⟩
    · exact off p hp
  have N3 : News h₀ L g1 (lawC L o2 o3 o4 o5 ((PL, lstO ts nts) :: (own1 ++ R))) := News.sub N2 (by
    intro p hp
    simp only [lawC, List.mem_cons, List.mem_append] at hp ⊢
    grind)
  clear hts hta hfr1 N2 F1 N
  k_steps
  refine' held_open (cg_ListComp ?qF ?qclos ?qcell ?qkind ?qnames ?qh ?qhs)
  (case qF => k_asm)
  (case qclos => with_unfolding_all rfl)
  (case qcell => decide)
  (case qkind => rfl)
  (case qnames => decide)
  (case qhs => intro _; rfl)
  k_steps
  refine' held_open (cg_list (its := ts) (nl := nts) (l := PL) (J := fun i ys news' => ys = (es.map (·.v)).take i ∧ news' = lawC L o2 o3 o4 o5 ((PL, lstO ts nts) :: (own1 ++ R))) ?qhh ?qF ?qN ?qgo ?qsrc ?qsize ?qJ0 ?qturn ?qfin)
  (case qhh => rfl)
  (case qF => k_asm)
  (case qN => k_asm)
  (case qgo =>
    intro I i v s' Q' E' hv hi hq
    have hl := (List.getElem?_eq_some_iff.mp hv).1
    rw [htl] at hl
    obtain ⟨T9, n9, q1, q2⟩ := hta' i _ (List.getElem?_eq_getElem hl)
    rw [q1] at hv
    exact go_tuple I v i s' Q' E' T9 (Option.some.inj hv).symm hi hq)
  (case qsrc => rintro i ys news' ⟨rfl, rfl⟩; exact ⟨.tail _ (.tail _ (.tail _ (.tail _ (.head _)))), by rw [List.length_take]; exact Nat.min_le_left _ _⟩)
  (case qsize => rw [htl]; omega)
  (case qJ0 => exact ⟨by simp, rfl⟩)
  (case qturn =>
    rintro i9 v9 ys news9 wl C oC m9 D g9 tk9 E9 hi9 ⟨rfl, rfl⟩ hv99 hC F9 N9 p1 p2 hCD p3
    have hl9 : i9 < es.length := by rw [← htl]; exact hi9
    have he9 := List.getElem?_eq_getElem hl9
    obtain ⟨T9, n9, q1, q2⟩ := hta' i9 _ he9
    rw [q1] at hv99
    cases hv99
    refine cg_pair rfl rfl rfl (by decide) rfl hC F9 N9 (fun p hp => ?_) (News.isTup N9 (.tail _ (.tail _ (List.mem_append_right _ (.tail _ (.tail _ (.tail _ (.tail _ (.tail _ (List.mem_append_left _ q2)))))))))) fun g10 tk10 oC2 m10 hC2 hx1 hx2 F10 N10 => ?_
    · rcases List.mem_cons.mp hp with rfl | hp
      · exact Ne.symm hCD
      rcases List.mem_append.mp hp with hp | hp
      · exact (p2 p hp).1
      · exact (p1 p hp).1
    refine wpAny_tests_nil ?_
    clear F9 N9 hC
    k_steps
    exact cg_end0 (by assumption) hC2 (by assumption) p1 p3 ⟨by rw [take_snoc (by rw [List.getElem?_map, he9]; rfl)], rfl⟩)
  rintro ys news9 ⟨rfl, rfl⟩ D9 h9 tk9 F9 N9 o9
  have e9 : (es.map (·.v)).take ts.length = es.map (·.v) := List.take_of_length_le (by rw [List.length_map, htl]; exact Nat.le_refl _)
  rw [e9] at N9
  k_steps
  refine' held_open (ne_alike (vs := es.map (·.v)) ?qu ?qN ?qm1 ?qm2 ?_)
  (case qN => k_asm)
  (case qm1 => exact .head _)
  (case qm2 => k_mem)
  (case qu => first | k_units | omega)
  k_steps
  refine' held_open (cg_ListComp ?qF ?qclos ?qcell ?qkind ?qnames ?qh5 ?qhs)
  (case qF => k_asm)
  (case qclos => with_unfolding_all rfl)
  (case qcell => decide)
  (case qkind => rfl)
  (case qnames => decide)
  (case qhs => intro _; rfl)
  k_steps
  refine' held_open (cg_zip (xs := es.map (·.kv)) (ys := ts) (n1 := nK) (n2 := nts) (J := fun i zs news' => zs = [] ∧ news' = lawC L o2 o3 o4 o5 ((PL, lstO ts nts) :: (own1 ++ R))) ?qhh ?qF ?qN ?qsrc ?qsize ?qJ0 ?qturn ?qfin2)
  (case qhh => rfl)
  (case qF => k_asm)
  (case qN => exact News.sub (by assumption) fun p hp => .tail _ hp)
  (case qsrc => rintro i ys news' ⟨rfl, rfl⟩; exact ⟨.tail _ (.tail _ (.tail _ (.tail _ (.tail _ (List.mem_append_right _ hK))))), .tail _ (.tail _ (.tail _ (.tail _ (.head _)))), Nat.zero_le _⟩)
  (case qsize => rw [List.length_map]; omega)
  (case qJ0 => exact ⟨rfl, rfl⟩)
  (case qturn =>
    rintro i9 T0 x9 y9 ys news9 wl C oC m9 D g9 tk9 E9 ⟨rfl, rfl⟩ hx99 hy99 htup hC F9 N9 p1 p2 hCD p3
    rw [List.getElem?_map] at hx99
    obtain ⟨e, he9, rfl⟩ : ∃ e, es[i9]? = some e ∧ x9 = e.kv := by
      cases h : es[i9]? with
      | none => rw [h] at hx99; cases hx99
      | some e => rw [h] at hx99; exact ⟨e, rfl, (Option.some.inj hx99).symm⟩
    obtain ⟨T9, n9, q1, q2⟩ := hta' i9 _ he9
    rw [q1] at hy99
    cases hy99
    have hKV := J.kv e (List.mem_of_getElem? he9)
    refine cg_pair rfl rfl rfl (by decide) rfl hC F9 N9 (fun p hp => ?_) htup fun g10 tk10 oC2 m10 hC2 hx1 hx2 F10 N10 => ?_
    · rcases List.mem_cons.mp hp with rfl | hp
      · exact Ne.symm hCD
      rcases List.mem_append.mp hp with hp | hp
      · exact (p2 p hp).1
      · exact (p1 p hp).1
    refine wpAny_tests_one ?_
    clear F9 N9 hC
    k_steps
    refine' held_open (call_tkey ?qB ?qF ?qX ?qN ?qT ?qd ?qu ?qK ?qTT ?qAA ?_)
    (case qF => k_asm)
    (case qN => k_asm)
    (case qB => k_asm)
    (case qX => k_asm)
    (case qT => k_asm)
    (case qd => first | k_room | omega)
    (case qu => first | k_units | omega)
    (case qK => exact KeyV.mono hKV (by ktr_rel))
    (case qTT => exact TabD.mono hT (by ktr_rel))
    (case qAA => exact ArrD.mono hA (by ktr_rel))
    intro g11 tk11 t1 items1 n11 F11 N11 l11 hI11
    k_steps
    have hTT : (T9, tupO [e.kv, e.v] n9) ∈ (t1, tupO items1 n11) :: (C, oC2) :: (D, LCg.lst []) :: (wl ++ lawC L o2 o3 o4 o5 ((PL, lstO ts nts) :: (own1 ++ R))) := .tail _ (.tail _ (.tail _ (List.mem_append_right _ (.tail _ (.tail _ (.tail _ (.tail _ (.tail _ (List.mem_append_left _ q2)))))))))
    refine' held_open (item_tupleT (l := [e.kv, e.v]) (j := 0) (x := e.kv) (News.isTup N11 hTT) (by decide) (by decide) rfl rfl ?_ (by with_unfolding_all rfl))
    k_steps
    refine' held_open (call_tkey ?qB ?qF ?qX ?qN ?qT ?qd ?qu ?qK ?qTT ?qAA ?_)
    (case qF => k_asm)
    (case qN => k_asm)
    (case qB => k_asm)
    (case qX => k_asm)
    (case qT => k_asm)
    (case qd => first | k_room | omega)
    (case qu => first | k_units | omega)
    (case qK => exact KeyV.mono hKV (by ktr_rel))
    (case qTT => exact TabD.mono hT (by ktr_rel))
    (case qAA => exact ArrD.mono hA (by ktr_rel))
    intro g12 tk12 t2 items2 n12 F12 N12 l12 hI12
    k_steps
    refine' held_open (ne_marks ?qu N12 hI11 hI12 (.tail _ (.head _)) (.head _) ?_)
    (case qu => first | k_units | omega)
    k_steps
    exact cg_end0 (by assumption) hC2 (News.sub (by assumption) fun p hp => .tail _ (.tail _ hp)) p1 p3 ⟨rfl, rfl⟩)
  rintro ys news9 ⟨rfl, rfl⟩ D8 h8 tk8 F8 N8 o8
  k_steps
  refine' held_open (ne_alike (vs := []) ?qu ?qN ?qm1 ?qm2 ?_)
  (case qN => k_asm)
  (case qm1 => exact .tail _ (.head _))
  (case qm2 => exact .head _)
  (case qu => first | k_units | omega)
  k_steps
  (with_reducible rename News _ _ _ _ => N10)
  have N11 := News.sub (l' := lawC L o2 o3 o4 o5 ((PL, lstO ts nts) :: (own1 ++ R))) N10 fun p hp => .tail _ (.tail _ hp)
  refine' held_open (call_copy (eD := eD) (pD := pD) (rL := rL) (num := 5) (xs := es.map Ent.x) ?qB ?qF ?qX N11 ?qT ?qd ?qu ?qhT3 ?qhE3 ?qD3 ?qz ?qhp3 ?_)
  (case qF => k_asm)
  (case qB => k_asm)
  (case qX => k_asm)
  (case qT => k_asm)
  (case qd => first | k_room | omega)
  (case qu => first | k_units | omega)
  (case qhT3 => exact TabD.mono hT (by ktr_rel))
  (case qhE3 => exact .tail _ (.tail _ (.tail _ (.tail _ (.tail _ (List.mem_append_right _ hE)))))) 
  (case qD3 => exact DicM.mono J.D1 (by ktr_rel))
  (case qz => rw [List.length_map]; omega)
  (case qhp3 =>
    intro i x hx
    rw [List.getElem?_map] at hx
    cases h : es[i]? with
    | none => rw [h] at hx; cases hx
    | some e =>
      rw [h] at hx
      cases hx
      exact ⟨e.pr, e.n, e.kv, e.v, rfl, .tail _ (.tail _ (.tail _ (.tail _ (.tail _ (List.mem_append_right _ (J.pr e (List.mem_of_getElem? h))))))) ⟩)
  intro g5 tk5 tB eD2 pD2 rL2 own2 own xs2 ys2 vs2 e12 e22 n22 F5 N5 hT5 tf5 CJ
  obtain ⟨es2, rfl, rfl, rfl, hl2, hk2, hv2, ht2, hya2, hup2, hnd2⟩ := copy_es N11 (fun e he => .tail _ (.tail _ (.tail _ (.tail _ (.tail _ (List.mem_append_right _ (J.pr e he))))))) CJ
  have hs2 : ∀ p ∈ R, p ∈ own2 ++ ((PL, lstO ts nts) :: (own1 ++ R)) := fun p hp => List.mem_append_right _ (.tail _ (List.mem_append_right _ hp))
  have offR2 : OffC L (own2 ++ ((PL, lstO ts nts) :: (own1 ++ R))) := by
    intro p hp
    rcases List.mem_append.mp hp with hp | hp
    · exact ⟨Nat.ne_of_gt (tf5.up (_, o2) (.head _) p hp), Nat.ne_of_gt (tf5.up (_, o3) (.tail _ (.head _)) p hp), Nat.ne_of_gt (tf5.up (_, o4) (.tail _ (.tail _ (.head _))) p hp), Nat.ne_of_gt (tf5.up (_, o5) (.tail _ (.tail _ (.tail _ (.head _)))) p hp)⟩
    · exact offP p hp
  have hlow : ∀ p ∈ own2 ++ ((PL, lstO ts nts) :: (own1 ++ R)), @LT.lt Nat _ p.1 eD2 := by
    intro p hp
    refine tf5.under p ?_
    rcases List.mem_append.mp hp with hp | hp
    · exact List.mem_append_left _ hp
    · exact List.mem_append_right _ (.tail _ (.tail _ (.tail _ (.tail _ hp))))
  have hl12 := tf5.l1
  have hl23 := tf5.l2
  have hcc : @LT.lt Nat _ (L + 1 + 1 + 1 + 1 + 1) eD2 := tf5.under (_, o5) (List.mem_append_right _ (.tail _ (.tail _ (.tail _ (.head _)))))
  have C5 : CopyS w tB eD2 pD2 rL2 es es2 ys2 (own2 ++ ((PL, lstO ts nts) :: (own1 ++ R))) := by
    refine ⟨hl2, hk2, hv2, ht2, hT5.mono (fun p hp => List.mem_append_left _ hp), ⟨tf5.low1, fun x hx => (CJ.D1.marks x hx).uncell c2 c3 c4 c5, CJ.D1.nodup⟩, ⟨tf5.low2, fun x hx => (CJ.D2.marks x hx).uncell c2 c3 c4 c5, CJ.D2.nodup⟩, hya2, by rw [CJ.l3, List.length_map, hl2], hl12, hl23, hup2, hnd2, fun p hp => ?_⟩
    have h1 := hlow p hp
    refine ⟨Nat.ne_of_lt h1, Nat.ne_of_lt (Nat.lt_trans h1 hl12), Nat.ne_of_lt (Nat.lt_trans h1 (Nat.lt_trans hl12 hl23)), fun hm => ?_⟩
    obtain ⟨e, he, e9⟩ := List.mem_map.mp hm
    exact Nat.ne_of_lt (Nat.lt_trans (Nat.lt_trans h1 (Nat.lt_trans hl12 hl23)) (hup2 e he)) e9.symm
  have J2 := J.mono hs2
  have N6 := News.sub N5 sub_c1
  obtain ⟨x4, hd4⟩ := c4
  clear N5 CJ hT5 tf5 hs2
  generalize own2 ++ ((PL, lstO ts nts) :: (own1 ++ R)) = R2 at offR2 hlow C5 J2 N6
  refine storeX_C F5 N6 rfl (.head ?qU) hd4 (fun g6 o4n F6 N7 d6 => ?_) rfl rfl
  (case qU =>
    refine List.forall_mem_cons.mpr ⟨neN (by dsimp only; omega), List.forall_mem_cons.mpr ⟨neN (by dsimp only; omega), List.forall_mem_cons.mpr ⟨neN (by dsimp only; omega), List.forall_mem_cons.mpr ⟨neN (by dsimp only; omega), List.forall_mem_cons.mpr ⟨neN (by dsimp only; omega), List.forall_mem_cons.mpr ⟨neN (by dsimp only; omega), fun p hp => ?_⟩⟩⟩⟩⟩⟩
    rcases List.mem_append.mp hp with hp | hp
    · obtain ⟨e9, h9, rfl⟩ := List.mem_map.mp hp
      have := hup2 e9 h9
      exact neN (by dsimp only [Ent.o]; omega)
    · exact (offR2 p hp).2.2.1)
  have N8 : News h₀ L g6 (lawD w L o2 o3 o4n o5 eD2 pD2 rL2 e12 e22 n22 es2 ys2 R2) := News.sub N7 sub_c2
  show wpAny _ _ (execs _ _) _ _ _
  exact law_rest2 B F6 X N8 T hdp hun rfl offR2 J2 C5 hcc ⟨rfl, rfl, rfl⟩ c2 d6 c5 k
end

theorem off_B33 : True := by
  w_top off
  exact True.intro
noncomputable abbrev law_d2 : List Stmt := [lawSt.1.2.1, lawSt.1.2.2.1, lawSt.1.2.2.2.1, lawSt.1.2.2.2.2.1, lawSt.1.2.2.2.2.2.1, lawSt.1.2.2.2.2.2.2.1, lawSt.1.2.2.2.2.2.2.2.1, lawSt.1.2.2.2.2.2.2.2.2.1, lawSt.1.2.2.2.2.2.2.2.2.2.1, lawSt.1.2.2.2.2.2.2.2.2.2.2]
theorem law_mids {pn eD pD rL VL ML : Addr} {oV oM : Obj} {m5 : List (Addr × Obj)} {rest : List Addr} (S : Sep (lawM pn eD pD rL m5 []) rest) (hV : ∀ b ∈ lawM pn eD pD rL m5 [] ++ rest, @LT.lt Nat _ b VL) (hM : ∀ b ∈ lawM pn eD pD rL m5 [] ++ rest, @LT.lt Nat _ b ML) (h : @LT.lt Nat _ VL ML) : Sep (lawM pn eD pD rL (m5 ++ [(VL, oV), (ML, oM)]) []) rest := by
  have e : (ML :: VL :: lawM pn eD pD rL m5 []).Perm (lawM pn eD pD rL (m5 ++ [(VL, oV), (ML, oM)]) []) := by
    have e1 : lawM pn eD pD rL (m5 ++ [(VL, oV), (ML, oM)]) [] = lawM pn eD pD rL m5 [] ++ [VL, ML] := by simp [lawM]
    rw [e1]
    exact (List.Perm.swap VL ML _).trans (List.perm_append_comm (l₁ := [VL, ML]))
  refine ((S.new hV).new fun b hb => ?_).perm e
  rcases List.mem_append.mp hb with hb | hb
  · rcases List.mem_cons.mp hb with rfl | hb
    · exact h
    · exact hM b (List.mem_append_left _ hb)
  · exact hM b (List.mem_append_right _ hb)
theorem sub_start {α : Type} {D M V T K P E Q S C1 C2 C3 C4 C5 : α} {X R : List α} : ∀ p ∈ P :: E :: Q :: S :: ([C1, C2, C3, C4, C5, V, M] ++ (X ++ T :: K :: R)), p ∈ D :: M :: V :: T :: K :: P :: E :: Q :: S :: C1 :: C2 :: C3 :: C4 :: C5 :: (X ++ R) := by
  intro p hp
  simp only [List.mem_cons, List.mem_append, List.not_mem_nil, or_false] at hp ⊢
  grind
section
variable {w : World} {dp un : Nat} {gd : Option (List Code)} {cn : Str} {a : Addr} {ccd : Value} {outer : List Env} {A₀ : Around} {base h₀ : Heap} {L : Addr} {m : Str → Option Value} {news : List (Addr × Obj)} {s : Shared}
    {loose : List Str} {mean : ExcName → Option Value} {mg mb : Str → Option Value} {Q : Flow → Shared → Prop} {E : Value → Shared → Prop}
    (B : Below A₀ base outer h₀) (F : Fr h₀ L s.heap m) (X : (pre.heap_1 w.params).In h₀) (N : News h₀ L s.heap news) (T : Top pre.view_1 loose mean mg mb h₀) (hdp : dp < 820) (hun : un < 8500)
include B F X N T hdp hun
theorem law_after {pn tA aA eD pD rL DS : Addr} {ws : List Value} {ns : List Int} {c1 c2 c3 c4 c5 : Obj} {u : Tok} {np d1 d2 d3 : Nat} {R : List (Addr × Obj)}
    (hn : news = lawL w pn eD pD rL DS 0 u np d1 d2 d3 [(L + 1, c1), (L + 1 + 1, c2), (L + 1 + 1 + 1, c3), (L + 1 + 1 + 1 + 1, c4), (L + 1 + 1 + 1 + 1 + 1, c5)] [] [] R)
    (J : CoreJ w tA aA eD pD rL DS ws [] [] R) (S : Sep (lawM pn eD pD rL [(L + 1, c1), (L + 1 + 1, c2), (L + 1 + 1 + 1, c3), (L + 1 + 1 + 1 + 1, c4), (L + 1 + 1 + 1 + 1 + 1, c5)] []) (R.map (·.1)))
    (hI : IntsAre ws ns) (hlen : ws.length ≤ 1000) (q1 : @LT.lt Nat _ (L + 1 + 1 + 1 + 1 + 1) pn) (q2 : @LT.lt Nat _ pn eD) (q3 : @LT.lt Nat _ eD pD) (q4 : @LT.lt Nat _ pD rL)
    (hm1 : m (Str.ofString "pan") = some (.ref pn)) (hm2 : m (Str.ofString "table") = some (.ref tA)) (hm3 : m (Str.ofString "array") = some (.ref aA))
    (hc1 : ∃ x, c1.data = .cell x) (hc2 : ∃ x, c2.data = .cell x) (hc3 : ∃ x, c3.data = .cell x) (hc4 : ∃ x, c4.data = .cell x) (hc5 : ∃ x, c5.data = .cell x)
    (k : ∀ h' tk' m' news', Fr h₀ L h' m' → News h₀ L h' news' → Q (.ret (.bool true)) { s with heap := h', toks := tk' }) :
    wpAny (model (RowW.prog (OpenRow.toRowW (OpenLaw.row PySem.Challenge.rw_rh0225_01))) w) (ktrTop dp un gd cn lawCs L a ccd (lawCl L) outer) (execs law_d2 (envX cn lawCs L a ccd (lawCl L))) Q E s := by
  have X₁ : (pre.heap_1 w.params).In s.heap := X.keeps F.keep
  subst hn
  obtain ⟨x1, hd1⟩ := hc1
  have F1 := frKnow (frKnow (frKnow F _ _ hm1) _ _ ((if_neg (by decide)).trans hm2)) _ _ (((if_neg (by decide)).trans (if_neg (by decide))).trans hm3)
  clear F
  dsimp only [lawL, List.cons_append, List.nil_append] at N
  dsimp only [law_d2, lawSt, lawCs, lawSc]
  k_steps
  rename_i KL hKL lK TL hTL lT VL hVL lV ML hML lM D hD lD ha hb hc he c1n d1n hz F9 N9
  have aK := of_allLt (l := lawL w pn eD pD rL DS 0 u np d1 d2 d3 [(L + 1, c1), (L + 1 + 1, c2), (L + 1 + 1 + 1, c3), (L + 1 + 1 + 1 + 1, c4), (L + 1 + 1 + 1 + 1 + 1, c5)] [] [] R) lK
  have aT := of_allLt (l := lawL w pn eD pD rL DS 0 u np d1 d2 d3 [(L + 1, c1), (L + 1 + 1, c2), (L + 1 + 1 + 1, c3), (L + 1 + 1 + 1 + 1, c4), (L + 1 + 1 + 1 + 1 + 1, c5)] [] [] R) lT.2
  have aV := of_allLt (l := lawL w pn eD pD rL DS 0 u np d1 d2 d3 [(L + 1, c1), (L + 1 + 1, c2), (L + 1 + 1 + 1, c3), (L + 1 + 1 + 1 + 1, c4), (L + 1 + 1 + 1 + 1 + 1, c5)] [] [] R) lV.2.2
  have aM := of_allLt (l := lawL w pn eD pD rL DS 0 u np d1 d2 d3 [(L + 1, c1), (L + 1 + 1, c2), (L + 1 + 1 + 1, c3), (L + 1 + 1 + 1 + 1, c4), (L + 1 + 1 + 1 + 1 + 1, c5)] [] [] R) lM.2.2.2
  have SR : Sep (lawM pn eD pD rL [(L + 1, c1), (L + 1 + 1, c2), (L + 1 + 1 + 1, c3), (L + 1 + 1 + 1 + 1, c4), (L + 1 + 1 + 1 + 1 + 1, c5)] []) (((TL, lstO [] 0) :: (KL, lstO [] 0) :: R).map (·.1)) := S.up (own := [(TL, lstO [] 0), (KL, lstO [] 0)]) lawM_in (fun q hq r hr => by
    simp only [List.mem_cons, List.not_mem_nil, or_false] at hr
    rcases hr with rfl | rfl
    · exact aT q hq
    · exact aK q hq)
  have inL : ∀ b ∈ lawM pn eD pD rL [(L + 1, c1), (L + 1 + 1, c2), (L + 1 + 1 + 1, c3), (L + 1 + 1 + 1 + 1, c4), (L + 1 + 1 + 1 + 1 + 1, c5)] [] ++ (((TL, lstO [] 0) :: (KL, lstO [] 0) :: R).map (·.1)), b = TL ∨ b = KL ∨ ∃ p ∈ lawL w pn eD pD rL DS 0 u np d1 d2 d3 [(L + 1, c1), (L + 1 + 1, c2), (L + 1 + 1 + 1, c3), (L + 1 + 1 + 1 + 1, c4), (L + 1 + 1 + 1 + 1 + 1, c5)] [] [] R, p.1 = b := by
    intro b hb
    rcases List.mem_append.mp hb with hb | hb
    · exact .inr (.inr (lawM_in b hb))
    rcases List.mem_cons.mp hb with rfl | hb
    · exact .inl rfl
    rcases List.mem_cons.mp hb with rfl | hb
    · exact .inr (.inl rfl)
    · obtain ⟨p, hp, rfl⟩ := List.mem_map.mp hb
      exact .inr (.inr ⟨p, .tail _ (.tail _ (.tail _ (.tail _ (List.mem_append_right _ (List.mem_append_right _ hp))))), rfl⟩)
  have SN := law_mids (oV := lstO [] 0) (oM := lstO [] 0) (VL := VL) (ML := ML) SR (fun b hb => by
    rcases inL b hb with rfl | rfl | ⟨p, hp, rfl⟩
    · exact lV.1
    · exact lV.2.1
    · exact aV p hp) (fun b hb => by
    rcases inL b hb with rfl | rfl | ⟨p, hp, rfl⟩
    · exact lM.2.1
    · exact lM.2.2.1
    · exact aM p hp) lM.1
  have N10 : News h₀ L _ (lawL w pn eD pD rL DS 0 u np d1 d2 d3 (lawMid L VL ML c1n c2 c3 c4 c5 [] [] 0 0) [] [] ((TL, lstO [] 0) :: (KL, lstO [] 0) :: R)) := News.sub N9 sub_start
  have O : LawO L pn eD pD rL ML := ⟨q1, q2, q3, q4, aM (rL, _) (.tail _ (.tail _ (.tail _ (.head _))))⟩
  have hs : ∀ p ∈ R, p ∈ (TL, lstO [] 0) :: (KL, lstO [] 0) :: R := fun p hp => .tail _ (.tail _ hp)
  refine held_open (law_loop1 (ws := ws) (ns := ns) (tA := tA) (aA := aA) (DS := DS) B F9 X N10 T hdp hun ⟨KL, TL, VL, c1n, c2, c3, c4, c5, 0, u, np, d1, d2, d3, 0, 0, [], [], [], [], _, ⟨rfl, rfl, rfl, rfl, rfl, rfl⟩, rfl, J.mono hs, ⟨⟨0, .tail _ (.head _)⟩, ⟨0, .head _⟩, ⟨rfl, fun j k v h => by simp at h⟩⟩, fun j v h => by simp at h, SN, Nat.le_refl _, rfl, Int.le_refl _, by omega, fun e he => absurd he List.not_mem_nil, d1n, hc2, hc3, hc4, hc5, aV (rL, _) (.tail _ (.tail _ (.tail _ (.head _)))), Nat.ne_of_lt lM.1⟩ O hI hlen ?_)
  intro n h3 tk3 m3 news3 F3 N3 I3 hn3
  obtain ⟨KL3, VL3, es, mvs, o2, o3, o4, o5, R3, N4, off4, J4, hg4, e2, e3, e4, e5⟩ := law_fin O N3 I3 hn3
  clear N10 N9 F9 SN inL SR aM aV aT aK N3 I3
  show wpAny _ _ (execs _ _) _ _ _
  k_steps
  refine held_open (law_loop2 B F3 X N4 T hdp hun rfl off4 J4 hg4 e2 e3 ?_)
  intro h5 tk5 m5 o2' o3' F5 N5 hg5 f2 f3
  show wpAny _ _ (execs _ _) _ _ _
  exact law_rest B F5 X N5 T hdp hun rfl off4 J4 hg5 f2 f3 e4 e5 k
end

theorem off_B34 : True := by
  w_top off
  exact True.intro
noncomputable abbrev mid0 (L : Addr) (c1 c2 c3 c4 c5 : Obj) : List (Addr × Obj) := [(L + 1, c1), (L + 1 + 1, c2), (L + 1 + 1 + 1, c3), (L + 1 + 1 + 1 + 1, c4), (L + 1 + 1 + 1 + 1 + 1, c5)]
noncomputable def upFrom : Nat → List Nat → Prop
  | _, [] => True
  | a, b :: l => a < b ∧ upFrom b l
theorem upFrom.nodup : ∀ {l : List Nat} {a : Nat}, upFrom a l → (∀ x ∈ l, a < x) ∧ l.Nodup
  | [], _, _ => ⟨fun _ h => (nomatch h), List.nodup_nil⟩
  | b :: l, a, h => by
    obtain ⟨h1, h2⟩ := upFrom.nodup h.2
    refine ⟨fun x hx => ?_, List.nodup_cons.mpr ⟨fun hm => Nat.lt_irrefl b (h1 b hm), h2⟩⟩
    rcases List.mem_cons.mp hx with rfl | hx
    · exact h.1
    · exact Nat.lt_trans h.1 (h1 x hx)
theorem nodup9 {l pn e p r : Nat} (h1 : l + 1 + 1 + 1 + 1 + 1 < pn) (h2 : pn < e) (h3 : e < p) (h4 : p < r) : [pn, e, p, r, l + 1, l + 1 + 1, l + 1 + 1 + 1, l + 1 + 1 + 1 + 1, l + 1 + 1 + 1 + 1 + 1].Nodup := by
  have s : ∀ x : Nat, x < x + 1 := Nat.lt_succ_self
  have d : [l + 1, l + 1 + 1, l + 1 + 1 + 1, l + 1 + 1 + 1 + 1, l + 1 + 1 + 1 + 1 + 1, pn, e, p, r].Nodup := by
    have h : upFrom l [l + 1, l + 1 + 1, l + 1 + 1 + 1, l + 1 + 1 + 1 + 1, l + 1 + 1 + 1 + 1 + 1, pn, e, p, r] := ⟨s _, s _, s _, s _, s _, h1, h2, h3, h4, trivial⟩
    exact (upFrom.nodup h).2
  exact (List.perm_append_comm (l₁ := [l + 1, l + 1 + 1, l + 1 + 1 + 1, l + 1 + 1 + 1 + 1, l + 1 + 1 + 1 + 1 + 1]) (l₂ := [pn, e, p, r])).nodup_iff.mp d
theorem sub_start2 {α : Type} {D Bl Bt E P R Pn DS C1 C2 C3 C4 C5 : α} {own2 own3 : List α} : ∀ p ∈ Pn :: E :: P :: R :: ([C1, C2, C3, C4, C5] ++ ([] ++ (D :: (own3 ++ (Bl :: Bt :: (own2 ++ [DS])))))), p ∈ D :: (own3 ++ (Bl :: Bt :: E :: P :: R :: (own2 ++ [Pn, DS, C5, C4, C3, C2, C1]))) := by
  intro p hp
  simp only [List.mem_cons, List.mem_append, List.not_mem_nil, or_false] at hp ⊢
  grind
theorem start_off {z l pn e p r : Nat} (q1 : l + 1 + 1 + 1 + 1 + 1 < pn) (q2 : pn < e) (q3 : e < p) (q4 : p < r) (z1 : r < z ∨ (z < e ∧ l + 1 + 1 + 1 + 1 + 1 < z)) (z2 : z ≠ pn) (h : z = pn ∨ z = e ∨ z = p ∨ z = r ∨ z = l + 1 ∨ z = l + 1 + 1 ∨ z = l + 1 + 1 + 1 ∨ z = l + 1 + 1 + 1 + 1 ∨ z = l + 1 + 1 + 1 + 1 + 1) : False := by
  have a1 : l + 1 + 1 + 1 + 1 + 1 < z := by
    rcases z1 with z1 | z1
    · exact Nat.lt_trans q1 (Nat.lt_trans q2 (Nat.lt_trans q3 (Nat.lt_trans q4 z1)))
    · exact z1.2
  have up : ∀ y, e ≤ y → y ≤ r → z = y → False := by
    rintro y h1 h2 rfl
    rcases z1 with z1 | z1
    · exact absurd z1 (Nat.not_lt.mpr h2)
    · exact absurd z1.1 (Nat.not_lt.mpr h1)
  rcases h with h | h | h | h | h | h | h | h | h
  · exact z2 h
  · exact up e (Nat.le_refl _) (Nat.le_of_lt (Nat.lt_trans q3 q4)) h
  · exact up p (Nat.le_of_lt q3) (Nat.le_of_lt q4) h
  · exact up r (Nat.le_of_lt (Nat.lt_trans q3 q4)) (Nat.le_refl _) h
  · exact neC1 a1 h.symm
  · exact neC2 a1 h.symm
  · exact neC3 a1 h.symm
  · exact neC4 a1 h.symm
  · exact neC5 a1 h.symm
theorem law_start {w : World} {h₀ h : Heap} {L bl bt eD pD rL pn DS tA aA D : Addr} {oD : Obj} {own2 own3 : List (Addr × Obj)} {c1 c2 c3 c4 c5 : Obj} {u v5 v6 : Tok} {ws : List Value} {d1 d2 d3 nb nt np nS : Nat}
    (N : News h₀ L h ((D, oD) :: (own3 ++ ((bl, lstO [.ref bt] nb) :: (bt, tupO [.int 1 v5, .int 3 v6] nt) :: (eD, dictOf [] d1) :: (pD, dictOf [] d2) :: (rL, lstO [] d3) :: (own2 ++ [(pn, lstO [.int 0 u, .ref DS] np), (DS, lstO ws nS), (L + 1 + 1 + 1 + 1 + 1, c5), (L + 1 + 1 + 1 + 1, c4), (L + 1 + 1 + 1, c3), (L + 1 + 1, c2), (L + 1, c1)])))))
    (hT : TabD w own2 tA 5 eD pD rL) (tf : TabF [(pn, lstO [.int 0 u, .ref DS] np), (DS, lstO ws nS), (L + 1 + 1 + 1 + 1 + 1, c5), (L + 1 + 1 + 1 + 1, c4), (L + 1 + 1 + 1, c3), (L + 1 + 1, c2), (L + 1, c1)] own2 eD pD rL)
    (hA : ArrD w (own3 ++ [(bl, lstO [.ref bt] nb), (bt, tupO [.int 1 v5, .int 3 v6] nt)]) aA 6)
    (up3 : ∀ p ∈ (bl, lstO [.ref bt] nb) :: (bt, tupO [.int 1 v5, .int 3 v6] nt) :: (eD, dictOf [] d1) :: (pD, dictOf [] d2) :: (rL, lstO [] d3) :: (own2 ++ [(pn, lstO [.int 0 u, .ref DS] np), (DS, lstO ws nS), (L + 1 + 1 + 1 + 1 + 1, c5), (L + 1 + 1 + 1 + 1, c4), (L + 1 + 1 + 1, c3), (L + 1 + 1, c2), (L + 1, c1)]), ∀ q ∈ own3, @LT.lt Nat _ p.1 q.1)
    (l1 : ∀ p ∈ own3 ++ ((bl, lstO [.ref bt] nb) :: (bt, tupO [.int 1 v5, .int 3 v6] nt) :: (eD, dictOf [] d1) :: (pD, dictOf [] d2) :: (rL, lstO [] d3) :: (own2 ++ [(pn, lstO [.int 0 u, .ref DS] np), (DS, lstO ws nS), (L + 1 + 1 + 1 + 1 + 1, c5), (L + 1 + 1 + 1 + 1, c4), (L + 1 + 1 + 1, c3), (L + 1 + 1, c2), (L + 1, c1)])), @LT.lt Nat _ p.1 D)
    (lB1 : AllLt bt ((eD, dictOf [] d1) :: (pD, dictOf [] d2) :: (rL, lstO [] d3) :: (own2 ++ [(pn, lstO [.int 0 u, .ref DS] np), (DS, lstO ws nS), (L + 1 + 1 + 1 + 1 + 1, c5), (L + 1 + 1 + 1 + 1, c4), (L + 1 + 1 + 1, c3), (L + 1 + 1, c2), (L + 1, c1)])))
    (lB2 : AllLt bl ((bt, tupO [.int 1 v5, .int 3 v6] nt) :: (eD, dictOf [] d1) :: (pD, dictOf [] d2) :: (rL, lstO [] d3) :: (own2 ++ [(pn, lstO [.int 0 u, .ref DS] np), (DS, lstO ws nS), (L + 1 + 1 + 1 + 1 + 1, c5), (L + 1 + 1 + 1 + 1, c4), (L + 1 + 1 + 1, c3), (L + 1 + 1, c2), (L + 1, c1)])))
    (lP : @LT.lt Nat _ DS pn) (lS : @LT.lt Nat _ (L + 1 + 1 + 1 + 1 + 1) DS) :
    ∃ R, News h₀ L h (lawL w pn eD pD rL DS 0 u np d1 d2 d3 [(L + 1, c1), (L + 1 + 1, c2), (L + 1 + 1 + 1, c3), (L + 1 + 1 + 1 + 1, c4), (L + 1 + 1 + 1 + 1 + 1, c5)] [] [] R) ∧ CoreJ w tA aA eD pD rL DS ws [] [] R ∧ Sep (lawM pn eD pD rL [(L + 1, c1), (L + 1 + 1, c2), (L + 1 + 1 + 1, c3), (L + 1 + 1 + 1 + 1, c4), (L + 1 + 1 + 1 + 1 + 1, c5)] []) (R.map (·.1)) ∧
      @LT.lt Nat _ (L + 1 + 1 + 1 + 1 + 1) pn ∧ @LT.lt Nat _ pn eD ∧ @LT.lt Nat _ eD pD ∧ @LT.lt Nat _ pD rL := by
  have q1 : @LT.lt Nat _ (L + 1 + 1 + 1 + 1 + 1) pn := Nat.lt_trans lS lP
  have q2 : @LT.lt Nat _ pn eD := tf.under (pn, lstO [.int 0 u, .ref DS] np) (List.mem_append_right _ (.head _))
  have q3 := tf.l1
  have q4 := tf.l2
  refine ⟨(D, oD) :: (own3 ++ ((bl, lstO [.ref bt] nb) :: (bt, tupO [.int 1 v5, .int 3 v6] nt) :: (own2 ++ [(DS, lstO ws nS)]))), News.sub N sub_start2, ?_, ?_, q1, q2, q3, q4⟩
  · refine ⟨hT.mono ?_, hA.mono ?_, ⟨nS, ?_⟩, ⟨tf.low1, fun _ h => (nomatch h), List.nodup_nil⟩, ⟨tf.low2, fun _ h => (nomatch h), List.nodup_nil⟩, rfl, fun j e h => by simp at h, fun e h => (nomatch h), fun e h => (nomatch h), List.nodup_nil⟩
    · intro p hp; exact .tail _ (List.mem_append_right _ (.tail _ (.tail _ (List.mem_append_left _ hp))))
    · intro p hp
      simp only [List.mem_cons, List.mem_append, List.not_mem_nil, or_false] at hp ⊢
      grind
    · exact .tail _ (List.mem_append_right _ (.tail _ (.tail _ (List.mem_append_right _ (.head _)))))
  · have lt1 := of_allLt lB1
    have lt2 := of_allLt lB2
    have key : ∀ q ∈ (D, oD) :: (own3 ++ ((bl, lstO [.ref bt] nb) :: (bt, tupO [.int 1 v5, .int 3 v6] nt) :: (own2 ++ [(DS, lstO ws nS)]))), (@LT.lt Nat _ rL q.1 ∨ (@LT.lt Nat _ q.1 eD ∧ @LT.lt Nat _ (L + 1 + 1 + 1 + 1 + 1) q.1)) ∧ @Ne Nat q.1 pn := by
      intro q hq
      have hr : (rL, lstO [] d3) ∈ own3 ++ ((bl, lstO [.ref bt] nb) :: (bt, tupO [.int 1 v5, .int 3 v6] nt) :: (eD, dictOf [] d1) :: (pD, dictOf [] d2) :: (rL, lstO [] d3) :: (own2 ++ [(pn, lstO [.int 0 u, .ref DS] np), (DS, lstO ws nS), (L + 1 + 1 + 1 + 1 + 1, c5), (L + 1 + 1 + 1 + 1, c4), (L + 1 + 1 + 1, c3), (L + 1 + 1, c2), (L + 1, c1)])) := List.mem_append_right _ (.tail _ (.tail _ (.tail _ (.tail _ (.head _)))))
      have up : ∀ z : Nat, @LT.lt Nat _ rL z → (@LT.lt Nat _ rL z ∨ (@LT.lt Nat _ z eD ∧ @LT.lt Nat _ (L + 1 + 1 + 1 + 1 + 1) z)) ∧ @Ne Nat z pn := fun z hz => ⟨.inl hz, neN (by omega)⟩
      rcases List.mem_cons.mp hq with rfl | hq
      · exact up _ (l1 _ hr)
      rcases List.mem_append.mp hq with hq | hq
      · exact up _ (up3 _ (.tail _ (.tail _ (.tail _ (.tail _ (.head _))))) q hq)
      rcases List.mem_cons.mp hq with rfl | hq
      · exact up _ (lt2 _ (.tail _ (.tail _ (.tail _ (.head _)))))
      rcases List.mem_cons.mp hq with rfl | hq
      · exact up _ (lt1 _ (.tail _ (.tail _ (.head _))))
      rcases List.mem_append.mp hq with hq | hq
      · have z1 := tf.under q (List.mem_append_left _ hq)
        have z2 := tf.up _ (.head _) q hq
        have z3 := tf.up _ (.tail _ (.tail _ (.head _))) q hq
        exact ⟨.inr ⟨z1, z3⟩, Nat.ne_of_gt z2⟩
      · rw [List.mem_singleton.mp hq]
        exact ⟨.inr ⟨Nat.lt_trans lP q2, lS⟩, Nat.ne_of_lt lP⟩
    refine ⟨nodup9 q1 q2 q3 q4, fun b hb hr => ?_⟩
    obtain ⟨q, hq, rfl⟩ := List.mem_map.mp hr
    obtain ⟨z1, z2⟩ := key q hq
    have hb' : q.1 = pn ∨ q.1 = eD ∨ q.1 = pD ∨ q.1 = rL ∨ q.1 = L + 1 ∨ q.1 = L + 1 + 1 ∨ q.1 = L + 1 + 1 + 1 ∨ q.1 = L + 1 + 1 + 1 + 1 ∨ q.1 = L + 1 + 1 + 1 + 1 + 1 := by
      simpa [lawM] using hb
    exact start_off (z := q.1) q1 q2 q3 q4 z1 z2 hb'
section
variable {w : World} {dp un : Nat} {gd : Option (List Code)} {cn : Str} {a : Addr} {ccd : Value} {outer : List Env} {A₀ : Around} {base h₀ : Heap} {L : Addr} {m : Str → Option Value} {news : List (Addr × Obj)} {s : Shared}
    {loose : List Str} {mean : ExcName → Option Value} {mg mb : Str → Option Value} {Q : Flow → Shared → Prop} {E : Value → Shared → Prop}
    (B : Below A₀ base outer h₀) (F : Fr h₀ L s.heap m) (X : (pre.heap_1 w.params).In h₀) (N : News h₀ L s.heap news) (T : Top pre.view_1 loose mean mg mb h₀) (hdp : dp < 820) (hun : un < 8500)
include B F X N T hdp hun
theorem law_after2 {cl : List (Str × Addr)} (hcl : cl = lawCl L) {pn tA aA eD pD rL DS : Addr} {ws : List Value} {ns : List Int} {c1 c2 c3 c4 c5 : Obj} {u : Tok} {np d1 d2 d3 : Nat} {R : List (Addr × Obj)}
    (hn : news = lawL w pn eD pD rL DS 0 u np d1 d2 d3 [(L + 1, c1), (L + 1 + 1, c2), (L + 1 + 1 + 1, c3), (L + 1 + 1 + 1 + 1, c4), (L + 1 + 1 + 1 + 1 + 1, c5)] [] [] R)
    (J : CoreJ w tA aA eD pD rL DS ws [] [] R) (S : Sep (lawM pn eD pD rL [(L + 1, c1), (L + 1 + 1, c2), (L + 1 + 1 + 1, c3), (L + 1 + 1 + 1 + 1, c4), (L + 1 + 1 + 1 + 1 + 1, c5)] []) (R.map (·.1)))
    (hI : IntsAre ws ns) (hlen : ws.length ≤ 1000) (q1 : @LT.lt Nat _ (L + 1 + 1 + 1 + 1 + 1) pn) (q2 : @LT.lt Nat _ pn eD) (q3 : @LT.lt Nat _ eD pD) (q4 : @LT.lt Nat _ pD rL)
    (hm1 : m (Str.ofString "pan") = some (.ref pn)) (hm2 : m (Str.ofString "table") = some (.ref tA)) (hm3 : m (Str.ofString "array") = some (.ref aA))
    (hc1 : ∃ x, c1.data = .cell x) (hc2 : ∃ x, c2.data = .cell x) (hc3 : ∃ x, c3.data = .cell x) (hc4 : ∃ x, c4.data = .cell x) (hc5 : ∃ x, c5.data = .cell x)
    (k : ∀ h' tk' m' news', Fr h₀ L h' m' → News h₀ L h' news' → Q (.ret (.bool true)) { s with heap := h', toks := tk' }) :
    wpAny (model (RowW.prog (OpenRow.toRowW (OpenLaw.row PySem.Challenge.rw_rh0225_01))) w) (ktrTop dp un gd cn lawCs L a ccd cl outer) (execs law_d2 (envX cn lawCs L a ccd cl)) Q E s := by
  subst hcl
  exact law_after B F X N T hdp hun hn J S hI hlen q1 q2 q3 q4 hm1 hm2 hm3 hc1 hc2 hc3 hc4 hc5 k
end
theorem cells_law (L : Addr) : cellsFrom (L + 1) lawCs.names [] = lawCl L := rfl

theorem off_B19 : True := by
  w_top off
  exact True.intro
local macro_rules | `(tactic| k_qdec) => `(tactic| decide +kernel)
theorem law_holds : PySem.Challenge.rw_rh0225_01.Holds := hd (by
  intro d kwd ed
  obtain ⟨rfl, rfl⟩ := some_pair ed rfl
  w_strict (
    k_go0
    k_steps
    rename_i c5 c4 c3 c2 c1 e5 e4 e3 e2 e1 X0 DS ws gS hIS hCS hLS lS pn gP FP NP lP
    refine' held_open (call_Table2 ?qB ?qF ?qX ?qN ?qT ?qd ?qu ?_)
    (case qF => k_asm)
    (case qN => k_asm)
    (case qB => k_asm)
    (case qX => k_asm)
    (case qT => k_asm)
    (case qd => first | k_room | decide | (show _ < _; decide))
    (case qu => first | k_units | decide | (show _ < _; decide))
    intro g2 tk2 tA eD pD rL own2 d1 d2 d3 F2 N2 hT tf
    k_steps
    refine' held_open (call_Array ?qB ?qF ?qX ?qN ?qT ?qd ?qu ?qh1 ?qh2 ?_)
    (case qF => k_asm)
    (case qN => k_asm)
    (case qB => k_asm)
    (case qX => k_asm)
    (case qT => k_asm)
    (case qd => first | k_room | decide | (show _ < _; decide))
    (case qu => first | k_units | decide | (show _ < _; decide))
    (case qh1 => k_mem)
    (case qh2 => k_mem)
    intro g3 tk3 aA own3 F3 N3 hA up3
    rename_i bt gB1 lB1 bl gB2 FB2 NB2 lB2
    repeat' ((fail_if_success (with_reducible show wpAny _ _ (execs (Stmt.Assign _ _ _ :: _) _) _ _ _)); (first | (k_unfold; (try dsimp only)) | (k_end; wrow_close) | walk1 | (dsimp only; walk1) | (leave1; walk_say "STEP leave1"; try dsimp only)))
    rename_i D9 h9 l9 ha hb hc he F9 N9
    obtain ⟨R9, N10, J10, S10, q1, q2, q3, q4⟩ := law_start N9 hT tf hA up3 l9 lB1 lB2 lP.1 lS.1
    refine' law_after2 ?qB ?qF ?qX ?qN ?qT ?qd ?qu ?qhcl ?qhn J10 S10 hIS ?qlen q1 q2 q3 q4 ?qm1 ?qm2 ?qm3 ⟨_, e1⟩ ⟨_, e2⟩ ⟨_, e3⟩ ⟨_, e4⟩ ⟨_, e5⟩ ?qfin
    (case qF => exact F9)
    (case qN => exact N10)
    (case qhcl => exact cells_law _)
    (case qhn => rfl)
    (case qB => k_asm)
    (case qX => k_asm)
    (case qT => k_asm)
    (case qd => first | k_room | decide | (show _ < _; decide))
    (case qu => first | k_units | decide | (show _ < _; decide))
    (case qlen => rw [IntsAre.length hIS]; omega)
    (case qm1 => rfl)
    (case qm2 => rfl)
    (case qm3 => rfl)
    (case qfin =>
      intro g8 tk8 m8 news8 F8 N8
      k_end; wrow_close)))

end Mine

theorem PySem.Challenge.cw_rh0225_01_holds : PySem.Challenge.rw_rh0225_01.Holds :=
  Mine.law_holds
