import PyProof.Rows.All
import Wide.All
import OpenK.AllK
import Wide.FinOn
import KE.KStateDown
import HandS.Base
import HandS.Call
import HandS.List
import HandS.Comp
import HandS.Ends
import HandS.Dict
import HandS.Iter
import HandS.Text
import HandS.More
import HandS.Exc
import HandS.Words
import HandS.WordsList
import HandS.WordsDict
import HandS.WordsExc
import HandS.Defaults
import HandS.Star
import HandS.ClsMeth
import HandS.Property
import HandS.IsInst
import HandS.OwnEq
import HandS.Walk
import HandS.Zip
import HandS.Conv
import HandS.Style
import HandS.FStr
import HandS.Deep
import HandS.DictComp
import HandS.SetKeys
import HandS.Strs
import HandS.Codes
import HandS.Flow
import HandS.TryOnly
import HandS.Head0
import HandS.Head1
import HandS.Head2
import HandS.HeadEnd
import HandS.HeadHook1
import HandS.HeadHook2
import HandS.HeadNt
import PySem.Challenge.RW_firstneed_k12_whole_redexes_and_steps
import HandS.TupAny
import KE.GoesMore
import KE.GoesEnum
import KE.KFmtOwn
import PyProof.InstNe
import HandS.SlotsOwn
import HandS.RaiseMore
import PyProof.FitsReplace
import KE.KDictZip
import HandS.ListItems
import PyProof.AutoIntOps
import PyProof.DictUpdate
import PyProof.ReprRoads
import PyProof.Rows.ReprR
import PyProof.ReprLen
import PyProof.SliceList
import OpenK.KWalk
import PyProof.EqAt
import PyProof.MeetsSeq
import PyProof.MeetsIn
set_option Elab.async false
set_option linter.all false
set_option maxRecDepth 100000
set_option maxHeartbeats 4000000
namespace FN
open PySem PySem.Spec PyProof.Rows L2
/-! ### the text by places -/
def top (i : Nat) : Stmt := PySem.Challenge.pw_firstneed_k12_whole_redexes_and_steps.main.body.getD i (.Pass ⟨0, 0, 0, 0⟩)

/-! ### readings, one row each: what a head asks -/
section
variable {K : PySem.W.Frag} {σ : L2.St} {H : Hp} {Q : VK} {nx bk ct : L2.St → Hp → Prop} {rt : VK} {ta tb te : TE} {t u : TT}
theorem rd_seq {t u : TS} (h : t ⟨u ⟨nx, rt, bk, ct⟩, rt, bk, ct⟩ σ H) : tSeq t u ⟨nx, rt, bk, ct⟩ σ H := h
theorem rd_asg {g : TG} (h : te σ H fun x H1 => g x σ H1 nx) : tAsg te g ⟨nx, rt, bk, ct⟩ σ H := h
theorem rd_name {i : Nat} {v : V} {Q : L2.St → Hp → Prop} (h : Q (σ.set i (some v)) H) : gName i v σ H Q := h
theorem rd_gnil {Q : L2.St → Hp → Prop} (h : Q σ H) : gNil [] σ H Q := ⟨rfl, h⟩
theorem rd_gcons {g : TG} {gs : TGs} {v : V} {vs : List V} {Q : L2.St → Hp → Prop} (h : g v σ H fun σ' H' => gs vs σ' H' Q) : gCons g gs (v :: vs) σ H Q := ⟨v, vs, rfl, h⟩
theorem rd_gtup {n : Nat} {gs : TGs} {a : Addr} {xs : List V} {Q : L2.St → Hp → Prop} (hx : SqT K H a xs) (hl : xs.length = n) (h : gs xs σ H Q) : gTup K n gs (.ref a) σ H Q := ⟨a, xs, rfl, hx, hl, h⟩
theorem rd_ret (h : te σ H rt) : tRet te ⟨nx, rt, bk, ct⟩ σ H := h
theorem rd_retN (h : rt .non H) : tRetN ⟨nx, rt, bk, ct⟩ σ H := h
theorem rd_drop (h : te σ H fun _ H1 => nx σ H1) : tDrop te ⟨nx, rt, bk, ct⟩ σ H := h
theorem rd_if {t u : TS} {c : TT} (h : c σ H fun b H1 => if b = true then t ⟨nx, rt, bk, ct⟩ σ H1 else u ⟨nx, rt, bk, ct⟩ σ H1) : tIfS c t u ⟨nx, rt, bk, ct⟩ σ H := h
theorem rd_next (h : nx σ H) : tNext ⟨nx, rt, bk, ct⟩ σ H := h
theorem rd_var {i : Nat} {v : V} (e : σ[i]? = some (some v)) (h : Q v H) : tVar i σ H Q := ⟨v, e, h⟩
theorem rd_c {v : V} (h : Q v H) : tC v σ H Q := h
theorem rd_op {r : R2} (h : ta σ H fun x H1 => tb σ H1 fun y H2 => r x y H2 Q) : tOp r ta tb σ H Q := h
theorem rd_un {r : V → Hp → VK → Prop} (h : ta σ H fun x H1 => r x H1 Q) : tUn r ta σ H Q := h
theorem rd_test {Q : Bool → Hp → Prop} (h : te σ H fun x H' => ∃ k, x = .bl k ∧ Q k H') : tTest te σ H Q := h
theorem rd_B {Q : Bool → Hp → Prop} (h : te σ H fun x H' => ∃ k, x = .bl k ∧ Q k H') : tB te σ H Q := h
theorem rd_I0 {g : Int → Int → V} {i j : Int} (h : Q (g i j) H) : rI0 g (.int i) (.int j) H Q := ⟨i, j, rfl, rfl, h⟩
theorem rd_I {C : Int → Int → Prop} {g : Int → Int → V} {i j : Int} (hc : C i j) (h : Q (g i j) H) : rI C g (.int i) (.int j) H Q := ⟨i, j, rfl, rfl, hc, h⟩
theorem rd_U {g : Int → V} {i : Int} (h : Q (g i) H) : rU g (.int i) H Q := ⟨i, rfl, h⟩
theorem rd_eqI {x y : Int} (h : Q (.bl (decide (x = y))) H) : rEq (.int x) (.int y) H Q := ⟨rfl, by
  have e : decide (V.int x = V.int y) = decide (x = y) := by rw [dec_int]; by_cases h : x = y <;> simp [h]
  rw [e]; exact h⟩
theorem rd_neI {x y : Int} (h : Q (.bl (!decide (x = y))) H) : rNe (.int x) (.int y) H Q := ⟨rfl, by
  have e : decide (V.int x = V.int y) = decide (x = y) := by rw [dec_int]; by_cases h : x = y <;> simp [h]
  rw [e]; exact h⟩
theorem rd_eqS {x y : Str} (h : Q (.bl (decide (x = y))) H) : rEq (.str x) (.str y) H Q := ⟨rfl, by
  have e : decide (V.str x = V.str y) = decide (x = y) := by by_cases h : x = y <;> simp [h]
  rw [e]; exact h⟩
theorem rd_neS {x y : Str} (h : Q (.bl (!decide (x = y))) H) : rNe (.str x) (.str y) H Q := ⟨rfl, by
  have e : decide (V.str x = V.str y) = decide (x = y) := by by_cases h : x = y <;> simp [h]
  rw [e]; exact h⟩
theorem rd_neB {x y : Bool} (h : Q (.bl (!decide (x = y))) H) : rNe (.bl x) (.bl y) H Q := ⟨rfl, by
  have e : decide (V.bl x = V.bl y) = decide (x = y) := by cases x <;> cases y <;> rfl
  rw [e]; exact h⟩
theorem rd_and {Q : Bool → Hp → Prop} (h : t σ H fun c H1 => if c = true then u σ H1 Q else Q false H1) : tAnd t u σ H Q := h
theorem rd_or {Q : Bool → Hp → Prop} (h : t σ H fun c H1 => if c = true then Q true H1 else u σ H1 Q) : tOr t u σ H Q := h
theorem rd_not {Q : Bool → Hp → Prop} (h : t σ H fun c H1 => Q (!c) H1) : tNot t σ H Q := h
theorem rd_andV (h : ta σ H fun x H1 => ∃ c, x = .bl c ∧ if c = true then tb σ H1 Q else Q (.bl false) H1) : tAndV ta tb σ H Q := h
theorem rd_orV (h : ta σ H fun x H1 => ∃ c, x = .bl c ∧ if c = true then Q (.bl true) H1 else tb σ H1 Q) : tOrV ta tb σ H Q := h
theorem rd_notV (h : ta σ H fun x H1 => ∃ c, x = .bl c ∧ Q (.bl (!c)) H1) : tNotV ta σ H Q := h
theorem rd_ife (h : t σ H fun c H1 => if c = true then ta σ H1 Q else tb σ H1 Q) : tIf t ta tb σ H Q := h
theorem rd_chain {r r' : R2} {tc : TE} (h : ta σ H fun x H1 => tb σ H1 fun y H2 => r x y H2 fun z H3 => ∃ k, z = .bl k ∧ (if k = true then tc σ H3 fun w' H4 => r' y w' H4 Q else Q (.bl false) H3)) : tChain r r' ta tb tc σ H Q := h
theorem rd_exb {b : Bool} {P : Bool → Prop} (h : P b) : ∃ k, V.bl b = .bl k ∧ P k := ⟨b, rfl, h⟩
theorem rd_nil {Q : List V → Hp → Prop} (h : Q [] H) : tNil σ H Q := h
theorem rd_cons {tr : TA} {Q : List V → Hp → Prop} (h : ta σ H fun x H1 => tr σ H1 fun xs H2 => Q (x :: xs) H2) : tCons ta tr σ H Q := h
theorem rd_CB {r : List V → Hp → VK → Prop} {t : TA} (h : t σ H fun vs H1 => r vs H1 Q) : tCB r t σ H Q := h
theorem nox_K {CX : CXT} {P : Program} {w : World} {K : PySem.W.Frag} {mg : Str → Option Value} {base : Heap} {N : List Str} {q : Str} {sc : Scope} {f : Addr} {cdv : Value} {A : Around} {outer : List Env} {s : Shared} {H : Hp} {E : XK} : (cxOf CX P w K mg base N q sc f cdv A outer s H E).nox.K = K := rfl
theorem rd_st {t : TS} {D : Ends} {σ σ' : L2.St} {H : Hp} (e : σ = σ') (h : t D σ' H) : t D σ H := by rw [e]; exact h
theorem rd_yes {Q : Bool → Hp → Prop} (h : Q true H) : tYes σ H Q := h
theorem rd_T {A B : Prop} (h : A) : if true = true then A else B := by rw [if_pos rfl]; exact h
theorem rd_F {A B : Prop} (h : B) : if false = true then A else B := by rw [if_neg (by decide)]; exact h
theorem rd_nT {A B : Prop} (h : B) : if (!true) = true then A else B := by rw [if_neg (by decide)]; exact h
theorem rd_nF {A B : Prop} (h : A) : if (!false) = true then A else B := by rw [if_pos (by decide)]; exact h
theorem rd_dT {p : Prop} [Decidable p] {A B : Prop} (hp : p) (h : A) : if decide p = true then A else B := by rw [if_pos (decide_eq_true hp)]; exact h
theorem rd_dF {p : Prop} [Decidable p] {A B : Prop} (hp : ¬ p) (h : B) : if decide p = true then A else B := by rw [if_neg (by rw [decide_eq_false hp]; decide)]; exact h
theorem rd_ndT {p : Prop} [Decidable p] {A B : Prop} (hp : p) (h : B) : if (!decide p) = true then A else B := by rw [if_neg (by rw [decide_eq_true hp]; decide)]; exact h
theorem rd_ndF {p : Prop} [Decidable p] {A B : Prop} (hp : ¬ p) (h : A) : if (!decide p) = true then A else B := by rw [if_pos (by rw [decide_eq_false hp]; decide)]; exact h
theorem rd_bT {b : Bool} {A B : Prop} (hp : b = true) (h : A) : if b = true then A else B := by rw [if_pos hp]; exact h
theorem rd_bF {b : Bool} {A B : Prop} (hp : b = false) (h : B) : if b = true then A else B := by rw [if_neg (by rw [hp]; decide)]; exact h
/-- isinstance of what is known -/
theorem rd_isi_int {i : Int} {T : String} {b : Bool} (hk : kitB "int" T = some b) (h : Q (.bl b) H) : rIsi K [.int i, .ty T] H Q := ⟨_, _, _, _, _, rfl, .ty T, .base (.int i), kit_ty hk, h⟩
theorem rd_isi_str {i : Str} {T : String} {b : Bool} (hk : kitB "str" T = some b) (h : Q (.bl b) H) : rIsi K [.str i, .ty T] H Q := ⟨_, _, _, _, _, rfl, .ty T, .base (.str i), kit_ty hk, h⟩
theorem rd_isi_tup {a : Addr} {xs : List V} {T : String} {b : Bool} (ha : H a = some (.tup xs)) (hk : kitB "tuple" T = some b) (h : Q (.bl b) H) : rIsi K [.ref a, .ty T] H Q := ⟨_, _, _, _, _, rfl, .ty T, .base (.tup ha), kit_ty hk, h⟩
theorem rd_isi_dK {a : Addr} {kvs : List (Key × V)} {T : String} {b : Bool} (ha : H a = some (.dK kvs)) (hk : kitB "dict" T = some b) (h : Q (.bl b) H) : rIsi K [.ref a, .ty T] H Q := ⟨_, _, _, _, _, rfl, .ty T, .base (.dK ha), kit_ty hk, h⟩
end
/-- a def's call by its promise -/
def tG (sp : Sp) (t : TA) : TE := fun σ H Q => t σ H fun vs H1 => sp vs H1 Q E0
theorem rd_G {sp : Sp} {t : TA} {σ : L2.St} {H : Hp} {Q : VK} (h : t σ H fun vs H1 => sp vs H1 Q E0) : tG sp t σ H Q := h
/-- a def of the module that keeps a promise -/
structure Gf (P : Program) (w : World) (K : PySem.W.Frag) (mg : Str → Option Value) (base : Heap) (x : Str) (k : Nat) (sp : Sp) : Prop where
  ex : ∃ f, FnR P w K mg base CX0 k f sp ∧ mg x = some (.ref f) ∧ PySem.W.keepIn K (.ref f) = true
theorem Gf.mono {P : Program} {w : World} {K : PySem.W.Frag} {mg : Str → Option Value} {base : Heap} {x : Str} {j k : Nat} {sp : Sp} (G : Gf P w K mg base x j sp) (h : j ≤ k) : Gf P w K mg base x k sp := by
  obtain ⟨f, F, a, b⟩ := G
  exact ⟨f, F.mono h, a, b⟩
theorem pe_g {X : Cx} {k : Nat} {x : Str} {sp : Sp} {e : Expr} {es : List Expr} {t : TA} {p pos : Pos} (G : Gf X.prog X.w X.K X.mg X.base x k sp) (hr : Room k X.A) (ha : PA X (e :: es) t) (hg : Gl X x := by rfl)
    (hd : (x == ("__debug__" : Str)) = false := by decide)
    (he : starEach (e :: es) X.env = (false, eval e X.env) :: starEach es X.env := by rfl) (hpl : (backTo pos (starEach es X.env)).any (·.1) = false := by rfl) :
    PE X (.Call (.Name x p) (e :: es) [] pos) (tG sp t) := by
  obtain ⟨f, F, hm, hk⟩ := G
  refine ⟨fun pins s σ H Q I h => ?_⟩
  refine wpAny_Call_Name_kw (ld_glob I hg hm ?_ hd)
  refine PySem.W.callWith_K (h₀ := X.base) I.ok.mod.kin hk (thn (ha.run pos pins s σ H _ I h) fun us s1 ⟨vs, H1, I1, r, q⟩ => ⟨I1.kIn, ?_⟩) he hpl
  exact wpAny_call (run_fnR F hr pass0 I1 r q)
/-- a def of the text -/
structure GD (K : PySem.W.Frag) (mg : Str → Option Value) (x : Str) (st : Stmt) (ps : List Str) : Prop where
  ex : ∃ f fd, FunD K x x (defArgs st) (defBody st) (defScope st) [] [] f fd ∧ mg x = some (.ref f) ∧ Binds K fd ps []
theorem GD.ok {P : Program} {w : World} {K : PySem.W.Frag} {mg : Str → Option Value} {base : Heap} {x : Str} {st : Stmt} {N ps : List Str} {k : Nat} {sp : Sp} (D : GD K mg x st ps) (S : FnScope N ps (defScope st)) (len : ∀ vs H Q E, sp vs H Q E → vs.length = ps.length)
    (hbody : ∀ (f : Addr) (cdv : Value) (A : Around) (outer : List Env) (s : Shared) (H : Hp) (vs : List V) (Q : VK) (E : XK), Room k (A.deeper (envOfC x (defScope st) s.heap.objs.size f cdv)) → sp vs H Q E →
      ∃ t, PSs (cxOf CX0 P w K mg base N x (defScope st) f cdv A outer s H E).nox (defBody st) t ∧ t { nx := fun _ H' => Q .non H', rt := Q } (start N vs) H) : Gf P w K mg base x (k + 1) sp := by
  obtain ⟨f, fd, F, hm, hb⟩ := D
  have G : FnOk P w K mg base CX0 (k + 1) f fd ps sp := F.ok S len fun cdv A outer s H vs Q E hr h => by
    obtain ⟨t, ht, q⟩ := hbody f cdv A outer s H vs Q E hr h
    exact ⟨t, PSs.nox ht, q⟩
  refine ⟨f, ?_, hm, F.kp⟩
  exact (G.raw hb .nil).imp fun vs H Q E h => by rw [List.append_nil]; exact h
/-- a module's number, text -/
theorem pe_gI {X : Cx} {x : Str} {i : Int} {pos : Pos} (h : ∃ t, X.mg x = some (.int i t)) (hg : Gl X x := by rfl) (hd : (x == ("__debug__" : Str)) = false := by decide) : PE X (.Name x pos) (tC (.int i)) := by
  obtain ⟨t, e⟩ := h
  exact pe_glob hg e ⟨t, rfl⟩ hd
theorem pe_gS {X : Cx} {x z : Str} {pos : Pos} (h : ∃ t, X.mg x = some (.str z t)) (hg : Gl X x := by rfl) (hd : (x == ("__debug__" : Str)) = false := by decide) : PE X (.Name x pos) (tC (.str z)) := by
  obtain ⟨t, e⟩ := h
  exact pe_glob hg e ⟨t, rfl⟩ hd
end FN
set_option maxHeartbeats 4000000
namespace FN
open PySem PySem.Spec PyProof.Rows L2
abbrev s_is_integer : Stmt := top 9
abbrev s_is_within : Stmt := top 10
abbrev s_is_word : Stmt := top 11
abbrev s_is_node : Stmt := top 12
abbrev s_is_symbols : Stmt := top 13
abbrev s_ascending_rows : Stmt := top 14
abbrev s_children_of : Stmt := top 26
abbrev s_ends_of : Stmt := top 27
abbrev s_arities_in : Stmt := top 28
abbrev s_is_term_row : Stmt := top 29
abbrev s_text_of : Stmt := top 30
abbrev s_tokens_of : Stmt := top 31
abbrev s_Reader___init__ : Stmt := inClass (top 32) 0
abbrev s_Reader_take : Stmt := inClass (top 32) 1
abbrev s_Reader_take_word : Stmt := inClass (top 32) 2
abbrev s_nodes_of : Stmt := top 33
abbrev s_require_term : Stmt := top 34
abbrev s_Nodes___init__ : Stmt := inClass (top 36) 0
abbrev s_term_in : Stmt := top 37
abbrev s_Term___init__ : Stmt := inClass (top 38) 0
abbrev s_Term_read : Stmt := inClass (top 38) 2
abbrev s_Term_text : Stmt := inClass (top 38) 4
abbrev s_Term_is_ground : Stmt := inClass (top 38) 8
abbrev s_Term_require_place : Stmt := inClass (top 38) 10
abbrev s_Term_fillings : Stmt := inClass (top 38) 18
abbrev s_Term___eq__ : Stmt := inClass (top 38) 25
abbrev s_Term___str__ : Stmt := inClass (top 38) 26
abbrev s_places_with : Stmt := top 39
abbrev s_part_in : Stmt := top 40
abbrev s_nodes_filled : Stmt := top 41
abbrev s_matches : Stmt := top 42
abbrev s_met_places : Stmt := top 43
abbrev s_is_term_of : Stmt := top 53
abbrev s_is_side : Stmt := top 54
abbrev s_is_rule : Stmt := top 55
abbrev s_parts_in : Stmt := top 56
abbrev s_is_rules : Stmt := top 57
abbrev s_read_symbols : Stmt := top 58
abbrev s_read_rule : Stmt := top 59
abbrev s_side_of : Stmt := top 60
abbrev s_Book___init__ : Stmt := inClass (top 61) 0
abbrev s_Book_read : Stmt := inClass (top 61) 1
abbrev s_Book_require_term : Stmt := inClass (top 61) 9
abbrev s_Book_require_rule : Stmt := inClass (top 61) 10
abbrev s_Book_redexes : Stmt := inClass (top 61) 11
abbrev s_Book_rules_at : Stmt := inClass (top 61) 12
abbrev s_Book_is_result : Stmt := inClass (top 61) 13
abbrev s_Book_step : Stmt := inClass (top 61) 14
abbrev s_Book_is_step : Stmt := inClass (top 61) 15
abbrev s_fitting : Stmt := top 62
abbrev s_redexes_in : Stmt := top 63
abbrev s_is_ground_of : Stmt := top 64
abbrev s_nodes_put : Stmt := top 65
abbrev s_is_behind : Stmt := top 66
abbrev s__law_dice : Stmt := top 69
abbrev s__law_roll : Stmt := top 70
abbrev s__law_pick : Stmt := top 71
abbrev s__law_some : Stmt := top 72
abbrev s__law_nodes : Stmt := top 73
abbrev s__law_parts : Stmt := top 74
abbrev s__law_put : Stmt := top 75
abbrev s__law_fits : Stmt := top 76
abbrev s__law_filled : Stmt := top 77
abbrev s__law_leaves : Stmt := top 78
abbrev s__law_made_term : Stmt := top 79
abbrev s__law_term : Stmt := top 80
abbrev s__law_small_term : Stmt := top 81
abbrev s__law_symbols : Stmt := top 82
abbrev s__law_argument : Stmt := top 83
abbrev s__law_sketch : Stmt := top 84
abbrev s__law_book : Stmt := top 85
abbrev s__law_gustave : Stmt := top 86
abbrev s__law_made : Stmt := top 87
abbrev s__law_rules_at : Stmt := top 88
abbrev s__law_redexes : Stmt := top 89
abbrev s__law_is_behind : Stmt := top 90
abbrev s__law_pairs : Stmt := top 91
abbrev s__law_steps_right : Stmt := top 92
abbrev s__law_right : Stmt := top 93
abbrev s_law : Stmt := top 94
theorem sc_is_integer : FnScope ["value"] ["value"] (defScope s_is_integer) := ⟨rfl, rfl, rfl, by decide +kernel, rfl, by decide +kernel, by decide +kernel⟩
theorem sc_is_within : FnScope ["value", "least", "most"] ["value", "least", "most"] (defScope s_is_within) := ⟨rfl, rfl, rfl, by decide +kernel, rfl, by decide +kernel, by decide +kernel⟩
theorem sc_is_word : FnScope ["value", "sign"] ["value"] (defScope s_is_word) := ⟨rfl, rfl, rfl, by decide +kernel, rfl, by decide +kernel, by decide +kernel⟩
theorem sc_is_node : FnScope ["value"] ["value"] (defScope s_is_node) := ⟨rfl, rfl, rfl, by decide +kernel, rfl, by decide +kernel, by decide +kernel⟩
theorem sc_is_symbols : FnScope ["value", "arity", "word"] ["value"] (defScope s_is_symbols) := ⟨rfl, rfl, rfl, by decide +kernel, rfl, by decide +kernel, by decide +kernel⟩
theorem sc_ascending_rows : FnScope ["rows", "word"] ["rows"] (defScope s_ascending_rows) := ⟨rfl, rfl, rfl, by decide +kernel, rfl, by decide +kernel, by decide +kernel⟩
theorem sc_children_of : FnScope ["nodes", "found", "waiting", "at", "cut", "node"] ["nodes"] (defScope s_children_of) := ⟨rfl, rfl, rfl, by decide +kernel, rfl, by decide +kernel, by decide +kernel⟩
theorem sc_ends_of : FnScope ["children", "found", "at"] ["children"] (defScope s_ends_of) := ⟨rfl, rfl, rfl, by decide +kernel, rfl, by decide +kernel, by decide +kernel⟩
theorem sc_arities_in : FnScope ["nodes", "found", "word", "arity"] ["nodes"] (defScope s_arities_in) := ⟨rfl, rfl, rfl, by decide +kernel, rfl, by decide +kernel, by decide +kernel⟩
theorem sc_is_term_row : FnScope ["value", "node"] ["value"] (defScope s_is_term_row) := ⟨rfl, rfl, rfl, by decide +kernel, rfl, by decide +kernel, by decide +kernel⟩
theorem sc_text_of : FnScope ["nodes", "children", "at", "child"] ["nodes", "children", "at"] (defScope s_text_of) := ⟨rfl, rfl, rfl, by decide +kernel, rfl, by decide +kernel, by decide +kernel⟩
theorem sc_tokens_of : FnScope ["text", "found", "at", "size"] ["text"] (defScope s_tokens_of) := ⟨rfl, rfl, rfl, by decide +kernel, rfl, by decide +kernel, by decide +kernel⟩
theorem sc_Reader___init__ : FnScope ["self"] ["self"] (defScope s_Reader___init__) := ⟨rfl, rfl, rfl, by decide +kernel, rfl, by decide +kernel, by decide +kernel⟩
theorem sc_Reader_take : FnScope ["self", "token", "last", "index", "can_open"] ["self", "token"] (defScope s_Reader_take) := ⟨rfl, rfl, rfl, by decide +kernel, rfl, by decide +kernel, by decide +kernel⟩
theorem sc_Reader_take_word : FnScope ["self", "word"] ["self", "word"] (defScope s_Reader_take_word) := ⟨rfl, rfl, rfl, by decide +kernel, rfl, by decide +kernel, by decide +kernel⟩
theorem sc_nodes_of : FnScope ["text", "tokens", "reader", "token", "nodes", "node"] ["text"] (defScope s_nodes_of) := ⟨rfl, rfl, rfl, by decide +kernel, rfl, by decide +kernel, by decide +kernel⟩
theorem sc_require_term : FnScope ["value"] ["value"] (defScope s_require_term) := ⟨rfl, rfl, rfl, by decide +kernel, rfl, by decide +kernel, by decide +kernel⟩
theorem sc_Nodes___init__ : FnScope ["self", "nodes"] ["self", "nodes"] (defScope s_Nodes___init__) := ⟨rfl, rfl, rfl, by decide +kernel, rfl, by decide +kernel, by decide +kernel⟩
theorem sc_term_in : FnScope ["nodes"] ["nodes"] (defScope s_term_in) := ⟨rfl, rfl, rfl, by decide +kernel, rfl, by decide +kernel, by decide +kernel⟩
theorem sc_Term___init__ : FnScope ["self", "nodes"] ["self", "nodes"] (defScope s_Term___init__) := ⟨rfl, rfl, rfl, by decide +kernel, rfl, by decide +kernel, by decide +kernel⟩
theorem sc_Term_read : FnScope ["cls", "text", "nodes"] ["cls", "text"] (defScope s_Term_read) := ⟨rfl, rfl, rfl, by decide +kernel, rfl, by decide +kernel, by decide +kernel⟩
theorem sc_Term_text : FnScope ["self"] ["self"] (defScope s_Term_text) := ⟨rfl, rfl, rfl, by decide +kernel, rfl, by decide +kernel, by decide +kernel⟩
theorem sc_Term_is_ground : FnScope ["self"] ["self"] (defScope s_Term_is_ground) := ⟨rfl, rfl, rfl, by decide +kernel, rfl, by decide +kernel, by decide +kernel⟩
theorem sc_Term_require_place : FnScope ["self", "place"] ["self", "place"] (defScope s_Term_require_place) := ⟨rfl, rfl, rfl, by decide +kernel, rfl, by decide +kernel, by decide +kernel⟩
theorem sc_Term_fillings : FnScope ["self", "other", "place"] ["self", "other"] (defScope s_Term_fillings) := ⟨rfl, rfl, rfl, by decide +kernel, rfl, by decide +kernel, by decide +kernel⟩
theorem sc_Term___eq__ : FnScope ["self", "other"] ["self", "other"] (defScope s_Term___eq__) := ⟨rfl, rfl, rfl, by decide +kernel, rfl, by decide +kernel, by decide +kernel⟩
theorem sc_Term___str__ : FnScope ["self"] ["self"] (defScope s_Term___str__) := ⟨rfl, rfl, rfl, by decide +kernel, rfl, by decide +kernel, by decide +kernel⟩
theorem sc_places_with : FnScope ["nodes", "word", "at", "node"] ["nodes", "word"] (defScope s_places_with) := ⟨rfl, rfl, rfl, by decide +kernel, rfl, by decide +kernel, by decide +kernel⟩
theorem sc_part_in : FnScope ["term", "place"] ["term", "place"] (defScope s_part_in) := ⟨rfl, rfl, rfl, by decide +kernel, rfl, by decide +kernel, by decide +kernel⟩
theorem sc_nodes_filled : FnScope ["term", "terms", "found", "left", "node"] ["term", "terms"] (defScope s_nodes_filled) := ⟨rfl, rfl, rfl, by decide +kernel, rfl, by decide +kernel, by decide +kernel⟩
theorem sc_matches : FnScope ["term", "at", "other", "to", "pairs", "child", "under"] ["term", "at", "other", "to"] (defScope s_matches) := ⟨rfl, rfl, rfl, by decide +kernel, rfl, by decide +kernel, by decide +kernel⟩
theorem sc_met_places : FnScope ["term", "at", "other", "to", "found", "child", "under"] ["term", "at", "other", "to"] (defScope s_met_places) := ⟨rfl, rfl, rfl, by decide +kernel, rfl, by decide +kernel, by decide +kernel⟩
theorem sc_is_term_of : FnScope ["symbols", "value", "word", "arity"] ["symbols", "value"] (defScope s_is_term_of) := ⟨rfl, rfl, rfl, by decide +kernel, rfl, by decide +kernel, by decide +kernel⟩
theorem sc_is_side : FnScope ["symbols", "value"] ["symbols", "value"] (defScope s_is_side) := ⟨rfl, rfl, rfl, by decide +kernel, rfl, by decide +kernel, by decide +kernel⟩
theorem sc_is_rule : FnScope ["symbols", "value", "side"] ["symbols", "value"] (defScope s_is_rule) := ⟨rfl, rfl, rfl, by decide +kernel, rfl, by decide +kernel, by decide +kernel⟩
theorem sc_parts_in : FnScope ["patterns", "found", "pattern", "at"] ["patterns"] (defScope s_parts_in) := ⟨rfl, rfl, rfl, by decide +kernel, rfl, by decide +kernel, by decide +kernel⟩
theorem sc_is_rules : FnScope ["symbols", "value", "texts", "pattern", "sketch", "rule"] ["symbols", "value"] (defScope s_is_rules) := ⟨rfl, rfl, rfl, by decide +kernel, rfl, by decide +kernel, by decide +kernel⟩
theorem sc_read_symbols : FnScope ["line", "words", "pairs", "found", "word", "arity"] ["line"] (defScope s_read_symbols) := ⟨rfl, rfl, rfl, by decide +kernel, rfl, by decide +kernel, by decide +kernel⟩
theorem sc_read_rule : FnScope ["line", "sides", "found", "side"] ["line"] (defScope s_read_rule) := ⟨rfl, rfl, rfl, by decide +kernel, rfl, by decide +kernel, by decide +kernel⟩
theorem sc_side_of : FnScope ["text"] ["text"] (defScope s_side_of) := ⟨rfl, rfl, rfl, by decide +kernel, rfl, by decide +kernel, by decide +kernel⟩
theorem sc_Book___init__ : FnScope ["self", "symbols", "rules", "pattern", "sketch"] ["self", "symbols", "rules"] (defScope s_Book___init__) := ⟨rfl, rfl, rfl, by decide +kernel, rfl, by decide +kernel, by decide +kernel⟩
theorem sc_Book_read : FnScope ["cls", "lines", "symbols", "found", "at", "line", "rule"] ["cls", "lines"] (defScope s_Book_read) := ⟨rfl, rfl, rfl, by decide +kernel, rfl, by decide +kernel, by decide +kernel⟩
theorem sc_Book_require_term : FnScope ["self", "value"] ["self", "value"] (defScope s_Book_require_term) := ⟨rfl, rfl, rfl, by decide +kernel, rfl, by decide +kernel, by decide +kernel⟩
theorem sc_Book_require_rule : FnScope ["self", "rule"] ["self", "rule"] (defScope s_Book_require_rule) := ⟨rfl, rfl, rfl, by decide +kernel, rfl, by decide +kernel, by decide +kernel⟩
theorem sc_Book_redexes : FnScope ["self", "term"] ["self", "term"] (defScope s_Book_redexes) := ⟨rfl, rfl, rfl, by decide +kernel, rfl, by decide +kernel, by decide +kernel⟩
theorem sc_Book_rules_at : FnScope ["self", "term", "place"] ["self", "term", "place"] (defScope s_Book_rules_at) := ⟨rfl, rfl, rfl, by decide +kernel, rfl, by decide +kernel, by decide +kernel⟩
theorem sc_Book_is_result : FnScope ["self", "term"] ["self", "term"] (defScope s_Book_is_result) := ⟨rfl, rfl, rfl, by decide +kernel, rfl, by decide +kernel, by decide +kernel⟩
theorem sc_Book_step : FnScope ["self", "term", "place", "rule", "terms", "pattern", "sketch", "one"] ["self", "term", "place", "rule", "terms"] (defScope s_Book_step) := ⟨rfl, rfl, rfl, by decide +kernel, rfl, by decide +kernel, by decide +kernel⟩
theorem sc_Book_is_step : FnScope ["self", "one", "place", "rule", "other", "pattern", "sketch"] ["self", "one", "place", "rule", "other"] (defScope s_Book_is_step) := ⟨rfl, rfl, rfl, by decide +kernel, rfl, by decide +kernel, by decide +kernel⟩
theorem sc_fitting : FnScope ["book", "term", "place", "at", "rule"] ["book", "term", "place"] (defScope s_fitting) := ⟨rfl, rfl, rfl, by decide +kernel, rfl, by decide +kernel, by decide +kernel⟩
theorem sc_redexes_in : FnScope ["book", "term", "place"] ["book", "term"] (defScope s_redexes_in) := ⟨rfl, rfl, rfl, by decide +kernel, rfl, by decide +kernel, by decide +kernel⟩
theorem sc_is_ground_of : FnScope ["book", "value"] ["book", "value"] (defScope s_is_ground_of) := ⟨rfl, rfl, rfl, by decide +kernel, rfl, by decide +kernel, by decide +kernel⟩
theorem sc_nodes_put : FnScope ["term", "place", "nodes"] ["term", "place", "nodes"] (defScope s_nodes_put) := ⟨rfl, rfl, rfl, by decide +kernel, rfl, by decide +kernel, by decide +kernel⟩
theorem sc_is_behind : FnScope ["one", "place", "sketch", "other", "end", "told", "term"] ["one", "place", "sketch", "other"] (defScope s_is_behind) := ⟨rfl, rfl, rfl, by decide +kernel, rfl, by decide +kernel, by decide +kernel⟩
theorem sc__law_dice : FnScope ["_law_script", "_law_spot", "_law_cell", "_law_great", "_law_blend"] ["_law_script", "_law_spot"] (defScope s__law_dice) := ⟨rfl, rfl, rfl, by decide +kernel, rfl, by decide +kernel, by decide +kernel⟩
theorem sc__law_roll : FnScope ["_law_dice_here", "_law_total", "_law_one", "_law_two", "_law_found"] ["_law_dice_here", "_law_total"] (defScope s__law_roll) := ⟨rfl, rfl, rfl, by decide +kernel, rfl, by decide +kernel, by decide +kernel⟩
theorem sc__law_pick : FnScope ["_law_dice_here", "_law_items"] ["_law_dice_here", "_law_items"] (defScope s__law_pick) := ⟨rfl, rfl, rfl, by decide +kernel, rfl, by decide +kernel, by decide +kernel⟩
theorem sc__law_some : FnScope ["_law_dice_here", "_law_items", "_law_size", "_law_left", "_law_turn"] ["_law_dice_here", "_law_items", "_law_size"] (defScope s__law_some) := ⟨rfl, rfl, rfl, by decide +kernel, rfl, by decide +kernel, by decide +kernel⟩
theorem sc__law_nodes : FnScope ["_law_term_here", "_law_found", "_law_one"] ["_law_term_here"] (defScope s__law_nodes) := ⟨rfl, rfl, rfl, by decide +kernel, rfl, by decide +kernel, by decide +kernel⟩
theorem sc__law_parts : FnScope ["_law_term_here", "_law_found", "_law_one"] ["_law_term_here"] (defScope s__law_parts) := ⟨rfl, rfl, rfl, by decide +kernel, rfl, by decide +kernel, by decide +kernel⟩
theorem sc__law_put : FnScope ["_law_term_here", "_law_place", "_law_other", "_law_one", "_law_args", "_law_left", "_law_size"] ["_law_term_here", "_law_place", "_law_other"] (defScope s__law_put) := ⟨rfl, rfl, rfl, by decide +kernel, rfl, by decide +kernel, by decide +kernel⟩
theorem sc__law_fits : FnScope ["_law_term_here", "_law_pattern", "_law_one", "_law_other"] ["_law_term_here", "_law_pattern"] (defScope s__law_fits) := ⟨rfl, rfl, rfl, by decide +kernel, rfl, by decide +kernel, by decide +kernel⟩
theorem sc__law_filled : FnScope ["_law_term_here", "_law_fillings", "_law_one"] ["_law_term_here", "_law_fillings"] (defScope s__law_filled) := ⟨rfl, rfl, rfl, by decide +kernel, rfl, by decide +kernel, by decide +kernel⟩
theorem sc__law_leaves : FnScope ["_law_term_here", "_law_word", "_law_rows", "_law_at"] ["_law_term_here", "_law_word"] (defScope s__law_leaves) := ⟨rfl, rfl, rfl, by decide +kernel, rfl, by decide +kernel, by decide +kernel⟩
theorem sc__law_made_term : FnScope ["_law_term_here"] ["_law_term_here"] (defScope s__law_made_term) := ⟨rfl, rfl, rfl, by decide +kernel, rfl, by decide +kernel, by decide +kernel⟩
theorem sc__law_term : FnScope ["_law_dice_here", "_law_symbols_here", "_law_leaves_here", "_law_deep", "_law_bare", "_law_word", "_law_one", "_law_at"] ["_law_dice_here", "_law_symbols_here", "_law_leaves_here", "_law_deep"] (defScope s__law_term) := ⟨rfl, rfl, rfl, by decide +kernel, rfl, by decide +kernel, by decide +kernel⟩
theorem sc__law_small_term : FnScope ["_law_dice_here", "_law_symbols_here", "_law_leaves_here", "_law_deep", "_law_most", "_law_found"] ["_law_dice_here", "_law_symbols_here", "_law_leaves_here", "_law_deep", "_law_most"] (defScope s__law_small_term) := ⟨rfl, rfl, rfl, by decide +kernel, rfl, by decide +kernel, by decide +kernel⟩
theorem sc__law_symbols : FnScope ["_law_dice_here", "_law_sets", "_law_found"] ["_law_dice_here"] (defScope s__law_symbols) := ⟨rfl, rfl, rfl, by decide +kernel, rfl, by decide +kernel, by decide +kernel⟩
theorem sc__law_argument : FnScope ["_law_dice_here", "_law_symbols_here", "_law_way"] ["_law_dice_here", "_law_symbols_here"] (defScope s__law_argument) := ⟨rfl, rfl, rfl, by decide +kernel, rfl, by decide +kernel, by decide +kernel⟩
theorem sc__law_sketch : FnScope ["_law_dice_here", "_law_symbols_here", "_law_found"] ["_law_dice_here", "_law_symbols_here"] (defScope s__law_sketch) := ⟨rfl, rfl, rfl, by decide +kernel, rfl, by decide +kernel, by decide +kernel⟩
theorem sc__law_book : FnScope ["_law_dice_here", "_law_heads", "_law_turn", "_law_symbols_here", "_law_pairs_here", "_law_head", "_law_pattern", "_law_word", "_law_rule", "_law_at"] ["_law_dice_here"] (defScope s__law_book) := ⟨rfl, rfl, rfl, by decide +kernel, rfl, by decide +kernel, by decide +kernel⟩
theorem sc__law_gustave : FnScope ["_law_dice_here", "_law_rows", "_law_pairs_here", "_law_row", "_law_a", "_law_b", "_law_any_leaf"] ["_law_dice_here"] (defScope s__law_gustave) := ⟨rfl, rfl, rfl, by decide +kernel, rfl, by decide +kernel, by decide +kernel⟩
theorem sc__law_made : FnScope ["_law_book_here", "_law_pairs_here", "_law_pattern", "_law_sketch_here"] ["_law_book_here"] (defScope s__law_made) := ⟨rfl, rfl, rfl, by decide +kernel, rfl, by decide +kernel, by decide +kernel⟩
theorem sc__law_rules_at : FnScope ["_law_book_here", "_law_term_here", "_law_at"] ["_law_book_here", "_law_term_here"] (defScope s__law_rules_at) := ⟨rfl, rfl, rfl, by decide +kernel, rfl, by decide +kernel, by decide +kernel⟩
theorem sc__law_redexes : FnScope ["_law_book_here", "_law_term_here", "_law_rows", "_law_at"] ["_law_book_here", "_law_term_here"] (defScope s__law_redexes) := ⟨rfl, rfl, rfl, by decide +kernel, rfl, by decide +kernel, by decide +kernel⟩
theorem sc__law_is_behind : FnScope ["_law_term_here", "_law_place", "_law_sketch_here", "_law_other", "_law_rows", "_law_part", "_law_leaf"] ["_law_term_here", "_law_place", "_law_sketch_here", "_law_other"] (defScope s__law_is_behind) := ⟨rfl, rfl, rfl, by decide +kernel, rfl, by decide +kernel, by decide +kernel⟩
theorem sc__law_pairs : FnScope ["_law_term_here", "_law_sketch_here", "_law_found", "_law_one", "_law_other"] ["_law_term_here", "_law_sketch_here"] (defScope s__law_pairs) := ⟨rfl, rfl, rfl, by decide +kernel, rfl, by decide +kernel, by decide +kernel⟩
theorem sc__law_steps_right : FnScope ["_law_dice_here", "_law_book_here", "_law_made_here", "_law_term_here", "_law_place", "_law_at", "_law_sketch_here", "_law_size", "_law_put_here", "_law_near", "_law_other", "_law_due", "_law_args", "_law_first", "_law_behind", "_law_told", "_law_turn", "_law_one"] ["_law_dice_here", "_law_book_here", "_law_made_here", "_law_term_here", "_law_place", "_law_at"] (defScope s__law_steps_right) := ⟨rfl, rfl, rfl, by decide +kernel, rfl, by decide +kernel, by decide +kernel⟩
theorem sc__law_right : FnScope ["_law_dice_here", "_law_book_here", "_law_made_here", "_law_turn", "_law_leaves_here", "_law_term_here", "_law_ground", "_law_rows", "_law_place", "_law_redexes_here", "_law_first", "_law_at"] ["_law_dice_here"] (defScope s__law_right) := ⟨rfl, rfl, rfl, by decide +kernel, rfl, by decide +kernel, by decide +kernel⟩
theorem sc_law : FnScope ["_law_script", "_law_spot", "_law_made_here", "_law_term_here", "_law_told"] ["_law_script"] (defScope s_law) := ⟨rfl, rfl, rfl, by decide +kernel, rfl, by decide +kernel, by decide +kernel⟩
/-- the classes of the module -/
structure Ad where
  n : Addr
  t : Addr
  b : Addr
  r : Addr
/-- what stands behind the top -/
structure Tx (K : PySem.W.Frag) (mg : Str → Option Value) (C : Ad) : Prop where
  f_abs : mg "abs" = none
  f_all : mg "all" = none
  f_bool : mg "bool" = none
  f_dict : mg "dict" = none
  f_enumerate : mg "enumerate" = none
  f_int : mg "int" = none
  f_isinstance : mg "isinstance" = none
  f_len : mg "len" = none
  f_list : mg "list" = none
  f_max : mg "max" = none
  f_min : mg "min" = none
  f_range : mg "range" = none
  f_repr : mg "repr" = none
  f_set : mg "set" = none
  f_sorted : mg "sorted" = none
  f_str : mg "str" = none
  f_tuple : mg "tuple" = none
  f_zip : mg "zip" = none
  c_MAX_LETTERS : ∃ t, mg "MAX_LETTERS" = some (.int 8 t)
  c_MAX_ARITY : ∃ t, mg "MAX_ARITY" = some (.int 3 t)
  c_MAX_SYMBOLS : ∃ t, mg "MAX_SYMBOLS" = some (.int 8 t)
  c_LONGEST : ∃ t, mg "LONGEST" = some (.int (10 ^ 60) t)
  c_MAX_NODES : ∃ t, mg "MAX_NODES" = some (.int 40 t)
  c_MAX_RULES : ∃ t, mg "MAX_RULES" = some (.int 6 t)
  c_MAX_RULE_NODES : ∃ t, mg "MAX_RULE_NODES" = some (.int 7 t)
  c_MAX_PARTS : ∃ t, mg "MAX_PARTS" = some (.int 10 t)
  c_ANY : ∃ t, mg "ANY" = some (.str "_" t)
  c_LOST : ∃ t, mg "LOST" = some (.str "#" t)
  c_LETTERS : ∃ t, mg "LETTERS" = some (.str "abcdefghijklmnopqrstuvwxyz" t)
  c_SIGNS : ∃ t, mg "SIGNS" = some (.str "_#()" t)
  c_ARROW : ∃ t, mg "ARROW" = some (.str " => " t)
  g_Nodes : mg "Nodes" = some (.ref C.n)
  cl_n : Cls K C.n
  g_Term : mg "Term" = some (.ref C.t)
  cl_t : Cls K C.t
  g_Book : mg "Book" = some (.ref C.b)
  cl_b : Cls K C.b
  g_Reader : mg "Reader" = some (.ref C.r)
  cl_r : Cls K C.r
  na_t_own_nodes : NoAttr K C.t "own_nodes"
  na_t_own_children : NoAttr K C.t "own_children"
  na_t_own_ends : NoAttr K C.t "own_ends"
  na_t_own_symbols : NoAttr K C.t "own_symbols"
  na_t_own_unknown : NoAttr K C.t "own_unknown"
  na_t_own_lost : NoAttr K C.t "own_lost"
  na_n_told_nodes : NoAttr K C.n "told_nodes"
  na_b_own_symbols : NoAttr K C.b "own_symbols"
  na_b_own_rules : NoAttr K C.b "own_rules"
  na_b_own_patterns : NoAttr K C.b "own_patterns"
  na_b_own_sketches : NoAttr K C.b "own_sketches"
  na_b_own_lines : NoAttr K C.b "own_lines"
  na_b_own_key : NoAttr K C.b "own_key"
  na_r_of_nodes : NoAttr K C.r "of_nodes"
  na_r_of_open : NoAttr K C.r "of_open"
  na_r_of_wants : NoAttr K C.r "of_wants"
  na_r_of_last : NoAttr K C.r "of_last"
  d_is_integer : GD K mg "is_integer" s_is_integer ["value"]
  d_is_within : GD K mg "is_within" s_is_within ["value", "least", "most"]
  d_is_word : GD K mg "is_word" s_is_word ["value"]
  d_is_node : GD K mg "is_node" s_is_node ["value"]
  d_is_symbols : GD K mg "is_symbols" s_is_symbols ["value"]
  d_ascending_rows : GD K mg "ascending_rows" s_ascending_rows ["rows"]
  d_children_of : GD K mg "children_of" s_children_of ["nodes"]
  d_ends_of : GD K mg "ends_of" s_ends_of ["children"]
  d_arities_in : GD K mg "arities_in" s_arities_in ["nodes"]
  d_is_term_row : GD K mg "is_term_row" s_is_term_row ["value"]
  d_text_of : GD K mg "text_of" s_text_of ["nodes", "children", "at"]
  d_tokens_of : GD K mg "tokens_of" s_tokens_of ["text"]
  d_nodes_of : GD K mg "nodes_of" s_nodes_of ["text"]
  d_require_term : GD K mg "require_term" s_require_term ["value"]
  d_term_in : GD K mg "term_in" s_term_in ["nodes"]
  d_places_with : GD K mg "places_with" s_places_with ["nodes", "word"]
  d_part_in : GD K mg "part_in" s_part_in ["term", "place"]
  d_nodes_filled : GD K mg "nodes_filled" s_nodes_filled ["term", "terms"]
  d_matches : GD K mg "matches" s_matches ["term", "at", "other", "to"]
  d_met_places : GD K mg "met_places" s_met_places ["term", "at", "other", "to"]
  d_is_term_of : GD K mg "is_term_of" s_is_term_of ["symbols", "value"]
  d_is_side : GD K mg "is_side" s_is_side ["symbols", "value"]
  d_is_rule : GD K mg "is_rule" s_is_rule ["symbols", "value"]
  d_parts_in : GD K mg "parts_in" s_parts_in ["patterns"]
  d_is_rules : GD K mg "is_rules" s_is_rules ["symbols", "value"]
  d_read_symbols : GD K mg "read_symbols" s_read_symbols ["line"]
  d_read_rule : GD K mg "read_rule" s_read_rule ["line"]
  d_side_of : GD K mg "side_of" s_side_of ["text"]
  d_fitting : GD K mg "fitting" s_fitting ["book", "term", "place"]
  d_redexes_in : GD K mg "redexes_in" s_redexes_in ["book", "term"]
  d_is_ground_of : GD K mg "is_ground_of" s_is_ground_of ["book", "value"]
  d_nodes_put : GD K mg "nodes_put" s_nodes_put ["term", "place", "nodes"]
  d_is_behind : GD K mg "is_behind" s_is_behind ["one", "place", "sketch", "other"]
  d__law_dice : GD K mg "_law_dice" s__law_dice ["_law_script", "_law_spot"]
  d__law_roll : GD K mg "_law_roll" s__law_roll ["_law_dice_here", "_law_total"]
  d__law_pick : GD K mg "_law_pick" s__law_pick ["_law_dice_here", "_law_items"]
  d__law_some : GD K mg "_law_some" s__law_some ["_law_dice_here", "_law_items", "_law_size"]
  d__law_nodes : GD K mg "_law_nodes" s__law_nodes ["_law_term_here"]
  d__law_parts : GD K mg "_law_parts" s__law_parts ["_law_term_here"]
  d__law_put : GD K mg "_law_put" s__law_put ["_law_term_here", "_law_place", "_law_other"]
  d__law_fits : GD K mg "_law_fits" s__law_fits ["_law_term_here", "_law_pattern"]
  d__law_filled : GD K mg "_law_filled" s__law_filled ["_law_term_here", "_law_fillings"]
  d__law_leaves : GD K mg "_law_leaves" s__law_leaves ["_law_term_here", "_law_word"]
  d__law_made_term : GD K mg "_law_made_term" s__law_made_term ["_law_term_here"]
  d__law_term : GD K mg "_law_term" s__law_term ["_law_dice_here", "_law_symbols_here", "_law_leaves_here", "_law_deep"]
  d__law_small_term : GD K mg "_law_small_term" s__law_small_term ["_law_dice_here", "_law_symbols_here", "_law_leaves_here", "_law_deep", "_law_most"]
  d__law_symbols : GD K mg "_law_symbols" s__law_symbols ["_law_dice_here"]
  d__law_argument : GD K mg "_law_argument" s__law_argument ["_law_dice_here", "_law_symbols_here"]
  d__law_sketch : GD K mg "_law_sketch" s__law_sketch ["_law_dice_here", "_law_symbols_here"]
  d__law_book : GD K mg "_law_book" s__law_book ["_law_dice_here"]
  d__law_gustave : GD K mg "_law_gustave" s__law_gustave ["_law_dice_here"]
  d__law_made : GD K mg "_law_made" s__law_made ["_law_book_here"]
  d__law_rules_at : GD K mg "_law_rules_at" s__law_rules_at ["_law_book_here", "_law_term_here"]
  d__law_redexes : GD K mg "_law_redexes" s__law_redexes ["_law_book_here", "_law_term_here"]
  d__law_is_behind : GD K mg "_law_is_behind" s__law_is_behind ["_law_term_here", "_law_place", "_law_sketch_here", "_law_other"]
  d__law_pairs : GD K mg "_law_pairs" s__law_pairs ["_law_term_here", "_law_sketch_here"]
  d__law_steps_right : GD K mg "_law_steps_right" s__law_steps_right ["_law_dice_here", "_law_book_here", "_law_made_here", "_law_term_here", "_law_place", "_law_at"]
  d__law_right : GD K mg "_law_right" s__law_right ["_law_dice_here"]
  d_law : GD K mg "law" s_law ["_law_script"]
end FN
set_option maxHeartbeats 4000000
namespace FN
open PySem PySem.Spec PyProof.Rows L2
/-! ### more facts of the head -/
def siB (x : Str) (K : PySem.W.Frag) : Bool := He.eqO (PySem.W.findIn K (.ref (He.ga K x)) "__class__") (some (some (.builtin "object.__class__"))) && (He.eqO (PySem.W.specialIn K (.builtin "object.__class__") "__get__") (some (some (.builtin "getset_descriptor.__get__"))) &&
  (decide (PySem.W.takesIn K (.builtin "object.__class__") = some true) && decide (PySem.W.mroIn K (He.ga K x) (.type "object") = some true)))
def cmB (x m : Str) (K : PySem.W.Frag) : Bool := PySem.W.readsIn K (He.ga K x) (.type "type") && (He5.wrapB K (He.ga K x) "classmethod" "classmethod.__get__" m && PySem.W.fnIn K (He5.wf K (He.ga K x) "classmethod" m))
/-- a property's getter -/
def pf (K : PySem.W.Frag) (C : Addr) (f : Str) : Addr := match PySem.W.recIn K (He.ma K C f) "property" with
  | some (.ref g :: _) => g
  | _ => 0
def prB (x f : Str) (K : PySem.W.Frag) : Bool := He.eqO (PySem.W.findIn K (.ref (He.ga K x)) f) (some (some (.ref (He.ma K (He.ga K x) f)))) && (He.eqO (PySem.W.specialIn K (.ref (He.ma K (He.ga K x) f)) "__get__") (some (some (.builtin "property.__get__"))) &&
  (decide (PySem.W.takesIn K (.ref (He.ma K (He.ga K x) f)) = some true) && (match PySem.W.recIn K (He.ma K (He.ga K x) f) "property" with
    | some (.ref _ :: _) => true
    | _ => false)))
def neB (x : Str) (K : PySem.W.Frag) : Bool := He.eqO (PySem.W.findIn K (.ref (He.ga K x)) "__ne__") (some (some (.builtin "object.__ne__"))) && (He.eqO (PySem.W.findIn K (.ref (He.ga K x)) "__eq__") (some (some (.ref (He.ma K (He.ga K x) "__eq__")))) &&
  (PySem.W.isFn K (.ref (He.ma K (He.ga K x) "__eq__")) && decide (PySem.W.mroIn K (He.ga K x) (.type "object") = some true)))
def fmB (x : Str) (K : PySem.W.Frag) : Bool := He.eqO (PySem.W.findIn K (.ref (He.ga K x)) "__format__") (some (some (.builtin "object.__format__"))) && (He.eqO (PySem.W.findIn K (.ref (He.ga K x)) "__str__") (some (some (.ref (He.ma K (He.ga K x) "__str__")))) &&
  (PySem.W.isFn K (.ref (He.ma K (He.ga K x) "__str__")) && decide (PySem.W.mroIn K (He.ga K x) (.type "object") = some true)))
/-! ### the Hook -/
def refsAt (g : Addr → Option Obj) (a : Addr) : List Addr := match g a with
  | some o => He.refsO o
  | none => []
def nsAd (g : Addr → Option Obj) (a : Addr) : Addr := match g a with
  | some ⟨_, _, .cls cd, _⟩ => cd.ns
  | _ => 0
/-- what the facts look at -/
def asX (g : Addr → Option Obj) (d1 : List Addr) (ns : List Addr) : List Addr :=
  let ms := ns.flatMap (refsAt g)
  let fs := ms.flatMap (refsAt g)
  mainGlobals :: (d1 ++ (d1.flatMap (refsAt g) ++ (ns ++ (ms ++ (fs ++ (fs.flatMap (refsAt g) ++ [PySem.cStatics]))))))
def frX (g : Addr → Option Obj) : PySem.W.Frag := He.frG g (asX g (refsAt g mainGlobals) (["Nodes", "Term", "Book", "Reader"].map fun x => nsAd g (He.ga (He.frG g [mainGlobals]) (Str.ofString x))))
abbrev AlX : Type := Bool × He.AlD
def obsX (xs : List (PySem.W.Frag → Bool)) (fa : List He.Fa) (fn : List He5.DefA) (K : PySem.W.Frag) : AlX := (xs.all fun x => x K, He5.obsA fa fn K)
def SaysX (xs : List (PySem.W.Frag → Bool)) (fa : List He.Fa) (fn : List He5.DefA) (K : PySem.W.Frag) : Prop := obsX xs fa fn K = (true, He5.valA fn)
def hookX (xs : List (PySem.W.Frag → Bool)) (fa : List He.Fa) (fn : List He5.DefA) : PySem.W.Hook where
  α := AlX
  obs := fun s => obsX xs fa fn (frX s.heap.get?)
  val := fun _ => (true, He5.valA fn)
  says := fun _ h => ∃ K : PySem.W.Frag, K.In h ∧ SaysX xs fa fn K
  of := fun _ _ e => ⟨_, He.frG_in, e⟩
  keeps := fun _ _ _ ⟨K, hK, c⟩ k => ⟨K, PySem.W.Frag.In.keeps hK k, c⟩
/-! the facts behind the top, one by one (written by genhead.py) -/
def df0 : He5.DefA := { at_ := fun K => He.ga K "is_integer", name := "is_integer", qual := "is_integer", params := defArgs s_is_integer, body := defBody s_is_integer, scope := defScope s_is_integer }
def df1 : He5.DefA := { at_ := fun K => He.ga K "is_within", name := "is_within", qual := "is_within", params := defArgs s_is_within, body := defBody s_is_within, scope := defScope s_is_within }
def df2 : He5.DefA := { at_ := fun K => He.ga K "is_word", name := "is_word", qual := "is_word", params := defArgs s_is_word, body := defBody s_is_word, scope := defScope s_is_word }
def df3 : He5.DefA := { at_ := fun K => He.ga K "is_node", name := "is_node", qual := "is_node", params := defArgs s_is_node, body := defBody s_is_node, scope := defScope s_is_node }
def df4 : He5.DefA := { at_ := fun K => He.ga K "is_symbols", name := "is_symbols", qual := "is_symbols", params := defArgs s_is_symbols, body := defBody s_is_symbols, scope := defScope s_is_symbols }
def df5 : He5.DefA := { at_ := fun K => He.ga K "ascending_rows", name := "ascending_rows", qual := "ascending_rows", params := defArgs s_ascending_rows, body := defBody s_ascending_rows, scope := defScope s_ascending_rows }
def df6 : He5.DefA := { at_ := fun K => He.ga K "children_of", name := "children_of", qual := "children_of", params := defArgs s_children_of, body := defBody s_children_of, scope := defScope s_children_of }
def df7 : He5.DefA := { at_ := fun K => He.ga K "ends_of", name := "ends_of", qual := "ends_of", params := defArgs s_ends_of, body := defBody s_ends_of, scope := defScope s_ends_of }
def df8 : He5.DefA := { at_ := fun K => He.ga K "arities_in", name := "arities_in", qual := "arities_in", params := defArgs s_arities_in, body := defBody s_arities_in, scope := defScope s_arities_in }
def df9 : He5.DefA := { at_ := fun K => He.ga K "is_term_row", name := "is_term_row", qual := "is_term_row", params := defArgs s_is_term_row, body := defBody s_is_term_row, scope := defScope s_is_term_row }
def df10 : He5.DefA := { at_ := fun K => He.ga K "text_of", name := "text_of", qual := "text_of", params := defArgs s_text_of, body := defBody s_text_of, scope := defScope s_text_of }
def df11 : He5.DefA := { at_ := fun K => He.ga K "tokens_of", name := "tokens_of", qual := "tokens_of", params := defArgs s_tokens_of, body := defBody s_tokens_of, scope := defScope s_tokens_of }
def df12 : He5.DefA := { at_ := fun K => He.ga K "nodes_of", name := "nodes_of", qual := "nodes_of", params := defArgs s_nodes_of, body := defBody s_nodes_of, scope := defScope s_nodes_of }
def df13 : He5.DefA := { at_ := fun K => He.ga K "require_term", name := "require_term", qual := "require_term", params := defArgs s_require_term, body := defBody s_require_term, scope := defScope s_require_term }
def df14 : He5.DefA := { at_ := fun K => He.ga K "term_in", name := "term_in", qual := "term_in", params := defArgs s_term_in, body := defBody s_term_in, scope := defScope s_term_in }
def df15 : He5.DefA := { at_ := fun K => He.ga K "places_with", name := "places_with", qual := "places_with", params := defArgs s_places_with, body := defBody s_places_with, scope := defScope s_places_with }
def df16 : He5.DefA := { at_ := fun K => He.ga K "part_in", name := "part_in", qual := "part_in", params := defArgs s_part_in, body := defBody s_part_in, scope := defScope s_part_in }
def df17 : He5.DefA := { at_ := fun K => He.ga K "nodes_filled", name := "nodes_filled", qual := "nodes_filled", params := defArgs s_nodes_filled, body := defBody s_nodes_filled, scope := defScope s_nodes_filled }
def df18 : He5.DefA := { at_ := fun K => He.ga K "matches", name := "matches", qual := "matches", params := defArgs s_matches, body := defBody s_matches, scope := defScope s_matches }
def df19 : He5.DefA := { at_ := fun K => He.ga K "met_places", name := "met_places", qual := "met_places", params := defArgs s_met_places, body := defBody s_met_places, scope := defScope s_met_places }
def df20 : He5.DefA := { at_ := fun K => He.ga K "is_term_of", name := "is_term_of", qual := "is_term_of", params := defArgs s_is_term_of, body := defBody s_is_term_of, scope := defScope s_is_term_of }
def df21 : He5.DefA := { at_ := fun K => He.ga K "is_side", name := "is_side", qual := "is_side", params := defArgs s_is_side, body := defBody s_is_side, scope := defScope s_is_side }
def df22 : He5.DefA := { at_ := fun K => He.ga K "is_rule", name := "is_rule", qual := "is_rule", params := defArgs s_is_rule, body := defBody s_is_rule, scope := defScope s_is_rule }
def df23 : He5.DefA := { at_ := fun K => He.ga K "parts_in", name := "parts_in", qual := "parts_in", params := defArgs s_parts_in, body := defBody s_parts_in, scope := defScope s_parts_in }
def df24 : He5.DefA := { at_ := fun K => He.ga K "is_rules", name := "is_rules", qual := "is_rules", params := defArgs s_is_rules, body := defBody s_is_rules, scope := defScope s_is_rules }
def df25 : He5.DefA := { at_ := fun K => He.ga K "read_symbols", name := "read_symbols", qual := "read_symbols", params := defArgs s_read_symbols, body := defBody s_read_symbols, scope := defScope s_read_symbols }
def df26 : He5.DefA := { at_ := fun K => He.ga K "read_rule", name := "read_rule", qual := "read_rule", params := defArgs s_read_rule, body := defBody s_read_rule, scope := defScope s_read_rule }
def df27 : He5.DefA := { at_ := fun K => He.ga K "side_of", name := "side_of", qual := "side_of", params := defArgs s_side_of, body := defBody s_side_of, scope := defScope s_side_of }
def df28 : He5.DefA := { at_ := fun K => He.ga K "fitting", name := "fitting", qual := "fitting", params := defArgs s_fitting, body := defBody s_fitting, scope := defScope s_fitting }
def df29 : He5.DefA := { at_ := fun K => He.ga K "redexes_in", name := "redexes_in", qual := "redexes_in", params := defArgs s_redexes_in, body := defBody s_redexes_in, scope := defScope s_redexes_in }
def df30 : He5.DefA := { at_ := fun K => He.ga K "is_ground_of", name := "is_ground_of", qual := "is_ground_of", params := defArgs s_is_ground_of, body := defBody s_is_ground_of, scope := defScope s_is_ground_of }
def df31 : He5.DefA := { at_ := fun K => He.ga K "nodes_put", name := "nodes_put", qual := "nodes_put", params := defArgs s_nodes_put, body := defBody s_nodes_put, scope := defScope s_nodes_put }
def df32 : He5.DefA := { at_ := fun K => He.ga K "is_behind", name := "is_behind", qual := "is_behind", params := defArgs s_is_behind, body := defBody s_is_behind, scope := defScope s_is_behind }
def df33 : He5.DefA := { at_ := fun K => He.ga K "_law_dice", name := "_law_dice", qual := "_law_dice", params := defArgs s__law_dice, body := defBody s__law_dice, scope := defScope s__law_dice }
def df34 : He5.DefA := { at_ := fun K => He.ga K "_law_roll", name := "_law_roll", qual := "_law_roll", params := defArgs s__law_roll, body := defBody s__law_roll, scope := defScope s__law_roll }
def df35 : He5.DefA := { at_ := fun K => He.ga K "_law_pick", name := "_law_pick", qual := "_law_pick", params := defArgs s__law_pick, body := defBody s__law_pick, scope := defScope s__law_pick }
def df36 : He5.DefA := { at_ := fun K => He.ga K "_law_some", name := "_law_some", qual := "_law_some", params := defArgs s__law_some, body := defBody s__law_some, scope := defScope s__law_some }
def df37 : He5.DefA := { at_ := fun K => He.ga K "_law_nodes", name := "_law_nodes", qual := "_law_nodes", params := defArgs s__law_nodes, body := defBody s__law_nodes, scope := defScope s__law_nodes }
def df38 : He5.DefA := { at_ := fun K => He.ga K "_law_parts", name := "_law_parts", qual := "_law_parts", params := defArgs s__law_parts, body := defBody s__law_parts, scope := defScope s__law_parts }
def df39 : He5.DefA := { at_ := fun K => He.ga K "_law_put", name := "_law_put", qual := "_law_put", params := defArgs s__law_put, body := defBody s__law_put, scope := defScope s__law_put }
def df40 : He5.DefA := { at_ := fun K => He.ga K "_law_fits", name := "_law_fits", qual := "_law_fits", params := defArgs s__law_fits, body := defBody s__law_fits, scope := defScope s__law_fits }
def df41 : He5.DefA := { at_ := fun K => He.ga K "_law_filled", name := "_law_filled", qual := "_law_filled", params := defArgs s__law_filled, body := defBody s__law_filled, scope := defScope s__law_filled }
def df42 : He5.DefA := { at_ := fun K => He.ga K "_law_leaves", name := "_law_leaves", qual := "_law_leaves", params := defArgs s__law_leaves, body := defBody s__law_leaves, scope := defScope s__law_leaves }
def df43 : He5.DefA := { at_ := fun K => He.ga K "_law_made_term", name := "_law_made_term", qual := "_law_made_term", params := defArgs s__law_made_term, body := defBody s__law_made_term, scope := defScope s__law_made_term }
def df44 : He5.DefA := { at_ := fun K => He.ga K "_law_term", name := "_law_term", qual := "_law_term", params := defArgs s__law_term, body := defBody s__law_term, scope := defScope s__law_term }
def df45 : He5.DefA := { at_ := fun K => He.ga K "_law_small_term", name := "_law_small_term", qual := "_law_small_term", params := defArgs s__law_small_term, body := defBody s__law_small_term, scope := defScope s__law_small_term }
def df46 : He5.DefA := { at_ := fun K => He.ga K "_law_symbols", name := "_law_symbols", qual := "_law_symbols", params := defArgs s__law_symbols, body := defBody s__law_symbols, scope := defScope s__law_symbols }
def df47 : He5.DefA := { at_ := fun K => He.ga K "_law_argument", name := "_law_argument", qual := "_law_argument", params := defArgs s__law_argument, body := defBody s__law_argument, scope := defScope s__law_argument }
def df48 : He5.DefA := { at_ := fun K => He.ga K "_law_sketch", name := "_law_sketch", qual := "_law_sketch", params := defArgs s__law_sketch, body := defBody s__law_sketch, scope := defScope s__law_sketch }
def df49 : He5.DefA := { at_ := fun K => He.ga K "_law_book", name := "_law_book", qual := "_law_book", params := defArgs s__law_book, body := defBody s__law_book, scope := defScope s__law_book }
def df50 : He5.DefA := { at_ := fun K => He.ga K "_law_gustave", name := "_law_gustave", qual := "_law_gustave", params := defArgs s__law_gustave, body := defBody s__law_gustave, scope := defScope s__law_gustave }
def df51 : He5.DefA := { at_ := fun K => He.ga K "_law_made", name := "_law_made", qual := "_law_made", params := defArgs s__law_made, body := defBody s__law_made, scope := defScope s__law_made }
def df52 : He5.DefA := { at_ := fun K => He.ga K "_law_rules_at", name := "_law_rules_at", qual := "_law_rules_at", params := defArgs s__law_rules_at, body := defBody s__law_rules_at, scope := defScope s__law_rules_at }
def df53 : He5.DefA := { at_ := fun K => He.ga K "_law_redexes", name := "_law_redexes", qual := "_law_redexes", params := defArgs s__law_redexes, body := defBody s__law_redexes, scope := defScope s__law_redexes }
def df54 : He5.DefA := { at_ := fun K => He.ga K "_law_is_behind", name := "_law_is_behind", qual := "_law_is_behind", params := defArgs s__law_is_behind, body := defBody s__law_is_behind, scope := defScope s__law_is_behind }
def df55 : He5.DefA := { at_ := fun K => He.ga K "_law_pairs", name := "_law_pairs", qual := "_law_pairs", params := defArgs s__law_pairs, body := defBody s__law_pairs, scope := defScope s__law_pairs }
def df56 : He5.DefA := { at_ := fun K => He.ga K "_law_steps_right", name := "_law_steps_right", qual := "_law_steps_right", params := defArgs s__law_steps_right, body := defBody s__law_steps_right, scope := defScope s__law_steps_right }
def df57 : He5.DefA := { at_ := fun K => He.ga K "_law_right", name := "_law_right", qual := "_law_right", params := defArgs s__law_right, body := defBody s__law_right, scope := defScope s__law_right }
def df58 : He5.DefA := { at_ := fun K => He.ga K "law", name := "law", qual := "law", params := defArgs s_law, body := defBody s_law, scope := defScope s_law }
def df59 : He5.DefA := { at_ := fun K => He.ma K (He.ga K "Reader") "__init__", name := "__init__", qual := "Reader.__init__", params := defArgs s_Reader___init__, body := defBody s_Reader___init__, scope := defScope s_Reader___init__ }
def df60 : He5.DefA := { at_ := fun K => He.ma K (He.ga K "Reader") "take", name := "take", qual := "Reader.take", params := defArgs s_Reader_take, body := defBody s_Reader_take, scope := defScope s_Reader_take }
def df61 : He5.DefA := { at_ := fun K => He.ma K (He.ga K "Reader") "take_word", name := "take_word", qual := "Reader.take_word", params := defArgs s_Reader_take_word, body := defBody s_Reader_take_word, scope := defScope s_Reader_take_word }
def df62 : He5.DefA := { at_ := fun K => He.ma K (He.ga K "Nodes") "__init__", name := "__init__", qual := "Nodes.__init__", params := defArgs s_Nodes___init__, body := defBody s_Nodes___init__, scope := defScope s_Nodes___init__ }
def df63 : He5.DefA := { at_ := fun K => He.ma K (He.ga K "Term") "__init__", name := "__init__", qual := "Term.__init__", params := defArgs s_Term___init__, body := defBody s_Term___init__, scope := defScope s_Term___init__ }
def df64 : He5.DefA := { at_ := fun K => He5.wf K (He.ga K "Term") "classmethod" "read", name := "read", qual := "Term.read", params := defArgs s_Term_read, body := defBody s_Term_read, scope := defScope s_Term_read }
def df65 : He5.DefA := { at_ := fun K => pf K (He.ga K "Term") "text", name := "text", qual := "Term.text", params := defArgs s_Term_text, body := defBody s_Term_text, scope := defScope s_Term_text }
def df66 : He5.DefA := { at_ := fun K => pf K (He.ga K "Term") "is_ground", name := "is_ground", qual := "Term.is_ground", params := defArgs s_Term_is_ground, body := defBody s_Term_is_ground, scope := defScope s_Term_is_ground }
def df67 : He5.DefA := { at_ := fun K => He.ma K (He.ga K "Term") "require_place", name := "require_place", qual := "Term.require_place", params := defArgs s_Term_require_place, body := defBody s_Term_require_place, scope := defScope s_Term_require_place }
def df68 : He5.DefA := { at_ := fun K => He.ma K (He.ga K "Term") "fillings", name := "fillings", qual := "Term.fillings", params := defArgs s_Term_fillings, body := defBody s_Term_fillings, scope := defScope s_Term_fillings }
def df69 : He5.DefA := { at_ := fun K => He.ma K (He.ga K "Term") "__eq__", name := "__eq__", qual := "Term.__eq__", params := defArgs s_Term___eq__, body := defBody s_Term___eq__, scope := defScope s_Term___eq__ }
def df70 : He5.DefA := { at_ := fun K => He.ma K (He.ga K "Term") "__str__", name := "__str__", qual := "Term.__str__", params := defArgs s_Term___str__, body := defBody s_Term___str__, scope := defScope s_Term___str__ }
def df71 : He5.DefA := { at_ := fun K => He.ma K (He.ga K "Book") "__init__", name := "__init__", qual := "Book.__init__", params := defArgs s_Book___init__, body := defBody s_Book___init__, scope := defScope s_Book___init__, dfl := [.adr (He.dflAt ("Book", some "__init__") 0)] }
def df72 : He5.DefA := { at_ := fun K => He5.wf K (He.ga K "Book") "classmethod" "read", name := "read", qual := "Book.read", params := defArgs s_Book_read, body := defBody s_Book_read, scope := defScope s_Book_read }
def df73 : He5.DefA := { at_ := fun K => He.ma K (He.ga K "Book") "require_term", name := "require_term", qual := "Book.require_term", params := defArgs s_Book_require_term, body := defBody s_Book_require_term, scope := defScope s_Book_require_term }
def df74 : He5.DefA := { at_ := fun K => He.ma K (He.ga K "Book") "require_rule", name := "require_rule", qual := "Book.require_rule", params := defArgs s_Book_require_rule, body := defBody s_Book_require_rule, scope := defScope s_Book_require_rule }
def df75 : He5.DefA := { at_ := fun K => He.ma K (He.ga K "Book") "redexes", name := "redexes", qual := "Book.redexes", params := defArgs s_Book_redexes, body := defBody s_Book_redexes, scope := defScope s_Book_redexes }
def df76 : He5.DefA := { at_ := fun K => He.ma K (He.ga K "Book") "rules_at", name := "rules_at", qual := "Book.rules_at", params := defArgs s_Book_rules_at, body := defBody s_Book_rules_at, scope := defScope s_Book_rules_at }
def df77 : He5.DefA := { at_ := fun K => He.ma K (He.ga K "Book") "is_result", name := "is_result", qual := "Book.is_result", params := defArgs s_Book_is_result, body := defBody s_Book_is_result, scope := defScope s_Book_is_result }
def df78 : He5.DefA := { at_ := fun K => He.ma K (He.ga K "Book") "step", name := "step", qual := "Book.step", params := defArgs s_Book_step, body := defBody s_Book_step, scope := defScope s_Book_step }
def df79 : He5.DefA := { at_ := fun K => He.ma K (He.ga K "Book") "is_step", name := "is_step", qual := "Book.is_step", params := defArgs s_Book_is_step, body := defBody s_Book_is_step, scope := defScope s_Book_is_step }
def hFa : List He.Fa := [.free "abs", .free "all", .free "bool", .free "dict", .free "enumerate", .free "int", .free "isinstance", .free "len", .free "list", .free "max", .free "min", .free "range", .free "repr", .free "set", .free "sorted", .free "str", .free "tuple", .free "zip", .int "MAX_LETTERS" 8, .int "MAX_ARITY" 3, .int "MAX_SYMBOLS" 8, .int "LONGEST" (10 ^ 60), .int "MAX_NODES" 40, .int "MAX_RULES" 6, .int "MAX_RULE_NODES" 7, .int "MAX_PARTS" 10, .str "ANY" "_", .str "LOST" "#", .str "LETTERS" "abcdefghijklmnopqrstuvwxyz", .str "SIGNS" "_#()", .str "ARROW" " => ", .glo "Nodes", .cls "Nodes", .glo "Term", .cls "Term", .glo "Book", .cls "Book", .glo "Reader", .cls "Reader", .noat "Term" "own_nodes", .noat "Term" "own_children", .noat "Term" "own_ends", .noat "Term" "own_symbols", .noat "Term" "own_unknown", .noat "Term" "own_lost", .noat "Nodes" "told_nodes", .noat "Book" "own_symbols", .noat "Book" "own_rules", .noat "Book" "own_patterns", .noat "Book" "own_sketches", .noat "Book" "own_lines", .noat "Book" "own_key", .noat "Reader" "of_nodes", .noat "Reader" "of_open", .noat "Reader" "of_wants", .noat "Reader" "of_last", .glo "is_integer", .glo "is_within", .glo "is_word", .glo "is_node", .glo "is_symbols", .glo "ascending_rows", .glo "children_of", .glo "ends_of", .glo "arities_in", .glo "is_term_row", .glo "text_of", .glo "tokens_of", .glo "nodes_of", .glo "require_term", .glo "term_in", .glo "places_with", .glo "part_in", .glo "nodes_filled", .glo "matches", .glo "met_places", .glo "is_term_of", .glo "is_side", .glo "is_rule", .glo "parts_in", .glo "is_rules", .glo "read_symbols", .glo "read_rule", .glo "side_of", .glo "fitting", .glo "redexes_in", .glo "is_ground_of", .glo "nodes_put", .glo "is_behind", .glo "_law_dice", .glo "_law_roll", .glo "_law_pick", .glo "_law_some", .glo "_law_nodes", .glo "_law_parts", .glo "_law_put", .glo "_law_fits", .glo "_law_filled", .glo "_law_leaves", .glo "_law_made_term", .glo "_law_term", .glo "_law_small_term", .glo "_law_symbols", .glo "_law_argument", .glo "_law_sketch", .glo "_law_book", .glo "_law_gustave", .glo "_law_made", .glo "_law_rules_at", .glo "_law_redexes", .glo "_law_is_behind", .glo "_law_pairs", .glo "_law_steps_right", .glo "_law_right", .glo "law", .mkr "Reader", .meth "Reader" "take", .meth "Reader" "take_word", .mkr "Nodes", .mkr "Term", .meth "Term" "require_place", .meth "Term" "fillings", .mkr "Book", .meth "Book" "require_term", .meth "Book" "require_rule", .meth "Book" "redexes", .meth "Book" "rules_at", .meth "Book" "is_result", .meth "Book" "step", .meth "Book" "is_step"]
def hXs : List (PySem.W.Frag → Bool) := [siB "Nodes", siB "Term", siB "Book", fun K => decide (PySem.W.kitOne K (.ref (He.ga K "Term")) (.ref (He.ga K "Term")) = some true), fun K => decide (PySem.W.kitOne K (.ref (He.ga K "Nodes")) (.ref (He.ga K "Nodes")) = some true), fun K => decide (PySem.W.kitOne K (.type "tuple") (.ref (He.ga K "Nodes")) = some false), fun K => decide (PySem.W.kitOne K (.type "NoneType") (.ref (He.ga K "Term")) = some false), cmB "Term" "read", prB "Term" "text", prB "Term" "is_ground", neB "Term", fmB "Term", cmB "Book" "read"]
def hFn : List He5.DefA := [df0, df1, df2, df3, df4, df5, df6, df7, df8, df9, df10, df11, df12, df13, df14, df15, df16, df17, df18, df19, df20, df21, df22, df23, df24, df25, df26, df27, df28, df29, df30, df31, df32, df33, df34, df35, df36, df37, df38, df39, df40, df41, df42, df43, df44, df45, df46, df47, df48, df49, df50, df51, df52, df53, df54, df55, df56, df57, df58, df59, df60, df61, df62, df63, df64, df65, df66, df67, df68, df69, df70, df71, df72, df73, df74, df75, df76, df77, df78, df79]
end FN
set_option maxHeartbeats 0
namespace FN
open PySem PySem.W PySem.Calls PyProof.Rows HandSHeadRun
abbrev RR : PySem.W.OpenRow := PySem.W.OpenLaw.row PySem.Challenge.rw_firstneed_k12_whole_redexes_and_steps
abbrev hkX : PySem.W.Hook := hookX hXs hFa hFn
def obX (s : PySem.W.SharedT) : AlX := obsX hXs hFa hFn (frX (HandSHeadRun.getT s))
theorem run_h (w : World) (os : OsState) : (endF (stepQ (denQ tabQ) RR.prog w) 20000 RR.prog w os).map obX = some (true, He5.valA hFn) := by
  kernel_rfl
end FN
set_option maxHeartbeats 0
namespace FN
open PySem PySem.W PySem.Calls PyProof.Rows HandSHeadRun
theorem run_l (w : World) (os : OsState) : (endF (stepQ (denQ tabQ) RR.prog w) 20000 RR.prog w os).map (fun s => looksF RR.prog (boot_heap w.params) s.abs) = some true := by
  kernel_rfl
end FN
set_option maxHeartbeats 0
namespace FN
open PySem PySem.W PySem.Calls PyProof.Rows HandSHeadRun
def loose : List PySem.Str :=
  (["_wall", "MAX_LETTERS", "MAX_ARITY", "MAX_SYMBOLS", "ANY", "LOST", "LETTERS", "LONGEST", "is_integer", "is_within", "is_word", "is_node", "is_symbols", "ascending_rows", "NeedError", "InvalidTerm", "InvalidBook", "InvalidOperation", "ParseError", "UnknownPlace", "InvalidNumber", "MAX_NODES", "SIGNS"] : List PySem.Str) ++
  (["children_of", "ends_of", "arities_in", "is_term_row", "text_of", "tokens_of", "Reader", "nodes_of", "require_term", "require_clear", "Nodes", "term_in", "Term", "places_with", "part_in", "nodes_filled", "matches", "met_places", "common_nodes", "common_instance", "shape_nodes", "common_shape"] : List PySem.Str) ++
  (["MAX_RULES", "MAX_RULE_NODES", "MAX_PARTS", "ARROW", "is_term_of", "is_side", "is_rule", "parts_in", "is_rules", "read_symbols", "read_rule", "side_of", "Book", "fitting", "redexes_in", "is_ground_of", "nodes_put", "is_behind", "united_book"] : List PySem.Str) ++
  (["_law_dice", "_law_roll", "_law_pick", "_law_some", "_law_nodes", "_law_parts", "_law_put", "_law_fits", "_law_filled", "_law_leaves", "_law_made_term", "_law_term", "_law_small_term", "_law_symbols", "_law_argument", "_law_sketch", "_law_book", "_law_gustave", "_law_made", "_law_rules_at", "_law_redexes", "_law_is_behind", "_law_pairs", "_law_steps_right", "_law_right"] : List PySem.Str)
theorem run_s (w : World) (os : OsState) : (endF (stepQ (denQ tabQ) RR.prog w) 20000 RR.prog w os).map (fun s => seenQ (PySem.W.view RR.prog [94]) loose (importedModules RR.prog.main.body) (fun s => xlAt (PySem.W.view RR.prog [94]) [] s && recOk RR.toRowW.records s) s.abs) = some (openGood (PySem.W.view RR.prog [94]) loose) := by
  kernel_rfl
end FN
set_option maxHeartbeats 4000000
namespace FN
open PySem PySem.Spec PyProof.Rows L2
/-! ### plain terms -/
abbrev Nd := Str × Nat
inductive Tm where
  | mk (w : Str) (ts : List Tm)
def Tm.w : Tm → Str | .mk w _ => w
def Tm.ts : Tm → List Tm | .mk _ ts => ts
theorem Tm.eta (t : Tm) : Tm.mk t.w t.ts = t := by cases t; rfl
mutual
def size : Tm → Nat
  | .mk _ ts => sizes ts + 1
def sizes : List Tm → Nat
  | [] => 0
  | t :: r => size t + sizes r
end
mutual
def nodes : Tm → List Nd
  | .mk w ts => (w, ts.length) :: nodesL ts
def nodesL : List Tm → List Nd
  | [] => []
  | t :: r => nodes t ++ nodesL r
end
mutual
def parts : Tm → List Tm
  | .mk w ts => Tm.mk w ts :: partsL ts
def partsL : List Tm → List Tm
  | [] => []
  | t :: r => parts t ++ partsL r
end
/-- places of the roots -/
def pl : Nat → List Tm → List Nat
  | _, [] => []
  | p, t :: r => p :: pl (p + size t) r
mutual
def ch : Nat → Tm → List (List Nat)
  | p, .mk _ ts => pl (p + 1) ts :: chL (p + 1) ts
def chL : Nat → List Tm → List (List Nat)
  | _, [] => []
  | p, t :: r => ch p t ++ chL (p + size t) r
end
mutual
def en : Nat → Tm → List Nat
  | p, .mk _ ts => (p + (sizes ts + 1)) :: enL (p + 1) ts
def enL : Nat → List Tm → List Nat
  | _, [] => []
  | p, t :: r => en p t ++ enL (p + size t) r
end
/-- what is left of a forest behind k nodes -/
def sf : Nat → List Tm → List Tm
  | 0, F => F
  | _ + 1, [] => []
  | k + 1, .mk _ ts :: F => sf k (ts ++ F)
theorem size_pos (t : Tm) : 0 < size t := by cases t; rw [size]; omega
theorem sizes_app : ∀ A B : List Tm, sizes (A ++ B) = sizes A + sizes B
  | [], B => by rw [List.nil_append, sizes]; omega
  | t :: A, B => by rw [List.cons_append, sizes, sizes, sizes_app A B]; omega
theorem nodesL_app : ∀ A B : List Tm, nodesL (A ++ B) = nodesL A ++ nodesL B
  | [], B => by rw [List.nil_append, nodesL]; rfl
  | t :: A, B => by rw [List.cons_append, nodesL, nodesL, nodesL_app A B, List.append_assoc]
theorem partsL_app : ∀ A B : List Tm, partsL (A ++ B) = partsL A ++ partsL B
  | [], B => by rw [List.nil_append, partsL]; rfl
  | t :: A, B => by rw [List.cons_append, partsL, partsL, partsL_app A B, List.append_assoc]
theorem pl_app : ∀ (p : Nat) (A B : List Tm), pl p (A ++ B) = pl p A ++ pl (p + sizes A) B
  | p, [], B => by rw [List.nil_append, pl, sizes]; rfl
  | p, t :: A, B => by rw [List.cons_append, pl, pl, pl_app _ A B, sizes, List.cons_append, Nat.add_assoc]
theorem chL_app : ∀ (p : Nat) (A B : List Tm), chL p (A ++ B) = chL p A ++ chL (p + sizes A) B
  | p, [], B => by rw [List.nil_append, chL, sizes]; rfl
  | p, t :: A, B => by rw [List.cons_append, chL, chL, chL_app _ A B, sizes, List.append_assoc, Nat.add_assoc]
theorem enL_app : ∀ (p : Nat) (A B : List Tm), enL p (A ++ B) = enL p A ++ enL (p + sizes A) B
  | p, [], B => by rw [List.nil_append, enL, sizes]; rfl
  | p, t :: A, B => by rw [List.cons_append, enL, enL, enL_app _ A B, sizes, List.append_assoc, Nat.add_assoc]
theorem pl_length : ∀ (p : Nat) (F : List Tm), (pl p F).length = F.length
  | _, [] => rfl
  | p, t :: r => by rw [pl, List.length_cons, pl_length _ r, List.length_cons]
theorem sizes_len : ∀ F : List Tm, F.length ≤ sizes F
  | [] => by rw [sizes]; exact Nat.le_refl _
  | t :: r => by
    have := sizes_len r
    have := size_pos t
    rw [sizes, List.length_cons]; omega
theorem nodesL_cons (w : Str) (ts F : List Tm) : nodesL (Tm.mk w ts :: F) = (w, ts.length) :: nodesL (ts ++ F) := by rw [nodesL, nodes, nodesL_app, List.cons_append]
theorem partsL_cons (w : Str) (ts F : List Tm) : partsL (Tm.mk w ts :: F) = Tm.mk w ts :: partsL (ts ++ F) := by rw [partsL, parts, partsL_app, List.cons_append]
theorem chL_cons (p : Nat) (w : Str) (ts F : List Tm) : chL p (Tm.mk w ts :: F) = pl (p + 1) ts :: chL (p + 1) (ts ++ F) := by
  rw [chL, ch, chL_app, List.cons_append, size, Nat.add_comm (sizes ts) 1, ← Nat.add_assoc]
theorem enL_cons (p : Nat) (w : Str) (ts F : List Tm) : enL p (Tm.mk w ts :: F) = (p + (sizes ts + 1)) :: enL (p + 1) (ts ++ F) := by
  rw [enL, en, enL_app, List.cons_append, size, Nat.add_comm (sizes ts) 1, ← Nat.add_assoc]
theorem sizes_cons (w : Str) (ts F : List Tm) : sizes (Tm.mk w ts :: F) = sizes (ts ++ F) + 1 := by rw [sizes, size, sizes_app]; omega
theorem nodesL_length : ∀ (n : Nat) (F : List Tm), sizes F = n → (nodesL F).length = n
  | n, [], h => by rw [sizes] at h; rw [nodesL]; exact h
  | 0, .mk w ts :: F, h => by rw [sizes_cons] at h; omega
  | n + 1, .mk w ts :: F, h => by rw [sizes_cons] at h; rw [nodesL_cons, List.length_cons, nodesL_length n (ts ++ F) (by omega)]
theorem nodes_one (t : Tm) : nodesL [t] = nodes t := by rw [nodesL, nodesL, List.append_nil]
theorem parts_one (t : Tm) : partsL [t] = parts t := by rw [partsL, partsL, List.append_nil]
theorem ch_one (p : Nat) (t : Tm) : chL p [t] = ch p t := by rw [chL, chL, List.append_nil]
theorem en_one (p : Nat) (t : Tm) : enL p [t] = en p t := by rw [enL, enL, List.append_nil]
theorem sizes_one (t : Tm) : sizes [t] = size t := by rw [sizes, sizes]; omega
theorem nodes_length (t : Tm) : (nodes t).length = size t := by rw [← nodes_one, nodesL_length _ [t] rfl, sizes_one]
theorem sf_nil : ∀ k, sf k [] = []
  | 0 => rfl
  | _ + 1 => rfl
theorem nodesL_drop : ∀ (k : Nat) (F : List Tm), (nodesL F).drop k = nodesL (sf k F)
  | 0, F => rfl
  | k + 1, [] => rfl
  | k + 1, .mk w ts :: F => by rw [nodesL_cons, List.drop_succ_cons, nodesL_drop k (ts ++ F)]; rfl
theorem partsL_drop : ∀ (k : Nat) (F : List Tm), (partsL F).drop k = partsL (sf k F)
  | 0, F => rfl
  | k + 1, [] => rfl
  | k + 1, .mk w ts :: F => by rw [partsL_cons, List.drop_succ_cons, partsL_drop k (ts ++ F)]; rfl
theorem chL_drop : ∀ (k p : Nat) (F : List Tm), (chL p F).drop k = chL (p + k) (sf k F)
  | 0, p, F => rfl
  | k + 1, p, [] => rfl
  | k + 1, p, .mk w ts :: F => by rw [chL_cons, List.drop_succ_cons, chL_drop k (p + 1) (ts ++ F), Nat.add_assoc, Nat.add_comm 1 k]; rfl
theorem enL_drop : ∀ (k p : Nat) (F : List Tm), (enL p F).drop k = enL (p + k) (sf k F)
  | 0, p, F => rfl
  | k + 1, p, [] => rfl
  | k + 1, p, .mk w ts :: F => by rw [enL_cons, List.drop_succ_cons, enL_drop k (p + 1) (ts ++ F), Nat.add_assoc, Nat.add_comm 1 k]; rfl
theorem sf_sizes : ∀ (k : Nat) (F : List Tm), k ≤ sizes F → sizes (sf k F) = sizes F - k
  | 0, F, _ => by rw [sf]; omega
  | k + 1, [], h => by rw [sizes] at h; omega
  | k + 1, .mk w ts :: F, h => by
    rw [sizes_cons] at h ⊢
    rw [show sf (k + 1) (Tm.mk w ts :: F) = sf k (ts ++ F) from rfl, sf_sizes k (ts ++ F) (by omega)]
    omega
theorem sf_add : ∀ (j k : Nat) (F : List Tm), sf (j + k) F = sf k (sf j F)
  | 0, k, F => by rw [Nat.zero_add]; rfl
  | j + 1, k, [] => by rw [sf_nil, sf_nil, sf_nil]
  | j + 1, k, .mk w ts :: F => by
    rw [Nat.add_right_comm]
    exact sf_add j k (ts ++ F)
theorem sf_app_aux : ∀ (n : Nat) (A B : List Tm), sizes A = n → sf n (A ++ B) = B
  | 0, [], B, _ => rfl
  | 0, .mk w ts :: A, B, h => by rw [sizes_cons] at h; omega
  | n + 1, [], B, h => by rw [sizes] at h; omega
  | n + 1, .mk w ts :: A, B, h => by
    rw [sizes_cons] at h
    rw [List.cons_append, sf, ← List.append_assoc]
    exact sf_app_aux n (ts ++ A) B (by omega)
theorem sf_app (A B : List Tm) : sf (sizes A) (A ++ B) = B := sf_app_aux _ A B rfl
/-- the part at a place, with what follows it -/
theorem sf_at {F : List Tm} {k : Nat} (h : k < sizes F) : ∃ w ts G, sf k F = Tm.mk w ts :: G := by
  have e := sf_sizes k F (by omega)
  cases q : sf k F with
  | nil => rw [q, sizes] at e; omega
  | cons t G => cases t with | mk w ts => exact ⟨w, ts, G, rfl⟩
theorem sf_lt {F : List Tm} {k : Nat} {t : Tm} {G : List Tm} (h : sf k F = t :: G) : k < sizes F := by
  by_cases hk : k < sizes F
  · exact hk
  · have q : sf (sizes F) (F ++ []) = [] := sf_app F []
    rw [List.append_nil] at q
    have z : sf k F = [] := by rw [show k = sizes F + (k - sizes F) by omega, sf_add, q, sf_nil]
    rw [z] at h; cases h
theorem nodesL_get {F : List Tm} {k : Nat} {w : Str} {ts G : List Tm} (h : sf k F = Tm.mk w ts :: G) : (nodesL F)[k]? = some (w, ts.length) := by
  have e := nodesL_drop k F
  rw [h, nodesL_cons] at e
  rw [← List.head?_drop, e]; rfl
theorem partsL_get {F : List Tm} {k : Nat} {w : Str} {ts G : List Tm} (h : sf k F = Tm.mk w ts :: G) : (partsL F)[k]? = some (Tm.mk w ts) := by
  have e := partsL_drop k F
  rw [h, partsL_cons] at e
  rw [← List.head?_drop, e]; rfl
theorem chL_get {F : List Tm} {k p : Nat} {w : Str} {ts G : List Tm} (h : sf k F = Tm.mk w ts :: G) : (chL p F)[k]? = some (pl (p + k + 1) ts) := by
  have e := chL_drop k p F
  rw [h, chL_cons] at e
  rw [← List.head?_drop, e]; rfl
theorem enL_get {F : List Tm} {k p : Nat} {w : Str} {ts G : List Tm} (h : sf k F = Tm.mk w ts :: G) : (enL p F)[k]? = some (p + k + (sizes ts + 1)) := by
  have e := enL_drop k p F
  rw [h, enL_cons] at e
  rw [← List.head?_drop, e]; rfl
theorem partsL_length : ∀ (n : Nat) (F : List Tm), sizes F = n → (partsL F).length = n
  | n, [], h => by rw [sizes] at h; rw [partsL]; exact h
  | 0, .mk w ts :: F, h => by rw [sizes_cons] at h; omega
  | n + 1, .mk w ts :: F, h => by rw [sizes_cons] at h; rw [partsL_cons, List.length_cons, partsL_length n (ts ++ F) (by omega)]
theorem chL_length : ∀ (n p : Nat) (F : List Tm), sizes F = n → (chL p F).length = n
  | n, p, [], h => by rw [sizes] at h; rw [chL]; exact h
  | 0, p, .mk w ts :: F, h => by rw [sizes_cons] at h; omega
  | n + 1, p, .mk w ts :: F, h => by rw [sizes_cons] at h; rw [chL_cons, List.length_cons, chL_length n _ (ts ++ F) (by omega)]
theorem enL_length : ∀ (n p : Nat) (F : List Tm), sizes F = n → (enL p F).length = n
  | n, p, [], h => by rw [sizes] at h; rw [enL]; exact h
  | 0, p, .mk w ts :: F, h => by rw [sizes_cons] at h; omega
  | n + 1, p, .mk w ts :: F, h => by rw [sizes_cons] at h; rw [enL_cons, List.length_cons, enL_length n _ (ts ++ F) (by omega)]
theorem parts_length (t : Tm) : (parts t).length = size t := by rw [← parts_one, partsL_length _ [t] rfl, sizes_one]
theorem ch_length (p : Nat) (t : Tm) : (ch p t).length = size t := by rw [← ch_one, chL_length _ p [t] rfl, sizes_one]
theorem en_length (p : Nat) (t : Tm) : (en p t).length = size t := by rw [← en_one, enL_length _ p [t] rfl, sizes_one]

/-! ### the part of a term at a place -/
/-- at the place k of t stands s -/
def At (t : Tm) (k : Nat) (s : Tm) : Prop := ∃ G, sf k [t] = s :: G
theorem At.root (t : Tm) : At t 0 t := ⟨[], rfl⟩
theorem At.lt {t s : Tm} {k : Nat} (h : At t k s) : k < size t := by
  obtain ⟨G, e⟩ := h
  have := sf_lt e
  rwa [sizes_one] at this
theorem at_of {t : Tm} {k : Nat} (h : k < size t) : ∃ s, At t k s := by
  obtain ⟨w, ts, G, e⟩ := sf_at (F := [t]) (k := k) (by rw [sizes_one]; exact h)
  exact ⟨_, G, e⟩
theorem At.uniq {t s u : Tm} {k : Nat} (h : At t k s) (h' : At t k u) : s = u := by
  obtain ⟨G, e⟩ := h
  obtain ⟨G', e'⟩ := h'
  rw [e] at e'
  exact (List.cons.inj e').1
theorem At.node {t s : Tm} {k : Nat} (h : At t k s) : (nodes t)[k]? = some (s.w, s.ts.length) := by
  obtain ⟨G, e⟩ := h
  cases s with | mk w ts => rw [← nodes_one]; exact nodesL_get e
theorem At.part {t s : Tm} {k : Nat} (h : At t k s) : (parts t)[k]? = some s := by
  obtain ⟨G, e⟩ := h
  cases s with | mk w ts => rw [← parts_one]; exact partsL_get e
theorem At.chd {t s : Tm} {k : Nat} (h : At t k s) : (ch 0 t)[k]? = some (pl (k + 1) s.ts) := by
  obtain ⟨G, e⟩ := h
  cases s with | mk w ts =>
    rw [← ch_one]
    have := chL_get (p := 0) e
    rwa [Nat.zero_add] at this
theorem At.end_ {t s : Tm} {k : Nat} (h : At t k s) : (en 0 t)[k]? = some (k + size s) := by
  obtain ⟨G, e⟩ := h
  cases s with | mk w ts =>
    rw [← en_one]
    have := enL_get (p := 0) e
    rwa [Nat.zero_add] at this
theorem at_of_part {t s : Tm} {k : Nat} (h : (parts t)[k]? = some s) : At t k s := by
  have hk : k < size t := by
    rw [← parts_length]
    exact (List.getElem?_eq_some_iff.mp h).1
  obtain ⟨u, hu⟩ := at_of hk
  have := hu.part
  rw [h] at this
  cases this
  exact hu
theorem At.size_le {t s : Tm} {k : Nat} (h : At t k s) : k + size s ≤ size t := by
  obtain ⟨G, e⟩ := h
  have hk := sf_lt e
  have q := sf_sizes k [t] (by omega)
  rw [e, sizes, sizes_one] at q
  rw [sizes_one] at hk
  omega
/-- its children -/
theorem At.child {t : Tm} {k : Nat} {w : Str} {ts : List Tm} (h : At t k (Tm.mk w ts)) {i : Nat} {c : Tm} {p : Nat} (hc : ts[i]? = some c) (hp : (pl (k + 1) ts)[i]? = some p) : At t p c := by
  obtain ⟨G, e⟩ := h
  have e1 : sf (k + 1) [t] = ts ++ G := by rw [sf_add, e]; rfl
  have key : ∀ (i q : Nat) (us : List Tm) (R : List Tm), sf q [t] = us ++ R → us[i]? = some c → (pl q us)[i]? = some p → At t p c := by
    intro i
    induction i with
    | zero =>
      intro q us R hs h1 h2
      cases us with
      | nil => cases h1
      | cons u r =>
        rw [pl] at h2
        simp only [List.getElem?_cons_zero, Option.some.injEq] at h1 h2
        subst h1; subst h2
        exact ⟨r ++ R, by rw [hs]; rfl⟩
    | succ i ih =>
      intro q us R hs h1 h2
      cases us with
      | nil => cases h1
      | cons u r =>
        rw [pl] at h2
        simp only [List.getElem?_cons_succ] at h1 h2
        refine ih (q + size u) r R ?_ h1 h2
        rw [sf_add, hs]
        have := sf_app [u] (r ++ R)
        rw [sizes_one] at this
        exact this
  exact key i (k + 1) ts G e1 hc hp
/-- the nodes of a part -/
theorem At.nodes_cut {t s : Tm} {k : Nat} (h : At t k s) : ((nodes t).drop k).take (size s) = nodes s := by
  obtain ⟨G, e⟩ := h
  have q := nodesL_drop k [t]
  rw [e, nodes_one, nodesL] at q
  rw [q, ← nodes_length s, List.take_left]
end FN
set_option maxHeartbeats 4000000
namespace FN
open PySem PySem.Spec PyProof.Rows L2
/-! ### what stays -/
/-- all but lists is kept -/
def Kp (H H' : Hp) : Prop := ∀ a o, H a = some o → (∀ xs, o ≠ .lst xs) → H' a = some o
theorem Kp.refl (H : Hp) : Kp H H := fun _ _ h _ => h
theorem Kp.trans {H H1 H2 : Hp} (a : Kp H H1) (b : Kp H1 H2) : Kp H H2 := fun x o h n => b x o (a x o h n) n
theorem kp_same {H H' : Hp} (s : Same H H') : Kp H H' := fun a o h _ => s a o h
theorem kp_new {H : Hp} {p : Addr} {o : HO} (h : H p = none) : Kp H (upd H p o) := fun a u e _ => by rw [upd_ne (ne_of_none e h)]; exact e
theorem kp_lst {H : Hp} {p : Addr} {xs : List V} {o : HO} (h : H p = some (.lst xs)) : Kp H (upd H p o) := fun a u e n => by
  rw [upd_ne (fun z => by subst z; rw [h] at e; exact n _ (Option.some.inj e).symm)]; exact e
theorem same_new {H : Hp} {p : Addr} (h : H p = none) (o : HO) : Same H (upd H p o) := fun b u q => by rw [upd_ne (ne_of_none q h)]; exact q
/-- what H does not know may change -/
theorem same_mut {H H' : Hp} {p : Addr} {o : HO} (e : Same H H') (h : H p = none) : Same H (upd H' p o) := fun a u ha => by
  rw [upd_ne (ne_of_none ha h)]; exact e a u ha
/-- all but the list at d is kept -/
def FrD (d : Addr) (H H' : Hp) : Prop := ∀ a o, a ≠ d → H a = some o → H' a = some o
theorem FrD.refl (d : Addr) (H : Hp) : FrD d H H := fun _ _ _ h => h
theorem FrD.trans {d : Addr} {H H1 H2 : Hp} (a : FrD d H H1) (b : FrD d H1 H2) : FrD d H H2 := fun x o n h => b x o n (a x o n h)
theorem FrD.of {d : Addr} {H H' : Hp} (s : Same H H') : FrD d H H' := fun a o _ h => s a o h
theorem FrD.kp {d : Addr} {H H' : Hp} {xs : List V} (f : FrD d H H') (h : H d = some (.lst xs)) : Kp H H' := fun a o e n => f a o (fun z => by subst z; rw [h] at e; exact n _ (Option.some.inj e).symm) e
theorem FrD.free {d : Addr} {H H' : Hp} (f : FrD d H H') {l : Addr} (hl : l ≠ d) (h : H' l = none) : H l = none := by
  cases q : H l with
  | none => rfl
  | some o => rw [f l o hl q] at h; cases h

/-! ### numbers, texts, tuples of these -/
mutual
inductive Tp (K : PySem.W.Frag) (H : Hp) : V → PyData → Prop
  | int (i : Int) : Tp K H (.int i) (.int i)
  | str (x : Str) : Tp K H (.str x) (.str x)
  | tup {a : Addr} {xs : List V} {ds : List PyData} : SqT K H a xs → Tps K H xs ds → Tp K H (.ref a) (.tuple ds)
inductive Tps (K : PySem.W.Frag) (H : Hp) : List V → List PyData → Prop
  | nil : Tps K H [] []
  | cons {v : V} {vs : List V} {d : PyData} {ds : List PyData} : Tp K H v d → Tps K H vs ds → Tps K H (v :: vs) (d :: ds)
end
theorem sqT_kp {K : PySem.W.Frag} {H H' : Hp} {a : Addr} {xs : List V} (k : Kp H H') (h : SqT K H a xs) : SqT K H' a xs := by
  rcases h with (h | ⟨o, h⟩) | h
  · exact .inl (.inl (k a _ h (fun xs z => by cases z)))
  · exact .inl (.inr ⟨o, k a _ h (fun xs z => by cases z)⟩)
  · exact .inr h
theorem sqT_of {K : PySem.W.Frag} {H : Hp} {a : Addr} {xs : List V} (h : H a = some (.tup xs)) : SqT K H a xs := .inl (.inl h)
mutual
theorem Tp.kp {K : PySem.W.Frag} {H H' : Hp} (k : Kp H H') : ∀ {d : PyData} {v : V}, Tp K H v d → Tp K H' v d
  | .int i, _, h => by cases h; exact .int _
  | .str x, _, h => by cases h; exact .str _
  | .tuple ds, _, h => by cases h with | tup h1 h2 => exact .tup (sqT_kp k h1) (Tps.kp k h2)
  | .none, _, h => by cases h
  | .bool _, _, h => by cases h
  | .list _, _, h => by cases h
  | .dict _, _, h => by cases h
theorem Tps.kp {K : PySem.W.Frag} {H H' : Hp} (k : Kp H H') : ∀ {ds : List PyData} {vs : List V}, Tps K H vs ds → Tps K H' vs ds
  | [], _, h => by cases h; exact .nil
  | d :: ds, _, h => by cases h with | cons h1 h2 => exact .cons (Tp.kp k h1) (Tps.kp k h2)
end
mutual
theorem Tp.dp {K : PySem.W.Frag} {H : Hp} : ∀ {d : PyData} {v : V}, Tp K H v d → Dp K H v d
  | .int i, _, h => by cases h; exact .int _
  | .str x, _, h => by cases h; exact .str _
  | .tuple ds, _, h => by cases h with | tup h1 h2 => exact .tup h1 (Tps.dp h2)
  | .none, _, h => by cases h
  | .bool _, _, h => by cases h
  | .list _, _, h => by cases h
  | .dict _, _, h => by cases h
theorem Tps.dp {K : PySem.W.Frag} {H : Hp} : ∀ {ds : List PyData} {vs : List V}, Tps K H vs ds → DpAll K H vs ds
  | [], _, h => by cases h; exact .nil
  | d :: ds, _, h => by cases h with | cons h1 h2 => exact .cons (Tp.dp h1) (Tps.dp h2)
end
section
variable {K : PySem.W.Frag} {H H' : Hp}
theorem Tps.len : ∀ {vs : List V} {ds : List PyData}, Tps K H vs ds → vs.length = ds.length
  | _, _, .nil => rfl
  | _, _, .cons _ t => by rw [List.length_cons, List.length_cons, t.len]
theorem Tps.get : ∀ {vs : List V} {ds : List PyData} {i : Nat} {d : PyData}, Tps K H vs ds → ds[i]? = some d → ∃ v, vs[i]? = some v ∧ Tp K H v d
  | _, _, i, d, .nil, e => by simp at e
  | _, _, 0, d, .cons h _, e => by simp at e; subst e; exact ⟨_, rfl, h⟩
  | _, _, i + 1, d, .cons _ t, e => by
    simp only [List.getElem?_cons_succ] at e
    obtain ⟨v, h1, h2⟩ := t.get (i := i) e
    exact ⟨v, by simpa using h1, h2⟩
theorem Tps.getV : ∀ {vs : List V} {ds : List PyData} {i : Nat} {v : V}, Tps K H vs ds → vs[i]? = some v → ∃ d, ds[i]? = some d ∧ Tp K H v d
  | _, _, i, d, .nil, e => by simp at e
  | _, _, 0, d, .cons h _, e => by simp at e; subst e; exact ⟨_, rfl, h⟩
  | _, _, i + 1, d, .cons _ t, e => by
    simp only [List.getElem?_cons_succ] at e
    obtain ⟨v, h1, h2⟩ := t.getV (i := i) e
    exact ⟨v, by simpa using h1, h2⟩
theorem Tps.app : ∀ {vs ws : List V} {ds es : List PyData}, Tps K H vs ds → Tps K H ws es → Tps K H (vs ++ ws) (ds ++ es)
  | _, _, _, _, .nil, s => s
  | _, _, _, _, .cons h t, s => .cons h (t.app s)
theorem Tps.drop : ∀ {vs : List V} {ds : List PyData} (n : Nat), Tps K H vs ds → Tps K H (vs.drop n) (ds.drop n)
  | _, _, 0, h => h
  | _, _, n + 1, .nil => .nil
  | _, _, n + 1, .cons _ t => t.drop n
theorem Tps.take : ∀ {vs : List V} {ds : List PyData} (n : Nat), Tps K H vs ds → Tps K H (vs.take n) (ds.take n)
  | _, _, 0, h => by rw [List.take_zero, List.take_zero]; exact .nil
  | _, _, n + 1, .nil => .nil
  | _, _, n + 1, .cons h t => .cons h (t.take n)
theorem Tps.of_get {vs : List V} {ds : List PyData} (hl : vs.length = ds.length) (h : ∀ (i : Nat) (v : V) (d : PyData), vs[i]? = some v → ds[i]? = some d → Tp K H v d) : Tps K H vs ds := by
  induction vs generalizing ds with
  | nil => cases ds with
    | nil => exact .nil
    | cons d r => simp at hl
  | cons v vs ih => cases ds with
    | nil => simp at hl
    | cons d r => exact .cons (h 0 v d rfl rfl) (ih (by simpa using hl) fun i x e h1 h2 => h (i + 1) x e (by simpa using h1) (by simpa using h2))
/-- a tuple's items -/
theorem Tp.tupE {v : V} {ds : List PyData} (h : Tp K H v (.tuple ds)) : ∃ a xs, v = .ref a ∧ SqT K H a xs ∧ Tps K H xs ds := by
  cases h with | tup h1 h2 => exact ⟨_, _, rfl, h1, h2⟩
theorem Tp.tupR {a : Addr} {ds : List PyData} (h : Tp K H (.ref a) (.tuple ds)) : ∃ xs, SqT K H a xs ∧ Tps K H xs ds := by
  cases h with | tup h1 h2 => exact ⟨_, h1, h2⟩
theorem Tp.intE {v : V} {i : Int} (h : Tp K H v (.int i)) : v = .int i := by cases h; rfl
theorem Tp.strE {v : V} {x : Str} (h : Tp K H v (.str x)) : v = .str x := by cases h; rfl
end
/-! ### the data of nodes, places -/
def ndD (n : Nd) : PyData := .tuple [.str n.1, .int (n.2 : Int)]
def nodesD (ns : List Nd) : PyData := .tuple (ns.map ndD)
abbrev vI (n : Nat) : V := .int (n : Int)
def iD (n : Nat) : PyData := .int (n : Int)
def intsD (ns : List Nat) : PyData := .tuple (ns.map iD)
section
variable {K : PySem.W.Frag} {H H' : Hp}
theorem tps_ints : ∀ (ns : List Nat), Tps K H (ns.map vI) (ns.map iD)
  | [] => .nil
  | n :: r => .cons (.int _) (tps_ints r)
theorem tps_intsE : ∀ {ns : List Nat} {vs : List V}, Tps K H vs (ns.map iD) → vs = ns.map vI
  | [], _, h => by cases h; rfl
  | n :: r, _, h => by
    cases h with | cons h1 h2 => rw [h1.intE, tps_intsE h2]; rfl
theorem tp_intsE {a : Addr} {ns : List Nat} (h : Tp K H (.ref a) (intsD ns)) : SqT K H a (ns.map vI) := by
  obtain ⟨xs, h1, h2⟩ := h.tupR
  rw [tps_intsE h2] at h1
  exact h1
theorem tp_ints {a : Addr} {ns : List Nat} (h : SqT K H a (ns.map vI)) : Tp K H (.ref a) (intsD ns) := .tup h (tps_ints ns)
theorem tp_nd {a : Addr} {n : Nd} (h : SqT K H a [.str n.1, vI n.2]) : Tp K H (.ref a) (ndD n) := .tup h (.cons (.str _) (.cons (.int _) .nil))
theorem tp_ndE {v : V} {n : Nd} (h : Tp K H v (ndD n)) : ∃ a, v = .ref a ∧ SqT K H a [.str n.1, vI n.2] := by
  obtain ⟨a, xs, rfl, h1, h2⟩ := h.tupE
  cases h2 with | cons e1 r => cases r with | cons e2 r => cases r; rw [e1.strE, e2.intE] at h1; exact ⟨a, rfl, h1⟩
end
/-! ### readings of parts of the layer -/
section
variable {K : PySem.W.Frag} {σ : L2.St} {H : Hp} {Q : VK} {nx bk ct : L2.St → Hp → Prop} {rt : VK} {ta tb te : TE}
def Fld (K : PySem.W.Frag) (f : Str) (x : V) (H1 : Hp) (Q : VK) : Prop := ∃ a C dx fs v, x = .ref a ∧ H1 a = some (.ins C dx fs) ∧ Cls K C ∧ NoAttr K C f ∧ fs.lookup f = some v ∧ Q v H1
theorem rd_fld {f : Str} (h : ta σ H fun x H1 => Fld K f x H1 Q) : tFld K ta f σ H Q := h
theorem rd_Fld {f : Str} {a C dx : Addr} {fs : List (Str × V)} {v : V} (h : H a = some (.ins C dx fs)) (hc : Cls K C) (hn : NoAttr K C f) (hl : fs.lookup f = some v) (k : Q v H) : Fld K f (.ref a) H Q := ⟨a, C, dx, fs, v, rfl, h, hc, hn, hl, k⟩
theorem rd_sl {r : V → Option Int → Option Int → Hp → VK → Prop} {tl th : TO} (h : te σ H fun x H1 => tl σ H1 fun l H2 => th σ H2 fun u H3 => r x l u H3 Q) : tSl r te tl th σ H Q := h
theorem rd_part {Q : Option Int → Hp → Prop} (h : te σ H fun x H1 => ∃ i, x = .int i ∧ Q (some i) H1) : tPart te σ H Q := h
theorem rd_exi {i : Int} {P : Int → Prop} (h : P i) : ∃ k, V.int i = .int k ∧ P k := ⟨i, rfl, h⟩
theorem rd_noPart {Q : Option Int → Hp → Prop} (h : Q none H) : tNoPart σ H Q := h
/-- a slice of a tuple -/
theorem rd_slA {a : Addr} {xs : List V} {lo hi : Option Int} (h : SqT K H a xs) (k : ∀ p H', Same H H' → SqT K H' p (cutV xs lo hi) → Q (.ref p) H') : rSlA K (.ref a) lo hi H Q := by
  refine ⟨a, xs, rfl, h, fun ⟨h1, h2⟩ => k a H (Same.refl H) ?_, fun _ p hp => k p _ (same_new hp _) (sqT_of upd_same)⟩
  unfold cutV
  rw [h1, h2, List.drop_zero, Nat.sub_zero, List.take_length]
  exact h
theorem rd_slL {a : Addr} {xs : List V} {lo hi : Option Int} (h : SqL K H a xs) (k : ∀ p, H p = none → Q (.ref p) (upd H p (.lst (cutV xs lo hi)))) : rSlL K (.ref a) lo hi H Q := ⟨a, xs, rfl, h, k⟩
theorem rd_slS {z : Str} {lo hi : Option Int} (h : z.length ≤ sizeLine) (k : Q (.str (cutS z lo hi)) H) : rSlS (.str z) lo hi H Q := ⟨z, rfl, h, k⟩
theorem rd_ixT {p : Addr} {xs : List V} {i : Int} {v : V} (h : SqT K H p xs) (e : atI xs i = some v) (k : Q v H) : rIxT K (.ref p) (.int i) H Q := ⟨p, xs, i, v, rfl, rfl, h, e, k⟩
theorem rd_ixL {p : Addr} {xs : List V} {i : Int} {v : V} (h : SqL K H p xs) (e : atI xs i = some v) (k : Q v H) : rIxL K (.ref p) (.int i) H Q := ⟨p, xs, i, v, rfl, rfl, h, e, k⟩
theorem rd_ixS {z : Str} {i : Int} {c : Nat} (h : z.length ≤ sizeLine) (e : atI z.cps.toList i = some c) (k : Q (.str ⟨#[c]⟩) H) : rIxS (.str z) (.int i) H Q := ⟨z, i, c, rfl, rfl, h, e, k⟩
theorem rd_tup {t : TA} (h : t σ H fun xs H1 => xs.length ≤ sizeLine ∧ ∀ p, H1 p = none → Q (.ref p) (upd H1 p (.tup xs))) : tTup t σ H Q := h
theorem rd_lst {t : TA} (h : t σ H fun xs H1 => xs.length ≤ sizeLine ∧ ∀ p, H1 p = none → Q (.ref p) (upd H1 p (.lst xs))) : tLst t σ H Q := h
theorem rd_star {t : TA} {Q : List V → Hp → Prop} (h : te σ H fun x H1 => ∃ p xs, x = V.ref p ∧ (SqT K H1 p xs ∨ SqL K H1 p xs) ∧ t σ H1 fun ys H2 => Q (xs ++ ys) H2) : StX.tStar K te t σ H Q := h
theorem rd_starT {p : Addr} {xs : List V} {P : Hp → List V → Prop} (hx : SqT K H p xs) (h : P H xs) : ∃ q ys, V.ref p = V.ref q ∧ (SqT K H q ys ∨ SqL K H q ys) ∧ P H ys := ⟨p, xs, rfl, .inl hx, h⟩
theorem rd_bm {T : String} {r : V → List V → Hp → VK → Prop} {t : TA} (h : te σ H fun x H1 => tyV K T x H1 ∧ t σ H1 fun xs H2 => r x xs H2 Q) : tBM K T r te t σ H Q := h
theorem rd_bm0 {T : String} {r : V → List V → Hp → VK → Prop} (h : te σ H fun x H1 => tyV K T x H1 ∧ r x [] H1 Q) : tBM0 K T r te σ H Q := h
theorem tyV_l {a : Addr} {xs : List V} (h : SqL K H a xs) : tyV K "list" (.ref a) H := .inl ⟨rfl, xs, h⟩
theorem rd_append {l : Addr} {xs : List V} {y : V} (h : H l = some (.lst xs)) (hz : xs.length < sizeLine) (k : Q .non (upd H l (.lst (xs ++ [y])))) : rAppend (.ref l) [y] H Q := ⟨l, xs, y, rfl, rfl, h, hz, k⟩
theorem rd_cat {a b : Addr} {xs ys : List V} (h1 : H a = some (.lst xs)) (h2 : H b = some (.lst ys)) (hz : xs.length + ys.length ≤ sizeLine) (k : ∀ p, H p = none → Q (.ref p) (upd H p (.lst (xs ++ ys)))) : rCat (.ref a) (.ref b) H Q := ⟨a, b, xs, ys, rfl, rfl, h1, h2, hz, k⟩
theorem rd_gsub {to ti : TE} {t : TSet} {v : V} {Q : L2.St → Hp → Prop} (h : to σ H fun o H1 => ti σ H1 fun i H2 => t o i v H2 fun H3 => Q σ H3) : gSub to ti t v σ H Q := h
theorem rd_setL {l : Addr} {xs : List V} {i : Int} {j : Nat} {v : V} {Q : Hp → Prop} (h : H l = some (.lst xs)) (hj : ixN xs.length i = some j) (k : Q (upd H l (.lst (xs.set j v)))) : rSetL (.ref l) (.int i) v H Q := ⟨l, xs, i, j, rfl, rfl, h, hj, k⟩
theorem rd_rev (h : te σ H fun x H1 => ∃ a xs, x = .ref a ∧ SqL K H1 a xs ∧ ∀ p, H1 p = none → Q (.ref p) (upd H1 p (.lst xs.reverse))) : tRevL K te σ H Q := h
theorem cut_from (A B : List V) : cutV (A ++ B) (some (A.length : Int)) none = B := by
  unfold cutV
  rw [HT.sIx_nat, HT.sIx_none, List.take_of_length_le (by rw [List.length_drop]; omega), show min A.length (A ++ B).length = A.length by rw [List.length_append]; omega, List.drop_left]
theorem cut_to (A B : List V) : cutV (A ++ B) none (some (A.length : Int)) = A := by
  unfold cutV
  rw [HT.sIx_nat, HT.sIx_none, List.drop_zero, Nat.sub_zero, show min A.length (A ++ B).length = A.length by rw [List.length_append]; omega, List.take_left]
theorem cut_fromN (xs : List V) (i : Nat) (h : i ≤ xs.length) : cutV xs (some (i : Int)) none = xs.drop i := by
  unfold cutV
  rw [HT.sIx_nat, HT.sIx_none, Nat.min_eq_left h, List.take_of_length_le (by rw [List.length_drop]; omega)]
theorem cut_toN (xs : List V) (i : Nat) (h : i ≤ xs.length) : cutV xs none (some (i : Int)) = xs.take i := by
  unfold cutV
  rw [HT.sIx_nat, HT.sIx_none, List.drop_zero, Nat.sub_zero, Nat.min_eq_left h]
theorem cut_mid (xs : List V) (i j : Nat) (hj : j ≤ xs.length) (hi : i ≤ xs.length) : cutV xs (some (i : Int)) (some (j : Int)) = (xs.drop i).take (j - i) := by
  unfold cutV
  rw [HT.sIx_nat, HT.sIx_nat, Nat.min_eq_left hi, Nat.min_eq_left hj]
theorem ixN_nat {n j : Nat} (hj : j < n) : ixN n (j : Int) = some j := by
  unfold ixN
  rw [if_pos (by omega), if_pos (by omega)]
  simp
theorem small {n : Nat} (h : n ≤ 100000) : n ≤ sizeLine := Nat.le_trans h (by decide)
theorem smallL {n : Nat} (h : n ≤ 100000) : n < sizeLine := Nat.lt_of_le_of_lt h (by decide)
end
/-! ### a Term -/
def tF (n c e s u l : V) : List (Str × V) := [("own_nodes", n), ("own_children", c), ("own_ends", e), ("own_symbols", s), ("own_unknown", u), ("own_lost", l)]
/-- the places of a word -/
def plw (w : Str) : Nat → List Nd → List Nat
  | _, [] => []
  | p, n :: r => if n.1 = w then p :: plw w (p + 1) r else plw w (p + 1) r
/-- a dict of words and arities as they stand in some nodes -/
def SymOk (ns : List Nd) (kvs : List (Key × V)) : Prop := ∃ F : List Nd, kvs = F.map (fun n => ((.inr n.1 : Key), vI n.2)) ∧ F.length ≤ ns.length ∧ ∀ n ∈ F, n ∈ ns ∧ n.1 ∉ [("_" : Str), ("#" : Str)]
structure TermR (K : PySem.W.Frag) (C : Ad) (H : Hp) (a : Addr) (t : Tm) (dx n c e sd u l : Addr) (kvs : List (Key × V)) : Prop where
  ob : H a = some (.ins C.t dx (tF (.ref n) (.ref c) (.ref e) (.ref sd) (.ref u) (.ref l)))
  nd : Tp K H (.ref n) (nodesD (nodes t))
  cd : Tp K H (.ref c) (.tuple ((ch 0 t).map intsD))
  ed : SqT K H e ((en 0 t).map vI)
  sd : H sd = some (.dK kvs)
  sy : SymOk (nodes t) kvs
  ud : SqT K H u ((plw "_" 0 (nodes t)).map vI)
  ld : SqT K H l ((plw "#" 0 (nodes t)).map vI)
def TermAt (K : PySem.W.Frag) (C : Ad) (H : Hp) (a : Addr) (t : Tm) : Prop := ∃ dx n c e sd u l kvs, TermR K C H a t dx n c e sd u l kvs
theorem TermR.kp {K : PySem.W.Frag} {C : Ad} {H H' : Hp} {a : Addr} {t : Tm} {dx n c e sd u l : Addr} {kvs : List (Key × V)} (R : TermR K C H a t dx n c e sd u l kvs) (k : Kp H H') : TermR K C H' a t dx n c e sd u l kvs :=
  ⟨k _ _ R.ob (fun xs z => by cases z), R.nd.kp k, R.cd.kp k, sqT_kp k R.ed, k _ _ R.sd (fun xs z => by cases z), R.sy, sqT_kp k R.ud, sqT_kp k R.ld⟩
theorem TermAt.kp {K : PySem.W.Frag} {C : Ad} {H H' : Hp} {a : Addr} {t : Tm} (R : TermAt K C H a t) (k : Kp H H') : TermAt K C H' a t := by
  obtain ⟨dx, n, c, e, sd, u, l, kvs, R⟩ := R
  exact ⟨dx, n, c, e, sd, u, l, kvs, R.kp k⟩
end FN
set_option maxHeartbeats 4000000
namespace FN
open PySem PySem.Spec PyProof.Rows L2
/-! ### built-ins, their readings by names -/
section
variable {X : Cx} {K : PySem.W.Frag} {H : Hp} {Q : VK}
def rLenS (K : PySem.W.Frag) : List V → Hp → VK → Prop := fun xs H Q => ∃ p ys, xs = [.ref p] ∧ (SqL K H p ys ∨ SqT K H p ys) ∧ Q (.int ys.length) H
theorem c_lenS : CallR X (.builtin "len") (rLenS X.K) := call_len_seq
theorem rd_len {p : Addr} {ys : List V} (h : SqL K H p ys ∨ SqT K H p ys) (k : Q (.int ys.length) H) : rLenS K [.ref p] H Q := ⟨p, ys, rfl, h, k⟩
def rLenZ : List V → Hp → VK → Prop := fun xs H Q => ∃ z, xs = [.str z] ∧ z.length ≤ sizeLine ∧ Q (.int z.length) H
theorem c_lenZ : CallR X (.builtin "len") rLenZ := call_len_str
theorem rd_lenZ {z : Str} (h : z.length ≤ sizeLine) (k : Q (.int z.length) H) : rLenZ [.str z] H Q := ⟨z, rfl, h, k⟩
def rLenD : List V → Hp → VK → Prop := fun xs H Q => ∃ a kvs, xs = [V.ref a] ∧ H a = some (.dK kvs) ∧ Q (.int kvs.length) H
theorem c_lenD : CallR X (.builtin "len") rLenD := call_lenD
theorem rd_lenD {a : Addr} {kvs : List (Key × V)} (h : H a = some (.dK kvs)) (k : Q (.int kvs.length) H) : rLenD [.ref a] H Q := ⟨a, kvs, rfl, h, k⟩
def rListS (K : PySem.W.Frag) : List V → Hp → VK → Prop := fun xs H Q => ∃ p ys, xs = [.ref p] ∧ (SqL K H p ys ∨ SqT K H p ys) ∧ ∀ l, H l = none → Q (.ref l) (upd H l (.lst ys))
theorem c_listS : CallR X (.type "list") (rListS X.K) := call_list_of
theorem rd_listS {p : Addr} {ys : List V} (h : SqL K H p ys ∨ SqT K H p ys) (k : ∀ l, H l = none → Q (.ref l) (upd H l (.lst ys))) : rListS K [.ref p] H Q := ⟨p, ys, rfl, h, k⟩
def rTupS (K : PySem.W.Frag) : List V → Hp → VK → Prop := fun xs H Q => ∃ p ys, xs = [.ref p] ∧ ((SqL K H p ys ∧ ∀ l, H l = none → Q (.ref l) (upd H l (.tup ys))) ∨ (SqT K H p ys ∧ Q (.ref p) H))
theorem c_tupS : CallR X (.type "tuple") (rTupS X.K) := call_tuple_of
theorem rd_tupS {p : Addr} {ys : List V} (h : SqL K H p ys) (k : ∀ l, H l = none → Q (.ref l) (upd H l (.tup ys))) : rTupS K [.ref p] H Q := ⟨p, ys, rfl, .inl ⟨h, k⟩⟩
def rAbs : List V → Hp → VK → Prop := fun xs H Q => ∃ i, xs = [.int i] ∧ Q (.int (if i < 0 then -i else i)) H
theorem c_abs : CallR X (.builtin "abs") rAbs := call_abs
theorem rd_abs {i : Int} (k : Q (.int (if i < 0 then -i else i)) H) : rAbs [.int i] H Q := ⟨i, rfl, k⟩
def rMax2 : List V → Hp → VK → Prop := fun xs H Q => ∃ i j, xs = [.int i, .int j] ∧ Q (.int (if j > i then j else i)) H
theorem c_max2 (hc : X.calm = true) : CallR X (.builtin "max") rMax2 := call_max2 hc
theorem rd_max2 {i j : Int} (k : Q (.int (if j > i then j else i)) H) : rMax2 [.int i, .int j] H Q := ⟨i, j, rfl, k⟩
def rMin2 : List V → Hp → VK → Prop := fun xs H Q => ∃ i j, xs = [.int i, .int j] ∧ Q (.int (if j < i then j else i)) H
theorem c_min2 (hc : X.calm = true) : CallR X (.builtin "min") rMin2 := call_min2 hc
theorem rd_min2 {i j : Int} (k : Q (.int (if j < i then j else i)) H) : rMin2 [.int i, .int j] H Q := ⟨i, j, rfl, k⟩
def rInt1 : List V → Hp → VK → Prop := fun xs H Q => (∃ i, xs = [.int i] ∧ Q (.int i) H) ∨ ∃ k, xs = [.bl k] ∧ Q (.int (if k then 1 else 0)) H
theorem c_int1 : CallR X (.type "int") rInt1 := call_int1
theorem rd_int1 {i : Int} (k : Q (.int i) H) : rInt1 [.int i] H Q := .inl ⟨i, rfl, k⟩
theorem rd_int1b {b : Bool} (k : Q (.int (if b then 1 else 0)) H) : rInt1 [.bl b] H Q := .inr ⟨b, rfl, k⟩
def rIntS : List V → Hp → VK → Prop := fun xs H Q => ∃ a n, xs = [.str a] ∧ PySem.intText? a = some n ∧ a.length ≤ 640 ∧ Q (.int n) H
theorem c_intS : CallR X (.type "int") rIntS := call_int_str
theorem rd_intS {a : Str} {n : Int} (h : PySem.intText? a = some n) (hl : a.length ≤ 640) (k : Q (.int n) H) : rIntS [.str a] H Q := ⟨a, n, rfl, h, hl, k⟩
def rInSign : R2 := fun x y H Q => ∃ (c : Nat) (z : Str), x = .str ⟨#[c]⟩ ∧ y = .str z ∧ Q (.bl (decide (c ∈ z.cps.toList))) H
theorem o_inSign : OpR X (compareOp .In) rInSign := op_in_sign
theorem rd_inSign {c : Nat} {z : Str} (k : Q (.bl (decide (c ∈ z.cps.toList))) H) : rInSign (.str ⟨#[c]⟩) (.str z) H Q := ⟨c, z, rfl, rfl, k⟩
def rNiSign : R2 := fun x y H Q => ∃ (c : Nat) (z : Str), x = .str ⟨#[c]⟩ ∧ y = .str z ∧ Q (.bl (!decide (c ∈ z.cps.toList))) H
theorem o_niSign : OpR X (compareOp .NotIn) rNiSign := op_notIn_sign
theorem rd_niSign {c : Nat} {z : Str} (k : Q (.bl (!decide (c ∈ z.cps.toList))) H) : rNiSign (.str ⟨#[c]⟩) (.str z) H Q := ⟨c, z, rfl, rfl, k⟩
def rAddS : R2 := fun x y H Q => ∃ i j, x = .str i ∧ y = .str j ∧ i.length + j.length ≤ sizeLine ∧ Q (.str (i ++ j)) H
theorem o_addS : OpR X (binaryOp .Add) rAddS := op_add_str
theorem rd_addS {i j : Str} (h : i.length + j.length ≤ sizeLine) (k : Q (.str (i ++ j)) H) : rAddS (.str i) (.str j) H Q := ⟨i, j, rfl, rfl, h, k⟩
def rIsN : R2 := fun x y H Q => y = .non ∧ Q (.bl (decide (x = .non))) H
theorem o_isN : OpR X (compareOp .Is) rIsN := op_isN
theorem rd_isN {x : V} (k : Q (.bl (decide (x = .non))) H) : rIsN x .non H Q := ⟨rfl, k⟩
def rNtN : R2 := fun x y H Q => y = .non ∧ Q (.bl (!decide (x = .non))) H
theorem o_ntN : OpR X (compareOp .IsNot) rNtN := op_notN
theorem rd_ntN {x : V} (k : Q (.bl (!decide (x = .non))) H) : rNtN x .non H Q := ⟨rfl, k⟩
theorem dec_ref {a : Addr} : decide (V.ref a = V.non) = false := rfl
end
section
variable {J : It} {n : Nat} {G : Hp → Prop} {Y : Nat → Hp → V → Hp → Prop} {g : TG} {tt : TT} {te : TE} {vs : List Nat} {σ : L2.St} {H1 : Hp} {D : Addr} {Qd : Hp → Prop}
abbrev LcG (J : It) (g : TG) (tt : TT) (te : TE) (vs : List Nat) (σ : L2.St) (H1 : Hp) (D : Addr) (Qd : Hp → Prop) : Prop :=
  ∃ W : Nat → Nat → Hp → Prop, (∃ m, W 0 m (upd H1 D (.lst []))) ∧ ∀ i m H, W i m H →
  (J.stop i H ∧ Qd H) ∨ (J.go i H ∧ ∃ Nx : Hp → Prop, (∀ H', Nx H' → ∃ m', m' < m ∧ W (i + 1) m' H') ∧ ∀ x H', J.yld i H x H' → g x (wipe σ vs) H' fun σ2 H2 => wipe σ2 vs = wipe σ vs ∧ tt σ2 H2 fun b H3 =>
    if b = true then te σ2 H3 fun y H4 => ∃ acc, H4 D = some (.lst acc) ∧ acc.length < sizeLine ∧ Nx (upd H4 D (.lst (acc ++ [y]))) else Nx H3)
theorem ifMono {b : Bool} {A A' B B' : Prop} (h : if b = true then A else B) (ha : A → A') (hb : B → B') : if b = true then A' else B' := by
  cases b with
  | true => rw [if_pos rfl] at h ⊢; exact ha h
  | false => rw [if_neg (by decide)] at h ⊢; exact hb h
/-- a list comprehension by a word of the turn, the items so far, the heap; me: the reading of the element carries over -/
theorem lc_gen (w : Walk J n G Y) (R : Nat → List V → Hp → Prop) (hn : n ≤ 50000) (h0 : R 0 [] (upd H1 D (.lst []))) (hG : ∀ i acc H, R i acc H → G H)
    (hs : ∀ i acc x H H', i < n → acc.length ≤ i → H D = some (.lst acc) → R i acc H → Y i H x H' → g x (wipe σ vs) H' fun σ2 H2 => wipe σ2 vs = wipe σ vs ∧ tt σ2 H2 fun b H3 =>
      if b = true then te σ2 H3 fun y H4 => ∃ acc, H4 D = some (.lst acc) ∧ acc.length < sizeLine ∧ (∃ acc', (upd H4 D (.lst (acc ++ [y]))) D = some (.lst acc') ∧ acc'.length ≤ i + 1 ∧ R (i + 1) acc' (upd H4 D (.lst (acc ++ [y])))) else ∃ acc', H3 D = some (.lst acc') ∧ acc'.length ≤ i + 1 ∧ R (i + 1) acc' H3)
    (hd : ∀ acc H, H D = some (.lst acc) → acc.length ≤ n → R n acc H → Qd H) : LcG J g tt te vs σ H1 D Qd :=
  lc_it w (fun i H => ∃ acc, H D = some (.lst acc) ∧ acc.length ≤ i ∧ R i acc H) ⟨[], upd_same, Nat.le_refl _, h0⟩ (fun i H _ ⟨acc, _, _, r⟩ => hG i acc H r)
    (fun i x H H' hi ⟨acc, h1, h2, r⟩ y => hs i acc x H H' hi h2 h1 r y) (fun H ⟨acc, h1, h2, r⟩ => hd acc H h1 h2 r)
/-- what is said behind an element: y is the next item, all that stood stands -/
def Nxt (D : Addr) (H : Hp) (acc : List V) (P : V → Hp → Prop) : VK := fun y H4 => Same H H4 ∧ P y H4
/-- the element, kept: the heap as it was and more -/
theorem lc_elt {i : Nat} {acc : List V} {R : Nat → List V → Hp → Prop} {H H4 H1 : Hp} {y : V} (hi : i < 50000) (hl : acc.length ≤ i) (hD : H D = some (.lst acc)) (hfr : H1 D = none) (s : Same H1 H) (s4 : Same H H4) (hk : ∀ i acc H H', R i acc H → Kp H H' → R i acc H') (r : R (i + 1) (acc ++ [y]) H4) :
    ∃ acc, H4 D = some (.lst acc) ∧ acc.length < sizeLine ∧ (∃ acc', (upd H4 D (.lst (acc ++ [y]))) D = some (.lst acc') ∧ acc'.length ≤ i + 1 ∧ (Same H1 (upd H4 D (.lst (acc ++ [y]))) ∧ R (i + 1) acc' (upd H4 D (.lst (acc ++ [y]))))) :=
  ⟨acc, s4 D _ hD, smallL (by omega), acc ++ [y], upd_same, by rw [List.length_append]; simp; omega, same_mut (s.trans s4) hfr, hk _ _ _ _ r (kp_lst (s4 D _ hD))⟩
theorem lc_skip {i : Nat} {acc : List V} {R : Nat → List V → Hp → Prop} {H H3 H1 : Hp} (hl : acc.length ≤ i) (hD : H D = some (.lst acc)) (s : Same H1 H) (s3 : Same H H3) (r : R (i + 1) acc H3) :
    ∃ acc', H3 D = some (.lst acc') ∧ acc'.length ≤ i + 1 ∧ (Same H1 H3 ∧ R (i + 1) acc' H3) := ⟨acc, s3 D _ hD, Nat.le_succ_of_le hl, s.trans s3, r⟩
/-- .. where the block leaves all that stood as it was -/
theorem lc_same (w : Walk J n G Y) (R : Nat → List V → Hp → Prop) (hn : n ≤ 50000) (hD : H1 D = none) (hk : ∀ i acc H H', R i acc H → Kp H H' → R i acc H') (h0 : R 0 [] H1) (hG : ∀ H, Same H1 H → G H)
    (hs : ∀ i acc x H H', i < n → acc.length ≤ i → Same H1 H → H D = some (.lst acc) → R i acc H → Y i H x H' → g x (wipe σ vs) H' fun σ2 H2 => wipe σ2 vs = wipe σ vs ∧ tt σ2 H2 fun b H3 =>
      if b = true then te σ2 H3 fun y H4 => ∃ acc, H4 D = some (.lst acc) ∧ acc.length < sizeLine ∧ (∃ acc', (upd H4 D (.lst (acc ++ [y]))) D = some (.lst acc') ∧ acc'.length ≤ i + 1 ∧ (Same H1 (upd H4 D (.lst (acc ++ [y]))) ∧ R (i + 1) acc' (upd H4 D (.lst (acc ++ [y]))))) else ∃ acc', H3 D = some (.lst acc') ∧ acc'.length ≤ i + 1 ∧ (Same H1 H3 ∧ R (i + 1) acc' H3))
    (hd : ∀ acc H, Same H1 H → H D = some (.lst acc) → acc.length ≤ n → R n acc H → Qd H) : LcG J g tt te vs σ H1 D Qd :=
  lc_gen w (fun i acc H => Same H1 H ∧ R i acc H) hn ⟨same_new hD _, hk _ _ _ _ h0 (kp_new hD)⟩ (fun i acc H r => hG H r.1)
    (fun i acc x H H' hi hl hD' r y => hs i acc x H H' hi hl r.1 hD' r.2 y) (fun acc H h1 h2 r => hd acc H r.1 h1 h2 r.2)
end
abbrev ForG (J : It) (g : TG) (tb : TS) (nx : L2.St → Hp → Prop) (rt : VK) (σ : L2.St) (H1 : Hp) : Prop := ∃ W : Nat → Nat → L2.St → Hp → Prop, (∃ m, W 0 m σ H1) ∧ ∀ i m σ H, W i m σ H →
  (J.stop i H ∧ nx σ H) ∨ (J.go i H ∧ ∃ N : L2.St → Hp → Prop, (∀ σ' H', N σ' H' → ∃ m', m' < m ∧ W (i + 1) m' σ' H') ∧ ∀ x H', J.yld i H x H' → g x σ H' fun σ2 H2 => tb ⟨N, rt, nx, N⟩ σ2 H2)
/-- a for by a word of the turn, the slots, the heap -/
theorem fo_it {J : It} {n : Nat} {G : Hp → Prop} {Y : Nat → Hp → V → Hp → Prop} {g : TG} {tb : TS} {nx : L2.St → Hp → Prop} {rt : VK} {σ : L2.St} {H : Hp} (w : Walk J n G Y) (Pv : Nat → L2.St → Hp → Prop) (h0 : Pv 0 σ H) (hG : ∀ i σ H, i ≤ n → Pv i σ H → G H)
    (hs : ∀ i x σ H H', i < n → Pv i σ H → Y i H x H' → g x σ H' fun σ2 H2 => tb ⟨Pv (i + 1), rt, nx, Pv (i + 1)⟩ σ2 H2) (hd : ∀ σ H, Pv n σ H → nx σ H) : ForG J g tb nx rt σ H :=
  for_it (D := ⟨nx, rt, nx, nx⟩) w Pv h0 hG hs hd
section
variable {K : PySem.W.Frag} {σ : L2.St} {H : Hp} {Q : VK} {nx bk ct : L2.St → Hp → Prop} {rt : VK} {ta tb te td tl : TE} {tt : TT} {g : TG} {vs : List Nat} {tbd : TS} {t : TA}
theorem rd_lcTup (h : tl σ H fun x H1 => ∃ a, x = .ref a ∧ (∃ xs, SqT K H1 a xs) ∧ ∀ D, H1 D = none → LcG (Itt K a) g tt te vs σ H1 D (Q (.ref D))) : tLc (iTup K tl) g tt te vs σ H Q := h
theorem rd_lcLst (h : tl σ H fun x H1 => ∃ a, x = .ref a ∧ (∃ xs, SqL K H1 a xs) ∧ ∀ D, H1 D = none → LcG (Itl K a) g tt te vs σ H1 D (Q (.ref D))) : tLc (iList K tl) g tt te vs σ H Q := h
theorem rd_lcStr (h : tl σ H fun v H1 => ∃ x, v = .str x ∧ ∀ D, H1 D = none → LcG (Its x) g tt te vs σ H1 D (Q (.ref D))) : tLc (iStr tl) g tt te vs σ H Q := h
theorem rd_lcR1 (h : t σ H fun ws H1 => ∃ j : Int, ws = [.int j] ∧ -(2 ^ 62) ≤ j ∧ j < 2 ^ 62 ∧ ∀ D, H1 D = none → LcG (Itr 0 j.toNat) g tt te vs σ H1 D (Q (.ref D))) : tLc (iRng1 t) g tt te vs σ H Q := h
theorem rd_lcR2 (h : t σ H fun ws H1 => ∃ i j : Int, ws = [.int i, .int j] ∧ (-(2 ^ 62) ≤ i ∧ i < 2 ^ 62 ∧ -(2 ^ 62) ≤ j ∧ j < 2 ^ 62) ∧ ∀ D, H1 D = none → LcG (Itr i (j - i).toNat) g tt te vs σ H1 D (Q (.ref D))) : tLc (iRng2 t) g tt te vs σ H Q := h
theorem rd_lcKeys (h : td σ H fun x H1 => ∃ d o, x = .ref d ∧ ((∃ kvs, H1 d = some (.frz o (.dK kvs)) ∧ ∀ D, H1 D = none → LcG (Itk d o kvs) g tt te vs σ H1 D (Q (.ref D))) ∨ ∃ kvs, H1 d = some (.frz o (.dT kvs)) ∧ ∀ D, H1 D = none → LcG (Itkt d o kvs) g tt te vs σ H1 D (Q (.ref D)))) : tLc (iKeys td) g tt te vs σ H Q := h
theorem rd_lcVals (h : td σ H fun x H1 => ∃ d o kvs, x = .ref d ∧ H1 d = some (.frz o (.dK kvs)) ∧ ∀ D, H1 D = none → LcG (Itd d o kvs) g tt te vs σ H1 D (Q (.ref D))) : tLc (iVals td) g tt te vs σ H Q := h
theorem rd_lcItems (h : td σ H fun x H1 => ∃ d o kvs, x = .ref d ∧ H1 d = some (.frz o (.dK kvs)) ∧ ∀ D, H1 D = none → LcG (Iti d o kvs) g tt te vs σ H1 D (Q (.ref D))) : tLc (iItems td) g tt te vs σ H Q := h
theorem rd_lcZip (h : t σ H fun ws H1 => ∃ a b xs ys, ws = [.ref a, .ref b] ∧ ((SqL K H1 a xs ∧ SqL K H1 b ys ∧ ∀ D, H1 D = none → LcG (Itz K a b) g tt te vs σ H1 D (Q (.ref D))) ∨ (SqT K H1 a xs ∧ SqT K H1 b ys ∧ ∀ D, H1 D = none → LcG (RZ.ItzT K a b) g tt te vs σ H1 D (Q (.ref D))))) : tLc (RZ.iZipA K t) g tt te vs σ H Q := h
theorem rd_forTup (h : tl σ H fun x H1 => ∃ a, x = .ref a ∧ (∃ xs, SqT K H1 a xs) ∧ ForG (Itt K a) g tbd nx rt σ H1) : tFor (iTup K tl) g tbd ⟨nx, rt, bk, ct⟩ σ H := h
theorem rd_forLst (h : tl σ H fun x H1 => ∃ a, x = .ref a ∧ (∃ xs, SqL K H1 a xs) ∧ ForG (Itl K a) g tbd nx rt σ H1) : tFor (iList K tl) g tbd ⟨nx, rt, bk, ct⟩ σ H := h
theorem rd_forR1 (h : t σ H fun ws H1 => ∃ j : Int, ws = [.int j] ∧ -(2 ^ 62) ≤ j ∧ j < 2 ^ 62 ∧ ForG (Itr 0 j.toNat) g tbd nx rt σ H1) : tFor (iRng1 t) g tbd ⟨nx, rt, bk, ct⟩ σ H := h
theorem rd_forR2 (h : t σ H fun ws H1 => ∃ i j : Int, ws = [.int i, .int j] ∧ (-(2 ^ 62) ≤ i ∧ i < 2 ^ 62 ∧ -(2 ^ 62) ≤ j ∧ j < 2 ^ 62) ∧ ForG (Itr i (j - i).toNat) g tbd nx rt σ H1) : tFor (iRng2 t) g tbd ⟨nx, rt, bk, ct⟩ σ H := h
theorem rd_forR3 (h : t σ H fun ws H1 => ∃ (i j c : Int) (n : Nat), ws = [.int i, .int j, .int c] ∧ RgC i j c n ∧ ForG (Itc i c n) g tbd nx rt σ H1) : tFor (iRng3 t) g tbd ⟨nx, rt, bk, ct⟩ σ H := h
theorem rd_forZip (h : t σ H fun ws H1 => ∃ a b xs ys, ws = [.ref a, .ref b] ∧ ((SqL K H1 a xs ∧ SqL K H1 b ys ∧ ForG (Itz K a b) g tbd nx rt σ H1) ∨ (SqT K H1 a xs ∧ SqT K H1 b ys ∧ ForG (RZ.ItzT K a b) g tbd nx rt σ H1))) : tFor (RZ.iZipA K t) g tbd ⟨nx, rt, bk, ct⟩ σ H := h
theorem rd_forItems (h : td σ H fun x H1 => ∃ d o kvs, x = .ref d ∧ H1 d = some (.frz o (.dK kvs)) ∧ ForG (Iti d o kvs) g tbd nx rt σ H1) : tFor (iItems td) g tbd ⟨nx, rt, bk, ct⟩ σ H := h
/-- the ends of these heads -/
theorem rd_oneTup {a : Addr} {xs : List V} {P : Addr → Prop} (hx : SqT K H a xs) (h : P a) : ∃ a', V.ref a = .ref a' ∧ (∃ xs, SqT K H a' xs) ∧ P a' := ⟨a, rfl, ⟨xs, hx⟩, h⟩
theorem rd_oneLst {a : Addr} {xs : List V} {P : Addr → Prop} (hx : SqL K H a xs) (h : P a) : ∃ a', V.ref a = .ref a' ∧ (∃ xs, SqL K H a' xs) ∧ P a' := ⟨a, rfl, ⟨xs, hx⟩, h⟩
theorem rd_oneStr {z : Str} {P : Str → Prop} (h : P z) : ∃ x, V.str z = .str x ∧ P x := ⟨z, rfl, h⟩
theorem rd_oneR1 {j : Int} {P : Int → Prop} (h1 : -(2 ^ 62) ≤ j) (h2 : j < 2 ^ 62) (h : P j) : ∃ j' : Int, [V.int j] = [.int j'] ∧ -(2 ^ 62) ≤ j' ∧ j' < 2 ^ 62 ∧ P j' := ⟨j, rfl, h1, h2, h⟩
theorem rd_all {a : Addr} {bs : List Bool} (h : SqL K H a (bs.map V.bl)) (k : Q (.bl (bs.all id)) H) : rAll K [.ref a] H Q := ⟨a, bs, rfl, h, k⟩
end
end FN
set_option maxHeartbeats 4000000
namespace FN
open PySem PySem.Spec PyProof.Rows L2
local macro_rules | `(tactic| walk_at "w") => `(tactic| repeat (with_reducible first
  | refine rd_seq ?_
  | refine rd_asg ?_
  | refine rd_name ?_
  | refine rd_ret ?_
  | refine rd_drop ?_
  | refine rd_if ?_
  | refine rd_next ?_
  | refine rd_var (by k_dflt rfl) ?_
  | refine rd_c ?_
  | refine rd_op ?_
  | refine rd_un ?_
  | refine rd_test ?_
  | refine rd_B ?_
  | refine rd_I0 ?_
  | refine rd_U ?_
  | refine rd_eqI ?_
  | refine rd_neI ?_
  | refine rd_eqS ?_
  | refine rd_neS ?_
  | refine rd_and ?_
  | refine rd_or ?_
  | refine rd_not ?_
  | refine rd_andV ?_
  | refine rd_orV ?_
  | refine rd_notV ?_
  | refine rd_ife ?_
  | refine rd_chain ?_
  | refine rd_exb ?_
  | refine rd_exi ?_
  | refine rd_nil ?_
  | refine rd_cons ?_
  | refine rd_CB ?_
  | refine rd_G ?_
  | refine rd_fld ?_
  | refine rd_sl ?_
  | refine rd_part ?_
  | refine rd_noPart ?_
  | refine rd_leaf ?_
  | refine rd_tup ?_
  | refine rd_lst ?_
  | refine rd_star ?_
  | refine rd_bm ?_
  | refine rd_bm0 ?_
  | refine rd_gsub ?_
  | refine rd_rev ?_
  | refine rd_gnil ?_
  | refine rd_gcons ?_
  | refine rd_yes ?_
  | refine rd_abs ?_
  | refine rd_max2 ?_
  | refine rd_min2 ?_
  | refine rd_int1 ?_
  | refine rd_int1b ?_
  | refine rd_inSign ?_
  | refine rd_niSign ?_
  | refine rd_isN ?_
  | refine rd_ntN ?_
  | refine rd_dcLst ?_
  | refine rd_dcTup ?_
  | refine rd_dcItems ?_
  | refine rd_lcTup ?_
  | refine rd_lcLst ?_
  | refine rd_lcStr ?_
  | refine rd_lcR1 ?_
  | refine rd_lcR2 ?_
  | refine rd_lcKeys ?_
  | refine rd_lcVals ?_
  | refine rd_lcItems ?_
  | refine rd_lcZip ?_
  | refine rd_forTup ?_
  | refine rd_forLst ?_
  | refine rd_forR1 ?_
  | refine rd_forR2 ?_
  | refine rd_forR3 ?_
  | refine rd_forZip ?_
  | refine rd_forItems ?_
  | refine rd_lcEnumT ?_
  | refine rd_forEnumT ?_
  | refine rd_oneStr ?_
  | refine rd_mkR ?_
  | refine rd_mk0 ?_
  | refine rd_mR ?_
  | refine rd_mN ?_
  | refine rd_pr ?_
  | refine rd_cmR ?_
  | refine rd_makeC ?_
  | refine rd_tM1 ?_
  | refine rd_fmtT ?_
  | refine ⟨rd_exs, ?_⟩
  | refine rd_listZip ?_
  | refine rd_lenSetS ?_
  | refine rd_sfld ?_
  | refine rd_jc ?_
  | refine rd_jn ?_
  | refine rd_par ?_
  | refine rd_par3 ?_
  | refine rd_dupd ?_
  | refine rd_disp ?_
  | refine rd_pc ?_
  | refine rd_pn ?_
  | refine rd_dni ?_
  | refine rd_dget ?_
  | refine rd_dget2 ?_
  | refine rd_dput ?_
  | refine rd_T ?_
  | refine rd_F ?_
  | refine rd_nT ?_
  | refine rd_nF ?_))
theorem List.drop_set_self {α : Type} {l : List α} {k : Nat} {v : α} (h : k < l.length) : (l.set k v).drop k = v :: l.drop (k + 1) := by
  rw [List.drop_set, if_neg (Nat.lt_irrefl k), Nat.sub_self, List.drop_eq_getElem_cons h, List.set_cons_zero]
section
variable {P : Program} {w : World} {K : PySem.W.Frag} {mg : Str → Option Value} {base : Heap} {C : Ad}
def sp_children_of (K : PySem.W.Frag) : Sp := fun vs H Q _ => ∃ (a : Addr) (t : Tm), vs = [.ref a] ∧ Tp K H (.ref a) (nodesD (nodes t)) ∧ size t ≤ 40 ∧
  ∀ p H' xs, Same H H' → H' p = some (.lst xs) → Tps K H' xs ((ch 0 t).map intsD) → Q (.ref p) H'
theorem ok_children_of (T : Tx K mg C) : Gf P w K mg base "children_of" 1 (sp_children_of K) := by
  refine T.d_children_of.ok sc_children_of (fun vs H Q E h => ?_) (fun f cdv A outer s H vs Q E hr h => ?_)
  · obtain ⟨a, t, rfl, _⟩ := h
    rfl
  obtain ⟨a, t, rfl, ha, hz, k⟩ := h
  obtain ⟨xs, ha1, ha2⟩ := ha.tupR
  have hlen : xs.length = size t := by rw [ha2.len, List.length_map, nodes_length]
  refine ⟨_, (pss_cons (ps_setLc (i := 1) (own := [("node", 5)]) rfl sc_children_of.nd rfl rfl (sw_true rfl rfl rfl (by decide +kernel)) (pi_tup (pv 0)) (blkOk_by (own := [("node", 5)]) (N := ["nodes", "found", "waiting", "at", "cut", "node"]) (sc := defScope s_children_of) (by decide +kernel)) (fun _ _ _ _ _ => (pg_name (i := 5) sc_children_of.nd rfl (Or.inl rfl))) (fun _ _ _ _ _ => pts_nil) (fun _ _ _ _ _ => (pe_tup pa_nil)))
    (pss_cons (ps_set (i := 2) sc_children_of.nd rfl (Or.inl rfl) (pe_lst pa_nil))
    (pss_cons (ps_for PassesOwn.never rfl (pi_range3 rfl T.f_range (pa_cons (pe_op op_sub (pe_callB c_lenS rfl T.f_len PySem.boot_len (pa_cons (pv 0) pa_nil)) pe_int) (pa_cons (pe_un un_neg pe_int) (pa_cons (pe_un un_neg pe_int) pa_nil)))) (pg_name (i := 3) sc_children_of.nd rfl (Or.inl rfl)) (pss_cons (ps_set (i := 4) sc_children_of.nd rfl (Or.inl rfl) (pe_op op_sub (pe_callB c_lenS rfl T.f_len PySem.boot_len (pa_cons (pv 2) pa_nil)) (pe_ix ix_tup (pe_ix ix_tup (pv 0) (pv 3) (fun _ _ => rfl)) pe_int (fun _ _ => rfl))))
      (pss_cons (ps_if (pt_cmpR op_lt (pv 4) pe_int (nomark _)) (pss_one (ps_ret pe_non)) pss_nil)
      (pss_cons (ps_asg (pe_callTy c_tupS rfl T.f_tuple (by decide +kernel) (pa_cons (pe_revL (pe_slice sl_list (pv 2) (po_some (pv 4)) po_none)) pa_nil)) (pg_sub (pv 1) (pv 3) set_list))
      (pss_one (ps_set (i := 2) sc_children_of.nd rfl (Or.inl rfl) (pe_lst (StX.pa_star (pe_slice sl_list (pv 2) po_none (po_some (pv 4))) (pa_cons (pv 3) pa_nil)))))))))
    (pss_one (ps_ret (pe_ifExp (pt_cmpR (op_eqD hr.units) (pv 2) (pe_lst (pa_cons pe_int pa_nil)) (nomark _)) (pv 1) pe_non)))))), ?_⟩
  dsimp only [nox_K]
  refine rd_st (σ' := [some (.ref a), none, none, none, none, none]) rfl ?_
  walk_at "w"
  -- found
  refine rd_oneTup ha1 (fun fa hfa => lc_same walk_tup (fun i acc H' => acc.length = i ∧ ∀ x ∈ acc, ∃ p, x = V.ref p ∧ SqT K H' p []) (by omega) hfa (fun i acc H' H'' r kp => ⟨r.1, fun x hx => ?_⟩) ⟨rfl, fun x hx => by cases hx⟩ (fun H' s => sqT_kp (kp_same s) ha1) ?_ ?_)
  · obtain ⟨p, e, q⟩ := r.2 x hx
    exact ⟨p, e, sqT_kp kp q⟩
  · rintro i acc x H1 H2 hi hl s1 hD ⟨hr1, hr2⟩ ⟨rfl, hx⟩
    walk_at "w"
    refine ⟨rfl, ?_⟩
    walk_at "w"
    refine ⟨small (by simp), fun p hp => ?_⟩
    refine lc_elt (R := fun i acc H' => acc.length = i ∧ ∀ x ∈ acc, ∃ p, x = V.ref p ∧ SqT K H' p []) (by omega) hl hD hfa s1 (same_new hp _) (fun i acc H' H'' r kp => ⟨r.1, fun x hx => ?_⟩) ⟨by rw [List.length_append, hr1]; rfl, fun x hx => ?_⟩
    · obtain ⟨p, e, q⟩ := r.2 x hx
      exact ⟨p, e, sqT_kp kp q⟩
    · rcases List.mem_append.mp hx with hx | hx
      · obtain ⟨q, e, z⟩ := hr2 x hx
        exact ⟨q, e, sqT_kp (kp_new hp) z⟩
      · rw [List.mem_singleton] at hx
        exact ⟨p, hx, sqT_of upd_same⟩
  rintro acc H1 s1 hD hl ⟨hr1, hr2⟩
  walk_at "w"
  refine ⟨small (by simp), fun wa hwa => ?_⟩
  walk_at "w"
  have sw := same_new hwa (.lst [])
  refine rd_len (.inr (sqT_kp (kp_same (s1.trans sw)) ha1)) ?_
  walk_at "w"
  have hn : 1 ≤ size t := size_pos t
  refine ⟨_, _, _, _, rfl, RgC.neg (by omega) (by omega) (by omega) (by omega), ?_⟩
  have en : (((xs.length : Nat) : Int) - 1 - -1).toNat = size t := by omega
  rw [en]
  have hwf : wa ≠ fa := (ne_of_none hD hwa).symm
  refine fo_it walk_rangeC (fun i σ H2 => ∃ wa ys av cv, σ = [some (.ref a), some (.ref fa), some (.ref wa), av, cv, none] ∧ i ≤ size t ∧ Same H H2 ∧ H2 fa = some (.lst ys) ∧ ys.length = size t ∧
    Tps K H2 (ys.drop (size t - i)) ((chL (size t - i) (sf (size t - i) [t])).map intsD) ∧ H2 wa = some (.lst ((pl (size t - i) (sf (size t - i) [t])).reverse.map vI)) ∧ wa ≠ fa) ?_ (fun _ _ _ _ _ => trivial) ?_ ?_
  · refine ⟨wa, acc, none, none, rfl, Nat.zero_le _, s1.trans sw, sw _ _ hD, by omega, ?_, ?_, hwf⟩
    · rw [List.drop_eq_nil_of_le (by omega), Nat.sub_zero]
      have e : sf (size t) [t] = [] := by
        have := sf_app [t] []
        rwa [sizes_one, List.append_nil] at this
      rw [e, chL]; exact .nil
    · have e : sf (size t) [t] = [] := by
        have := sf_app [t] []
        rwa [sizes_one, List.append_nil] at this
      rw [Nat.sub_zero, e, pl, upd_same]; rfl
  · rintro i x σ H2 H2' hi ⟨wa, ys, av, cv, rfl, hi2, s2, hf, hyl, hT, hW, hne⟩ ⟨rfl, rfl⟩
    obtain ⟨k0, ek⟩ : ∃ k0 : Nat, size t - i = k0 + 1 := ⟨size t - i - 1, by omega⟩
    obtain ⟨wd, ts, G, es⟩ := sf_at (F := [t]) (k := k0) (by rw [sizes_one]; omega)
    have es1 : sf (k0 + 1) [t] = ts ++ G := by rw [sf_add, es]; rfl
    rw [ek, es1] at hT hW
    have eat : ((xs.length : Nat) : Int) - 1 + (i : Nat) * -1 = (k0 : Int) := by omega
    dsimp only
    rw [eat]
    have nk : (nodes t)[k0]? = some (wd, ts.length) := by rw [← nodes_one]; exact nodesL_get es
    walk_at "w"
    refine rd_len (.inl (SqL.of hW)) ?_
    walk_at "w"
    have hsx := sqT_kp (kp_same s2) ha1
    obtain ⟨nv, hnv, hnd⟩ := (ha2.kp (kp_same s2)).get (i := k0) (by rw [List.getElem?_map, nk]; rfl)
    obtain ⟨na, rfl, hna⟩ := tp_ndE hnd
    refine rd_ixT hsx (atI_nat hnv) ?_
    walk_at "w"
    refine rd_ixT hna (v := vI ts.length) rfl ?_
    walk_at "w"
    have el : (((pl (k0 + 1) (ts ++ G)).reverse.map vI).length : Int) - ((wd, ts.length).2 : Int) = (G.length : Int) := by
      rw [List.length_map, List.length_reverse, pl_length, List.length_append]; omega
    rw [el]
    walk_at "w"
    refine rd_dF (by omega) ?_
    walk_at "w"
    -- waiting[cut:][::-1]
    refine rd_slL (SqL.of hW) fun p1 hp1 => ?_
    refine ⟨p1, _, rfl, SqL.of upd_same, fun p2 hp2 => ?_⟩
    walk_at "w"
    refine rd_tupS (SqL.of upd_same) fun p3 hp3 => ?_
    walk_at "w"
    have e0 : (pl (k0 + 1) (ts ++ G)).reverse.map vI = (pl (k0 + 1 + sizes ts) G).reverse.map vI ++ (pl (k0 + 1) ts).reverse.map vI := by
      rw [pl_app, List.reverse_append, List.map_append]
    have e9 : (G.length : Int) = (((pl (k0 + 1 + sizes ts) G).reverse.map vI).length : Int) := by
      rw [List.length_map, List.length_reverse, pl_length]
    have e1 : cutV ((pl (k0 + 1) (ts ++ G)).reverse.map vI) (some (G.length : Int)) none = (pl (k0 + 1) ts).reverse.map vI := by
      rw [e0, e9, cut_from]
    have e2 : cutV ((pl (k0 + 1) (ts ++ G)).reverse.map vI) none (some (G.length : Int)) = (pl (k0 + 1 + sizes ts) G).reverse.map vI := by
      rw [e0, e9, cut_to]
    have g1 := same_new hp1 (.lst (cutV ((pl (k0 + 1) (ts ++ G)).reverse.map vI) (some (G.length : Int)) none))
    have g2 := same_new hp2 (.lst (cutV ((pl (k0 + 1) (ts ++ G)).reverse.map vI) (some (G.length : Int)) none).reverse)
    have g3 := same_new hp3 (.tup (cutV ((pl (k0 + 1) (ts ++ G)).reverse.map vI) (some (G.length : Int)) none).reverse)
    have g := (g1.trans g2).trans g3
    have hfa3 := g _ _ hf
    refine rd_setL hfa3 (ixN_nat (by omega)) ?_
    walk_at "w"
    have hW4 := g _ _ hW
    refine rd_slL (SqL.of (by rw [upd_ne hne]; exact hW4)) fun p5 hp5 => ?_
    refine ⟨p5, _, rfl, .inr (SqL.of upd_same), ?_⟩
    walk_at "w"
    refine ⟨?_, fun wb hwb => ?_⟩
    · rw [e2, List.length_append, List.length_map, List.length_reverse, pl_length]
      have q := sizes_len (ts ++ G)
      have q1 := sf_sizes (k0 + 1) [t] (by rw [sizes_one]; omega)
      rw [es1, sizes_one] at q1
      rw [List.length_append] at q
      exact small (by simp; omega)
    · rw [e1] at hfa3 g g3 hp3 hwb hp5 ⊢
      have ek2 : size t - (i + 1) = k0 := by omega
      rw [ek2, es]
      have hf5 : wb ≠ fa := (ne_of_none (upd_same) (Same.free (same_new hp5 _) hwb)).symm
      refine ⟨wb, ys.set k0 (.ref p3), some (.int k0), some (.int G.length), rfl, by omega, ?_, ?_, by rw [List.length_set]; exact hyl, ?_, ?_, hf5⟩
      · exact ((same_mut (s2.trans g) hfa).trans (same_new hp5 _)).trans (same_new hwb _)
      · exact same_new hwb _ _ _ (same_new hp5 _ _ _ upd_same)
      · rw [chL_cons, List.map_cons, List.drop_set_self (by omega)]
        refine .cons (tp_ints (sqT_kp (((kp_lst hfa3).trans (kp_new hp5)).trans (kp_new hwb)) (sqT_of ?_))) ((hT.kp (kp_same g)).kp (((kp_lst hfa3).trans (kp_new hp5)).trans (kp_new hwb)))
        rw [upd_same, List.map_reverse, List.reverse_reverse]
      · rw [upd_same, pl, size, List.reverse_cons, List.map_append, e2, show k0 + (sizes ts + 1) = k0 + 1 + sizes ts by omega]
        rfl
  · rintro σ H2 ⟨wa, ys, av, cv, rfl, hi2, s2, hf, hyl, hT, hW, hne⟩
    walk_at "w"
    rw [Nat.sub_self] at hT hW
    refine ⟨small (by simp), fun p hp => ?_⟩
    have g := same_new hp (.lst [.int 0])
    refine ⟨.list [.int 0], .list [.int 0], ?_, ?_, by decide +kernel, by decide +kernel, ?_⟩
    · exact .lst (SqL.of (g _ _ hW)) (by exact .cons (.int _) .nil)
    · exact .lst (SqL.of upd_same) (.cons (.int _) .nil)
    · rw [show PyData.eqv (.list [.int 0]) (.list [.int 0]) = true by decide +kernel]
      walk_at "w"
      refine k fa _ ys (s2.trans g) (g _ _ hf) ?_
      rw [← ch_one]
      exact hT.kp (kp_same g)
end
end FN
set_option maxHeartbeats 4000000
namespace FN
open PySem PySem.Spec PyProof.Rows L2
local macro_rules | `(tactic| walk_at "w") => `(tactic| repeat (with_reducible first
  | refine rd_seq ?_
  | refine rd_asg ?_
  | refine rd_name ?_
  | refine rd_ret ?_
  | refine rd_drop ?_
  | refine rd_if ?_
  | refine rd_next ?_
  | refine rd_var (by k_dflt rfl) ?_
  | refine rd_c ?_
  | refine rd_op ?_
  | refine rd_un ?_
  | refine rd_test ?_
  | refine rd_B ?_
  | refine rd_I0 ?_
  | refine rd_U ?_
  | refine rd_eqI ?_
  | refine rd_neI ?_
  | refine rd_eqS ?_
  | refine rd_neS ?_
  | refine rd_and ?_
  | refine rd_or ?_
  | refine rd_not ?_
  | refine rd_andV ?_
  | refine rd_orV ?_
  | refine rd_notV ?_
  | refine rd_ife ?_
  | refine rd_chain ?_
  | refine rd_exb ?_
  | refine rd_exi ?_
  | refine rd_nil ?_
  | refine rd_cons ?_
  | refine rd_CB ?_
  | refine rd_G ?_
  | refine rd_fld ?_
  | refine rd_sl ?_
  | refine rd_part ?_
  | refine rd_noPart ?_
  | refine rd_leaf ?_
  | refine rd_tup ?_
  | refine rd_lst ?_
  | refine rd_star ?_
  | refine rd_bm ?_
  | refine rd_bm0 ?_
  | refine rd_gsub ?_
  | refine rd_rev ?_
  | refine rd_gnil ?_
  | refine rd_gcons ?_
  | refine rd_yes ?_
  | refine rd_abs ?_
  | refine rd_max2 ?_
  | refine rd_min2 ?_
  | refine rd_int1 ?_
  | refine rd_int1b ?_
  | refine rd_inSign ?_
  | refine rd_niSign ?_
  | refine rd_isN ?_
  | refine rd_ntN ?_
  | refine rd_dcLst ?_
  | refine rd_dcTup ?_
  | refine rd_dcItems ?_
  | refine rd_lcTup ?_
  | refine rd_lcLst ?_
  | refine rd_lcStr ?_
  | refine rd_lcR1 ?_
  | refine rd_lcR2 ?_
  | refine rd_lcKeys ?_
  | refine rd_lcVals ?_
  | refine rd_lcItems ?_
  | refine rd_lcZip ?_
  | refine rd_forTup ?_
  | refine rd_forLst ?_
  | refine rd_forR1 ?_
  | refine rd_forR2 ?_
  | refine rd_forR3 ?_
  | refine rd_forZip ?_
  | refine rd_forItems ?_
  | refine rd_lcEnumT ?_
  | refine rd_forEnumT ?_
  | refine rd_oneStr ?_
  | refine rd_mkR ?_
  | refine rd_mk0 ?_
  | refine rd_mR ?_
  | refine rd_mN ?_
  | refine rd_pr ?_
  | refine rd_cmR ?_
  | refine rd_makeC ?_
  | refine rd_tM1 ?_
  | refine rd_fmtT ?_
  | refine ⟨rd_exs, ?_⟩
  | refine rd_listZip ?_
  | refine rd_lenSetS ?_
  | refine rd_sfld ?_
  | refine rd_jc ?_
  | refine rd_jn ?_
  | refine rd_par ?_
  | refine rd_par3 ?_
  | refine rd_dupd ?_
  | refine rd_disp ?_
  | refine rd_pc ?_
  | refine rd_pn ?_
  | refine rd_dni ?_
  | refine rd_dget ?_
  | refine rd_dget2 ?_
  | refine rd_dput ?_
  | refine rd_T ?_
  | refine rd_F ?_
  | refine rd_nT ?_
  | refine rd_nF ?_))
/-! ### 0 in d.values(), found at once -/
section
theorem dvals_nocontains : typeLookup (.type "dict_values") "__contains__" = pure none := am_miss_of_fast (by first | decide +kernel | rfl)
theorem entry_contains_iter : entryFor table "proto.contains_iter" = some Builtin.«proto.contains_iter» := entryFor_of_tree (by kernel_rfl)
def tInVals (ta td : TE) : TE := fun σ H Q => ta σ H fun x H1 => td σ H1 fun y H2 => ∃ (d : Addr) (o : Obj) (i : Int) (k : Key) (rest : List (Key × V)), x = .int i ∧ y = .ref d ∧ H2 d = some (.frz o (.dK ((k, .int i) :: rest))) ∧ Q (.bl true) H2
theorem rd_inVals {ta td : TE} {σ : L2.St} {H : Hp} {Q : VK} (h : ta σ H fun x H1 => td σ H1 fun y H2 => ∃ (d : Addr) (o : Obj) (i : Int) (k : Key) (rest : List (Key × V)), x = .int i ∧ y = .ref d ∧ H2 d = some (.frz o (.dK ((k, .int i) :: rest))) ∧ Q (.bl true) H2) : tInVals ta td σ H Q := h

theorem pe_inVals {X : Cx} {a e : Expr} {ta td : TE} {pos apos cpos : Pos} (ha : PE X a ta) (he : PE X e td) (hbase : attributeBase e "values" X.env (eval e X.env) = eval e X.env := by rfl) (hline : (apos.endLine == cpos.line) = true := by rfl)
    (hm : behindInMarks .In (.Call (.Attribute e "values" apos) [] [] cpos) = false := by rfl) : PE X (.Compare a [.In] [.Call (.Attribute e "values" apos) [] [] cpos] pos) (tInVals ta td) := by
  refine ⟨fun pins s σ H Q I h => ?_⟩
  refine wpAny_Compare1 (thn (ha.run pins s σ H _ I h) fun v s0 ⟨x, H0, I0, rx, q0⟩ => ?_) hm
  refine wpAny_Call_method (T := "dict") (id := "dict.values") hbase rfl hline F.plainAttrs_dict F.slot_dict_values F.type_dict_values (thn (he.run pins s0 σ H0 _ I0 q0) fun u s1 ⟨y, H1, I1, ry, d, o, i, k, rst, ex, ey, hd, q⟩ => ?_)
  subst ex; subst ey
  obtain ⟨t, rfl⟩ := rx
  obtain rfl : u = Value.ref d := ry
  obtain ⟨hs, hgd, hx, es, ep, vs, hdt, hsz, kv, hm⟩ := I1.frzK hd
  obtain ⟨k', v0, vs', rfl, ek, rv⟩ : ∃ k' v0 vs', vs = (k', v0) :: vs' ∧ k = k' ∧ RelV (.int i) v0 := by
    cases kv with
    | cons r t => exact ⟨_, _, _, rfl, r.1, r.2⟩
  obtain ⟨t0, rfl⟩ := rv
  refine ⟨hm.dictOf.typeIs, hm.dictOf.mapOf.noDict, ?_⟩
  have I2 : Inv X pins σ H1 { s1 with heap := s1.heap.push { cls := .type "dict_values", data := .fields #[.ref d] } } := I1.kept (t' := s1.toks) fun b ob q => Heap.get?_push_of_some _ q
  have hv : ({ s1 with heap := s1.heap.push { cls := .type "dict_values", data := .fields #[.ref d] } } : Shared).heap.IsValuesView s1.heap.objs.size d := ⟨_, Heap.get?_push_size _ rfl, rfl, rfl⟩
  have hm2 := hm.push { cls := .type "dict_values", data := .fields #[.ref d] }
  have fin : wpAny (model X.prog X.w) X.A (compareOp .In (.int i t) (.ref s1.heap.objs.size)) (EP X pins σ Q) X.xe { s1 with heap := s1.heap.push { cls := .type "dict_values", data := .fields #[.ref d] } } := by
    unfold compareOp
    refine wpAny_bind ?_
    unfold PySem.contains
    refine wpAny_holding ?_
    show wpAny _ _ (specialOf (.ref s1.heap.objs.size) "__contains__" >>= _) _ _ _
    refine wpAny_bind (wpAny_specialOf hv.typeIs dvals_nocontains ?_)
    refine wpAny_bind (wpAny_callSpecialUnlessNone?_none hv.typeIs dvals_nocontains ?_)
    dsimp only
    refine wpAny_bind (wpAny_rule (wpAny_bind (wpAny_tryCatch ?_)))
    refine wpAny_pyIter_values (d := d) (knd := mixKind X.prog X.w) hv hm2 ?_
    have I3 : Inv X pins σ H1 { s1 with heap := ({ s1 with heap := s1.heap.push { cls := .type "dict_values", data := .fields #[.ref d] } } : Shared).heap.push { cls := .type "dict_valueiterator", data := .fields #[.ref d, .int 0 0, .int ((k', Value.int i t0) :: vs').length 0, .int ep 0] } } := I2.kept (t' := s1.toks) fun b ob q => Heap.get?_push_of_some _ q
    refine wpAny_bind (PyProof.Rows.runValue_entry entry_contains_iter ?_)
    unfold Builtin.«proto.contains_iter»
    refine wpAny_bind ?_
    have hv3 : (({ s1 with heap := s1.heap.push { cls := .type "dict_values", data := .fields #[.ref d] } } : Shared).heap.push { cls := .type "dict_valueiterator", data := .fields #[.ref d, .int 0 0, .int ((k', Value.int i t0) :: vs').length 0, .int ep 0] }).IsValIter (s1.heap.push { cls := .type "dict_values", data := .fields #[.ref d] }).objs.size d 0 ((k', Value.int i t0) :: vs').length ep := ⟨_, Heap.get?_push_size _ rfl, rfl, rfl⟩
    have hm3 := hm2.push { cls := .type "dict_valueiterator", data := .fields #[.ref d, .int 0 0, .int ((k', Value.int i t0) :: vs').length 0, .int ep 0] }
    obtain ⟨f0, f1, f2, f3, f4, f5⟩ := I2.fpOk (b := (s1.heap.push { cls := .type "dict_values", data := .fields #[.ref d] }).objs.size) (Nat.le_refl _) (I2.hok.fresh (Nat.le_refl _))
    refine wpAny_pyNext_values_item hv3 hm3 (i := 0) rfl fun h' hit' sb => ?_
    have I4 : Inv X pins σ H1 { s1 with heap := h' } := I3.turned (t' := s1.toks) (fun b o hb e => (sb.2 b hb).trans e) f0 f1 f3 f4 f5
    dsimp only
    refine wpAny_bind (wpAny_eqBool_int ?_)
    rw [beq_self_eq_true]
    refine wpAny_bind (wpAny_rule (wpAny_pure ⟨.bool true, rfl, ?_⟩))
    dsimp only
    exact wpAny_pure (wpAny_pure ⟨.bl true, H1, I4, rfl, q⟩)
  show wpAny _ _ (callWith cpos (.builtin "dict.values") [.ref d] [] []) _ X.xe s1
  exact method_meetsIn F.slot_dict_values F.entry_dict_values rfl (PySem.evalArgs_none ⟨rfl, hm.dictOf.typeIs, F.args_dict_values_1 _, _, meets_dict_values (mixKind X.prog X.w) d hs, ⟨_, hm.dictOf⟩, fin⟩)
end
end FN
set_option maxHeartbeats 4000000
namespace FN
open PySem PySem.Spec PyProof.Rows L2
local macro_rules | `(tactic| walk_at "w") => `(tactic| repeat (with_reducible first
  | refine rd_seq ?_
  | refine rd_asg ?_
  | refine rd_name ?_
  | refine rd_ret ?_
  | refine rd_drop ?_
  | refine rd_if ?_
  | refine rd_next ?_
  | refine rd_var (by k_dflt rfl) ?_
  | refine rd_c ?_
  | refine rd_op ?_
  | refine rd_un ?_
  | refine rd_test ?_
  | refine rd_B ?_
  | refine rd_I0 ?_
  | refine rd_U ?_
  | refine rd_eqI ?_
  | refine rd_neI ?_
  | refine rd_eqS ?_
  | refine rd_neS ?_
  | refine rd_and ?_
  | refine rd_or ?_
  | refine rd_not ?_
  | refine rd_andV ?_
  | refine rd_orV ?_
  | refine rd_notV ?_
  | refine rd_ife ?_
  | refine rd_chain ?_
  | refine rd_exb ?_
  | refine rd_exi ?_
  | refine rd_nil ?_
  | refine rd_cons ?_
  | refine rd_CB ?_
  | refine rd_G ?_
  | refine rd_fld ?_
  | refine rd_sl ?_
  | refine rd_part ?_
  | refine rd_noPart ?_
  | refine rd_leaf ?_
  | refine rd_tup ?_
  | refine rd_lst ?_
  | refine rd_star ?_
  | refine rd_bm ?_
  | refine rd_bm0 ?_
  | refine rd_gsub ?_
  | refine rd_rev ?_
  | refine rd_gnil ?_
  | refine rd_gcons ?_
  | refine rd_yes ?_
  | refine rd_abs ?_
  | refine rd_max2 ?_
  | refine rd_min2 ?_
  | refine rd_int1 ?_
  | refine rd_int1b ?_
  | refine rd_inSign ?_
  | refine rd_niSign ?_
  | refine rd_isN ?_
  | refine rd_ntN ?_
  | refine rd_dcLst ?_
  | refine rd_dcTup ?_
  | refine rd_dcItems ?_
  | refine rd_lcTup ?_
  | refine rd_lcLst ?_
  | refine rd_lcStr ?_
  | refine rd_lcR1 ?_
  | refine rd_lcR2 ?_
  | refine rd_lcKeys ?_
  | refine rd_lcVals ?_
  | refine rd_lcItems ?_
  | refine rd_lcZip ?_
  | refine rd_forTup ?_
  | refine rd_forLst ?_
  | refine rd_forR1 ?_
  | refine rd_forR2 ?_
  | refine rd_forR3 ?_
  | refine rd_forZip ?_
  | refine rd_forItems ?_
  | refine rd_lcEnumT ?_
  | refine rd_forEnumT ?_
  | refine rd_oneStr ?_
  | refine rd_mkR ?_
  | refine rd_mk0 ?_
  | refine rd_mR ?_
  | refine rd_mN ?_
  | refine rd_pr ?_
  | refine rd_cmR ?_
  | refine rd_makeC ?_
  | refine rd_tM1 ?_
  | refine rd_fmtT ?_
  | refine ⟨rd_exs, ?_⟩
  | refine rd_listZip ?_
  | refine rd_lenSetS ?_
  | refine rd_sfld ?_
  | refine rd_jc ?_
  | refine rd_jn ?_
  | refine rd_par ?_
  | refine rd_par3 ?_
  | refine rd_dupd ?_
  | refine rd_disp ?_
  | refine rd_pc ?_
  | refine rd_pn ?_
  | refine rd_dni ?_
  | refine rd_dget ?_
  | refine rd_dget2 ?_
  | refine rd_dput ?_
  | refine rd_T ?_
  | refine rd_F ?_
  | refine rd_nT ?_
  | refine rd_nF ?_))
/-! ### defs of classes -/
/-- a def of the text, reached as R says -/
structure FD (K : PySem.W.Frag) (R : Addr → Prop) (x q : Str) (st : Stmt) (ps : List Str) : Prop where
  ex : ∃ f fd dvs, FunD K x q (defArgs st) (defBody st) (defScope st) dvs [] f fd ∧ R f ∧ Binds K fd ps []
/-- .. that keeps a promise -/
structure Ro (P : Program) (w : World) (K : PySem.W.Frag) (mg : Str → Option Value) (base : Heap) (R : Addr → Prop) (k : Nat) (sp : Sp) : Prop where
  ex : ∃ f fd ps, FnOk P w K mg base CX0 k f fd ps sp ∧ Binds K fd ps [] ∧ R f
structure Rf (P : Program) (w : World) (K : PySem.W.Frag) (mg : Str → Option Value) (base : Heap) (R : Addr → Prop) (k : Nat) (sp : Sp) : Prop where
  ex : ∃ f, FnR P w K mg base CX0 k f sp ∧ R f
section
variable {P : Program} {w : World} {K : PySem.W.Frag} {mg : Str → Option Value} {base : Heap} {R : Addr → Prop} {j k : Nat} {sp : Sp}
theorem Ro.rf (G : Ro P w K mg base R k sp) : Rf P w K mg base R k sp := by
  obtain ⟨f, fd, ps, F, hb, r⟩ := G
  exact ⟨f, (F.raw hb .nil).imp fun vs H Q E h => by rw [List.append_nil]; exact h, r⟩
theorem Rf.mono (G : Rf P w K mg base R j sp) (h : j ≤ k) : Rf P w K mg base R k sp := by
  obtain ⟨f, F, r⟩ := G
  exact ⟨f, F.mono h, r⟩
theorem Ro.mono (G : Ro P w K mg base R j sp) (h : j ≤ k) : Ro P w K mg base R k sp := by
  obtain ⟨f, fd, ps, F, b, r⟩ := G
  exact ⟨f, fd, ps, F.mono h, b, r⟩
theorem FD.ok {x q : Str} {st : Stmt} {N ps : List Str} (D : FD K R x q st ps) (S : FnScope N ps (defScope st)) (len : ∀ vs H Q E, sp vs H Q E → vs.length = ps.length)
    (hbody : ∀ (f : Addr) (cdv : Value) (A : Around) (outer : List Env) (s : Shared) (H : Hp) (vs : List V) (Q : VK) (E : XK), Room k (A.deeper (envOfC q (defScope st) s.heap.objs.size f cdv)) → sp vs H Q E →
      ∃ t, PSs (cxOf CX0 P w K mg base N q (defScope st) f cdv A outer s H E).nox (defBody st) t ∧ t { nx := fun _ H' => Q .non H', rt := Q } (start N vs) H) : Ro P w K mg base R (k + 1) sp := by
  obtain ⟨f, fd, dvs, F, r, hb⟩ := D
  refine ⟨f, fd, ps, F.ok S len fun cdv A outer s H vs Q E hr h => ?_, hb, r⟩
  obtain ⟨t, ht, q⟩ := hbody f cdv A outer s H vs Q E hr h
  exact ⟨t, PSs.nox ht, q⟩
end
/-- what makes classes, how -/
structure CmC (K : PySem.W.Frag) (C : Addr) (m : Str) (g : Addr) : Prop where
  ex : ∃ mc p, ClX.CRead K C mc ∧ ClX.CMet K C mc m p g
structure PrC (K : PySem.W.Frag) (C : Addr) (f : Str) (g : Addr) : Prop where
  ex : ∃ p, PropOf K C f p g
section
variable {X : Cx} {k : Nat} {C : Addr} {m : Str} {sp : Sp} {o e : Expr} {es : List Expr} {ta tf : TE} {t : TA} {apos p pos : Pos} {pl : Sem Bool} {x : Str} {fe : Expr}
/-- o.m(..) -/
theorem pe_m (G : Rf X.prog X.w X.K X.mg X.base (Meth X.K C m) k sp) (c : Cls X.K C) (he : PE X o ta) (hr : Room k X.A) (ha : PA X (e :: es) t)
    (hst : starEach (e :: es) X.env = (false, eval e X.env) :: starEach es X.env := by rfl) (hpl : (backTo pos (starEach es X.env)).any (·.1) = false := by rfl)
    (ht : eval (.Call (.Attribute o m apos) (e :: es) [] pos) X.env = (do
      let ov ← eval o X.env
      standAt apos.atName
      let (f, first) ← holding [ov] (getMethod ov m pl)
      callWith pos f first (backTo pos (starEach (e :: es) X.env)) (backToKw pos (keywordEach [] X.env))) := by rfl) :
    PE X (.Call (.Attribute o m apos) (e :: es) [] pos) (tMethR C m sp E0 ta t) := by
  obtain ⟨f, F, hm⟩ := G
  exact pe_methR he c hm F hr pass0 ha hst hpl ht
/-- o.m() -/
theorem pe_m0 (G : Ro X.prog X.w X.K X.mg X.base (Meth X.K C m) k sp) (c : Cls X.K C) (he : PE X o ta) (hr : Room k X.A)
    (ht : eval (.Call (.Attribute o m apos) [] [] pos) X.env = (do
      let ov ← eval o X.env
      standAt apos.atName
      let (f, first) ← holding [ov] (getMethod ov m pl)
      callWith pos f first (backTo pos (starEach [] X.env)) (backToKw pos (keywordEach [] X.env))) := by rfl) :
    PE X (.Call (.Attribute o m apos) [] [] pos) (tMeth C m sp [] E0 ta tNil) := by
  obtain ⟨f, fd, ps, F, hb, hm⟩ := G
  exact pe_meth0 he c hm F hr hb .nil pass0 ht
/-- o.f, a property -/
theorem pe_p (G : Ro X.prog X.w X.K X.mg X.base (PrC X.K C m) k sp) (c : Cls X.K C) (he : PE X o ta) (hr : Room (k + 1) X.A) (hab : attributeBase o m X.env (eval o X.env) = eval o X.env := by rfl) : PE X (.Attribute o m pos) (tProp C sp [] E0 ta) := by
  obtain ⟨f, fd, ps, F, hb, p, hp⟩ := G
  exact pe_prop he c hp F hr hb .nil pass0 hab
/-- C.m(..), a classmethod -/
theorem pe_cm (G : Rf X.prog X.w X.K X.mg X.base (CmC X.K C m) k sp) (he : PE X o ta) (hr : Room k X.A) (ha : PA X (e :: es) t)
    (hst : starEach (e :: es) X.env = (false, eval e X.env) :: starEach es X.env := by rfl) (hpl : (backTo pos (starEach es X.env)).any (·.1) = false := by rfl)
    (ht : eval (.Call (.Attribute o m apos) (e :: es) [] pos) X.env = (do
      let ov ← eval o X.env
      standAt apos.atName
      let (f, first) ← holding [ov] (getMethod ov m pl)
      callWith pos f first (backTo pos (starEach (e :: es) X.env)) (backToKw pos (keywordEach [] X.env))) := by rfl) :
    PE X (.Call (.Attribute o m apos) (e :: es) [] pos) (ClX.tCMeth C sp E0 ta t) := by
  obtain ⟨f, F, mc, p, r, c⟩ := G
  exact ClX.pe_cmeth he r c F hr pass0 ha hst hpl ht
/-- C(..) -/
theorem pe_mk (G : Rf X.prog X.w X.K X.mg X.base (Mk X.K C) k sp) (hr : Room (k + 1) X.A) (hm : X.mg x = some (.ref C)) (ha : PA X (e :: es) t) (hg : Gl X x := by rfl) (hdb : (x == ("__debug__" : Str)) = false := by decide)
    (he : starEach (e :: es) X.env = (false, eval e X.env) :: starEach es X.env := by rfl) (hpl : (backTo pos (starEach es X.env)).any (·.1) = false := by rfl) : PE X (.Call (.Name x p) (e :: es) [] pos) (StX.tMakeR C sp E0 t) := by
  obtain ⟨f, F, M⟩ := G
  exact StX.pe_makeR M F hr hg hm pass0 ha hdb he hpl
/-- C() -/
theorem pe_mk0 (G : Ro X.prog X.w X.K X.mg X.base (Mk X.K C) k sp) (hr : Room (k + 1) X.A) (hm : X.mg x = some (.ref C)) (hg : Gl X x := by rfl) (hdb : (x == ("__debug__" : Str)) = false := by decide) : PE X (.Call (.Name x p) [] [] pos) (tMake C sp [] E0 tNil) := by
  obtain ⟨f, fd, ps, F, hb, M⟩ := G
  exact pe_make0 M F hr hg hm hb .nil pass0 hdb
/-- c(..), c the class C -/
def tMakeC (C : Addr) (sp : Sp) (tf : TE) (t : TA) : TE := fun σ H Q => tf σ H fun y H0 => y = .ref C ∧ StX.tMakeR C sp E0 t σ H0 Q
theorem rd_makeC {σ : L2.St} {H : Hp} {Q : VK} (h : tf σ H fun y H0 => y = .ref C ∧ StX.tMakeR C sp E0 t σ H0 Q) : tMakeC C sp tf t σ H Q := h
theorem pe_mkC (G : Rf X.prog X.w X.K X.mg X.base (Mk X.K C) k sp) (hf : PE X fe tf) (hr : Room (k + 1) X.A) (ha : PA X (e :: es) t)
    (ht : eval (.Call fe (e :: es) [] pos) X.env = (do callWith pos (← eval fe X.env) [] (backTo pos (starEach (e :: es) X.env)) (backToKw pos (keywordEach [] X.env))) := by rfl)
    (he : starEach (e :: es) X.env = (false, eval e X.env) :: starEach es X.env := by rfl) (hpl : (backTo pos (starEach es X.env)).any (·.1) = false := by rfl) : PE X (.Call fe (e :: es) [] pos) (tMakeC C sp tf t) := by
  obtain ⟨f, F, M⟩ := G
  refine ⟨fun pins s σ H Q I h => ?_⟩
  refine Call_ (thn (hf.run pins s σ H _ I h) fun u s1 ⟨y, H1, I1, ry, ey, q⟩ => ?_) ht
  subst ey
  obtain rfl : u = Value.ref C := ry
  refine PySem.W.callWith_K (h₀ := X.base) I1.ok.mod.kin M.kp (thn (ha.run pos pins s1 σ H1 _ I1 q) fun us s2 ⟨vs, H2, I2, r, q2⟩ => ⟨I2.kIn, ?_⟩) he hpl
  exact StX.run_makeR M F hr pass0 I2 r q2
end

/-- a def with a star parameter, reached as R says -/
structure FS (K : PySem.W.Frag) (R : Addr → Prop) (x q : Str) (st : Stmt) (ps : List Str) (pv : Str) : Prop where
  ex : ∃ f fd, FunD K x q (defArgs st) (defBody st) (defScope st) [] [] f fd ∧ R f ∧ ∀ us rest : List Value, us.length = ps.length → bindArgs fd ⟨us ++ rest, []⟩ = (newTuple rest >>= fun t => pure (ps.zip us ++ [(pv, t)]))
theorem cxUp0 : StX.CXUp CX0 := fun _ _ _ _ _ _ _ _ _ _ _ h => h
/-- its promise, from that of the body -/
def spStar (n : Nat) (sp : Sp) : Sp := fun vs H Q E => ∃ ws rest, vs = ws ++ rest ∧ ws.length = n ∧ rest.length ≤ sizeLine ∧ ∀ p, H p = none → sp (ws ++ [V.ref p]) (upd H p (.tup rest)) Q E
theorem FS.ok {P : Program} {w : World} {K : PySem.W.Frag} {mg : Str → Option Value} {base : Heap} {R : Addr → Prop} {k : Nat} {sp : Sp} {x q pv : Str} {st : Stmt} {N ps : List Str} (D : FS K R x q st ps pv) (S : FnScope N (ps ++ [pv]) (defScope st))
    (hbody : ∀ (f : Addr) (cdv : Value) (A : Around) (outer : List Env) (s : Shared) (H : Hp) (vs : List V) (Q : VK) (E : XK), Room k (A.deeper (envOfC q (defScope st) s.heap.objs.size f cdv)) → sp vs H Q E →
      ∃ t, PSs (cxOf CX0 P w K mg base N q (defScope st) f cdv A outer s H E).nox (defBody st) t ∧ t { nx := fun _ H' => Q .non H', rt := Q } (start N vs) H) : Rf P w K mg base R (k + 1) (spStar ps.length sp) := by
  obtain ⟨f, fd, F, r, hb⟩ := D
  obtain ⟨oc, od, dV, kV, doc, pm, an, cdv, ct, osl, rfl, lk, hcd, _, _⟩ := F.ex
  refine ⟨f, StX.fn_star lk hcd S cxUp0 hb fun A outer s H vs Q E hr h => ?_, r⟩
  obtain ⟨t, ht, q⟩ := hbody f cdv A outer s H vs Q E hr h
  exact ⟨t, PSs.nox ht, q⟩
end FN
set_option maxHeartbeats 4000000
namespace FN
open PySem PySem.Spec PyProof.Rows L2
local macro_rules | `(tactic| walk_at "w") => `(tactic| repeat (with_reducible first
  | refine rd_seq ?_
  | refine rd_asg ?_
  | refine rd_name ?_
  | refine rd_ret ?_
  | refine rd_drop ?_
  | refine rd_if ?_
  | refine rd_next ?_
  | refine rd_var (by k_dflt rfl) ?_
  | refine rd_c ?_
  | refine rd_op ?_
  | refine rd_un ?_
  | refine rd_test ?_
  | refine rd_B ?_
  | refine rd_I0 ?_
  | refine rd_U ?_
  | refine rd_eqI ?_
  | refine rd_neI ?_
  | refine rd_eqS ?_
  | refine rd_neS ?_
  | refine rd_and ?_
  | refine rd_or ?_
  | refine rd_not ?_
  | refine rd_andV ?_
  | refine rd_orV ?_
  | refine rd_notV ?_
  | refine rd_ife ?_
  | refine rd_chain ?_
  | refine rd_exb ?_
  | refine rd_exi ?_
  | refine rd_nil ?_
  | refine rd_cons ?_
  | refine rd_CB ?_
  | refine rd_G ?_
  | refine rd_fld ?_
  | refine rd_sl ?_
  | refine rd_part ?_
  | refine rd_noPart ?_
  | refine rd_leaf ?_
  | refine rd_tup ?_
  | refine rd_lst ?_
  | refine rd_star ?_
  | refine rd_bm ?_
  | refine rd_bm0 ?_
  | refine rd_gsub ?_
  | refine rd_rev ?_
  | refine rd_gnil ?_
  | refine rd_gcons ?_
  | refine rd_yes ?_
  | refine rd_abs ?_
  | refine rd_max2 ?_
  | refine rd_min2 ?_
  | refine rd_int1 ?_
  | refine rd_int1b ?_
  | refine rd_inSign ?_
  | refine rd_niSign ?_
  | refine rd_isN ?_
  | refine rd_ntN ?_
  | refine rd_dcLst ?_
  | refine rd_dcTup ?_
  | refine rd_dcItems ?_
  | refine rd_lcTup ?_
  | refine rd_lcLst ?_
  | refine rd_lcStr ?_
  | refine rd_lcR1 ?_
  | refine rd_lcR2 ?_
  | refine rd_lcKeys ?_
  | refine rd_lcVals ?_
  | refine rd_lcItems ?_
  | refine rd_lcZip ?_
  | refine rd_forTup ?_
  | refine rd_forLst ?_
  | refine rd_forR1 ?_
  | refine rd_forR2 ?_
  | refine rd_forR3 ?_
  | refine rd_forZip ?_
  | refine rd_forItems ?_
  | refine rd_lcEnumT ?_
  | refine rd_forEnumT ?_
  | refine rd_oneStr ?_
  | refine rd_mkR ?_
  | refine rd_mk0 ?_
  | refine rd_mR ?_
  | refine rd_mN ?_
  | refine rd_pr ?_
  | refine rd_cmR ?_
  | refine rd_makeC ?_
  | refine rd_tM1 ?_
  | refine rd_fmtT ?_
  | refine ⟨rd_exs, ?_⟩
  | refine rd_listZip ?_
  | refine rd_lenSetS ?_
  | refine rd_sfld ?_
  | refine rd_jc ?_
  | refine rd_jn ?_
  | refine rd_par ?_
  | refine rd_par3 ?_
  | refine rd_dupd ?_
  | refine rd_disp ?_
  | refine rd_pc ?_
  | refine rd_pn ?_
  | refine rd_dni ?_
  | refine rd_dget ?_
  | refine rd_dget2 ?_
  | refine rd_dput ?_
  | refine rd_T ?_
  | refine rd_F ?_
  | refine rd_nT ?_
  | refine rd_nF ?_))
/-! ### enumerate of a tuple -/
section
open AutoSeq1 (wpAny_loadPart')
theorem meets_enumerate_newT (l : Addr) (items : Array Value) (n : Nat) (dct : Option Addr) (sl : Array (Option Value)) :
    Meets (Builtin.«enumerate.__new__» ⟨[.type "enumerate", .ref l], []⟩) (fun _ R s => s.heap.get? l = some { cls := .type "tuple", dict := dct, data := .seq items n, slots := sl } ∧
      R (.ok (.ret (.ref (s.heap.push { cls := .type "tuple_iterator", data := .fields #[.ref l, .int 0 0] }).objs.size)))
        { s with heap := (s.heap.push { cls := .type "tuple_iterator", data := .fields #[.ref l, .int 0 0] }).push { cls := .type "enumerate", data := .fields #[.none, .bool false, .ref s.heap.objs.size, rawInt 0, .none, .none] } }) :=
  .of_wp fun prog w A R s h => by
    obtain ⟨hp, g, d, tk, os⟩ := s; obtain ⟨hl, h⟩ := h
    have hsub := sub_enumerate
    have hL : Heap.IsTuple (Shared.heap ⟨hp, g, d, tk, os⟩) l items := ⟨_, hl, rfl, n, rfl⟩
    wp_walk using wpAny_loadPart' hl
    refine wpAny_stack_any fun st => wpAny_pure ?_
    split
    · rename_i c _ _ _ _ _
      cases (c == Value.type "enumerate")
      · wp_walk using wpAny_loadPart' hl, wpAny_pyIter_tuple hL
        exact ⟨_, rfl, h⟩
      · wp_walk using wpAny_loadPart' hl, wpAny_pyIter_tuple hL
        exact ⟨_, rfl, h⟩
    · wp_walk using wpAny_loadPart' hl, wpAny_pyIter_tuple hL
      exact ⟨_, rfl, h⟩
variable {prog : Program} {w : World} {A : Around} {E : Value → Shared → Prop} {s : Shared}
theorem call_enumerate_tup {l : Addr} {items : Array Value} {Q : Value → Shared → Prop} (hL : s.heap.IsTuple l items)
    (h : ∀ h', IsEnum h' (s.heap.objs.size + 1) s.heap.objs.size 0 .none → h'.IsTupleIter s.heap.objs.size l 0 → h'.objs.size = s.heap.objs.size + 2 →
      (∀ b o, s.heap.get? b = some o → h'.get? b = some o) → Q (.ref (s.heap.objs.size + 1)) { s with heap := h' }) :
    wpAny (model prog w) A (call (.type "enumerate") [.ref l]) Q E s := by
  obtain ⟨⟨c, dct, dt, sl⟩, hl, hc, n, hd⟩ := hL
  replace hc : c = .type "tuple" := hc
  replace hd : dt = .seq items n := hd
  subst hc hd
  refine callType_new F.called_enumerate (by decide) (F.typeCall_enumerate_1 _) (F.newCall_enumerate_1 _) (fun obj => F.args_object_init_2 obj _) F.entry_enumerate_new
    (meets_enumerate_newT l items n dct sl) ⟨hl, ?_⟩
  have hz : (s.heap.push { cls := .type "tuple_iterator", data := .fields #[.ref l, .int 0 0] }).objs.size = s.heap.objs.size + 1 := Heap.size_push ..
  show _ ∧ _
  rw [hz]
  have he : IsEnum ((s.heap.push { cls := .type "tuple_iterator", data := .fields #[.ref l, .int 0 0] }).push
      { cls := .type "enumerate", data := .fields #[.none, .bool false, .ref s.heap.objs.size, rawInt 0, .none, .none] }) (s.heap.objs.size + 1) s.heap.objs.size 0 .none := by
    have := Heap.get?_push_size (s.heap.push { cls := .type "tuple_iterator", data := .fields #[.ref l, .int 0 0] })
      (o := { cls := .type "enumerate", data := .fields #[.none, .bool false, .ref s.heap.objs.size, rawInt 0, .none, .none] }) rfl
    rw [hz] at this; exact this
  refine ⟨⟨_, he, rfl⟩, h _ he ⟨_, Heap.get?_push_of_some _ (Heap.get?_push_size _ rfl), rfl, rfl⟩ (by rw [Heap.size_push, hz]) fun b o x => Heap.get?_push_of_some _ (Heap.get?_push_of_some _ x)⟩
end
/-- the tuple at a, each item in a new pair -/
def IteT (K : PySem.W.Frag) (a : Addr) : It :=
  ⟨fun i H => ∃ (xs : List V) (x : V), SqT K H a xs ∧ xs[i]? = some x, fun i H v H' => ∃ T x, v = .ref T ∧ H T = none ∧ H' = upd H T (.tup [.int (i : Nat), x]) ∧ ∀ xs, SqT K H a xs → xs[i]? = some x, fun i H => ∃ xs : List V, SqT K H a xs ∧ xs.length = i⟩
theorem turn_enumT {P : Program} {w : World} {K : PySem.W.Frag} {elts : List Expr} {kk : Nat} {tpos : Pos} (a e it : Addr) :
    Turn P w K (.Tuple elts kk tpos) (IteT K a) [e, it] e (fun i h => (∃ old, IsEnum h e it ((i : Nat) : Int) old) ∧ h.IsTupleIter it a i ∧ e ≠ it ∧ a ≠ it ∧ a ≠ e) where
  mem := by simp
  obj := fun i h st b hb => by
    obtain ⟨⟨old, he⟩, ⟨o, ho, hc, hd⟩, _⟩ := st
    have e' : b = e ∨ b = it := by simpa using hb
    rcases e' with z | z
    · rw [z]; exact ⟨_, he, fun v q => nomatch q⟩
    · rw [z]; exact ⟨o, ho, fun v q => by rw [hd] at q; cases q⟩
  keep := fun i h h' st k => let ⟨⟨old, he⟩, hi, hne⟩ := st; ⟨⟨old, k e (by simp) _ he⟩, hi.at fun o q => k it (by simp) o q, hne⟩
  item := by
    intro X hP hw hK hc i pins s σ H E I hf st hg
    subst hP hw hK
    obtain ⟨⟨old, he⟩, hit, hne, hai, hae⟩ := st
    obtain ⟨xs, x, hq, hx⟩ := hg
    obtain ⟨its, rv, p, hz⟩ := I.tuple hq
    obtain ⟨u, hu, ru⟩ := rv.get hx
    have hel : e < s.heap.objs.size := Heap.lt_size he
    have hil : it < s.heap.objs.size := by obtain ⟨_, q, _⟩ := hit; exact Heap.lt_size q
    have hlt : i < its.toArray.size := by
      have := List.getElem?_eq_some_iff.mp hu
      obtain ⟨z, _⟩ := this
      simpa using z
    refine wpAny_pyNext_enum_itemD (Draws.tuple (A := X.A.in1) (I.ok.hd hc) it a hai its.toArray) he ⟨hit, p⟩ hlt hne (by simp [hne, Ne.symm hae]) fun y h' tk hy ho hit' hT hsz hk => ?_
    have hyu : y = u := by
      have e1 : its.toArray[i]? = some u := by simpa using hu
      rw [e1] at hy; cases hy; rfl
    subst hyu
    refine ⟨_, rfl, wpAny_letOwnedTupleGo_enum (s := { s with heap := h', toks := tk + 1 }) ho fun h'' he' sb => ?_⟩
    have hT2 : h''.get? s.heap.objs.size = some { cls := .type "tuple", data := .seq #[.int i tk, y] } := (sb.2 _ (Nat.ne_of_gt hel)).trans hT
    have new : ObjOk X.prog X.w (upd H s.heap.objs.size (.tup [.int (i : Nat), x])) h'' s.heap.objs.size (.tup [.int (i : Nat), x]) :=
      ⟨by show 2 ≤ sizeLine; decide, [.int i tk, y], .cons ⟨_, rfl⟩ (.cons ru .nil), ⟨_, hT2, rfl, _, rfl⟩⟩
    have I1 : Inv X pins σ (upd H s.heap.objs.size (.tup [.int (i : Nat), x])) { s with heap := h'', toks := tk + 1 } :=
      I.turnedNew (ch := [e, it]) (fun b ob hb q => (sb.2 b (fun z => hb (by simp [z]))).trans (hk b ob (fun z => hb (by simp [z])) (fun z => hb (by simp [z])) q)) hf (Nat.le_refl _) new
    refine ⟨.ref s.heap.objs.size, _, I1, rfl, ⟨_, x, rfl, I.hok.fresh (Nat.le_refl _), rfl, fun ys hy => by rw [I.tuple_inj hy hq]; exact hx⟩, ⟨⟨y, ?_⟩, hit'.1.at fun o q => (sb.2 it (Ne.symm hne)).trans q, hne, hai, hae⟩, fun b hb => ?_⟩
    · have e1 : ((i + 1 : Nat) : Int) = (i : Int) + 1 := by omega
      rw [e1]; exact he'
    · have hb' : b < s.heap.objs.size := by
        have e' : b = e ∨ b = it := by simpa using hb
        rcases e' with z | z
        · rw [z]; exact hel
        · rw [z]; exact hil
      rw [upd_ne (Nat.ne_of_lt hb')]
      exact (hf b hb).1
  done := by
    intro X hP hw hK hc i pins s σ H E I hf st hg
    subst hP hw hK
    obtain ⟨⟨old, he⟩, hit, hne, hai, hae⟩ := st
    obtain ⟨xs, hq, hx⟩ := hg
    obtain ⟨its, rv, p, hz⟩ := I.tuple hq
    obtain ⟨f0, f1, f2, f3, f4, f5⟩ := hf it (by simp)
    have hl := rv.length
    have hn : i = its.toArray.size := by simp; omega
    subst hn
    exact wpAny_pyNext_enum_endD (Draws.tuple (A := X.A.in1) (I.ok.hd hc) it a hai its.toArray) he ⟨hit, p⟩ fun h' eb => ⟨rfl, I.turned (t' := s.toks) (fun b o hb q => eb b o hb q) f0 f1 f3 f4 f5⟩
  self := fun A i s Q E st h => let ⟨⟨_, he⟩, _⟩ := st; wpAny_pyIter_enum he h

def iEnumT (K : PySem.W.Frag) (ta : TA) : TI := fun σ H R => ta σ H fun vs H1 => ∃ a xs, vs = [.ref a] ∧ SqT K H1 a xs ∧ R (IteT K a) H1
theorem pi_enumT {X : Cx} {e : Expr} {ta : TA} {p pos tpos : Pos} {elts : List Expr} {kk : Nat} (hg : Gl X "enumerate") (hm : X.mg "enumerate" = none) (ha : PA X [e] ta) (hs : starEach [e] X.env = [(false, eval e X.env)] := by rfl) :
    PI X (.Tuple elts kk tpos) (.Call (.Name "enumerate" p) [e] [] pos) (iEnumT X.K ta) := by
  refine ⟨fun pins s σ H R I h => ?_⟩
  refine Call_ (ld_blt I hg hm boot_enumerate (PyProof.Rows.callWith_type1 (thn (ha.run pos pins s σ H _ I h) fun us s1 ⟨vs, H1, I1, r1, q1⟩ => ?_) hs rfl))
  obtain ⟨a, xs, ex, hq, q⟩ := q1
  subst ex
  cases r1 with
  | cons r rr =>
    cases rr
    cases r
    obtain ⟨its, rv, p', hz⟩ := I1.tuple hq
    have hal : a < s1.heap.objs.size := by obtain ⟨_, q, _⟩ := p'; exact Heap.lt_size q
    refine call_enumerate_tup p' fun h' he hit hsz hk => wpAny_pyIter_enum he ?_
    have I2 : Inv X pins σ H1 { s1 with heap := h' } := I1.kept (t' := s1.toks) hk
    refine ⟨s1.heap.objs.size + 1, [s1.heap.objs.size + 1, s1.heap.objs.size], _, _, H1, rfl, I2, turn_enumT a (s1.heap.objs.size + 1) s1.heap.objs.size, ⟨⟨.none, he⟩, hit, Nat.succ_ne_self _, Nat.ne_of_lt hal, Nat.ne_of_lt (Nat.lt_succ_of_lt hal)⟩, fun b hb => ?_, q⟩
    have e' : b = s1.heap.objs.size + 1 ∨ b = s1.heap.objs.size := by simpa using hb
    have hle : s1.heap.objs.size ≤ b := by
      rcases e' with z | z
      · rw [z]; exact Nat.le_add_right _ _
      · rw [z]; exact Nat.le_refl _
    exact I1.fpOk hle (I1.hok.fresh hle)
theorem walk_enumT {K : PySem.W.Frag} {a : Addr} {xs : List V} : Walk (IteT K a) xs.length (fun H => SqT K H a xs) (YPair (fun i => some (.int (i : Nat))) (fun i => xs[i]?)) := by
  refine ⟨fun i _ hi q => ⟨xs, xs[i], q, by simp [hi]⟩, fun _ q => ⟨xs, q, rfl⟩, fun i H v H' _ q y => ?_⟩
  obtain ⟨T, x, h1, h2, h3, h4⟩ := y
  exact ⟨T, .int (i : Nat), x, h1, h2, h3, rfl, h4 xs q⟩
section
variable {K : PySem.W.Frag} {σ : L2.St} {H : Hp} {Q : VK} {nx bk ct : L2.St → Hp → Prop} {rt : VK} {te : TE} {tt : TT} {g : TG} {vs : List Nat} {tbd : TS} {t : TA}
theorem rd_lcEnumT (h : t σ H fun ws H1 => ∃ a xs, ws = [.ref a] ∧ SqT K H1 a xs ∧ ∀ D, H1 D = none → LcG (IteT K a) g tt te vs σ H1 D (Q (.ref D))) : tLc (iEnumT K t) g tt te vs σ H Q := h
theorem rd_forEnumT (h : t σ H fun ws H1 => ∃ a xs, ws = [.ref a] ∧ SqT K H1 a xs ∧ ForG (IteT K a) g tbd nx rt σ H1) : tFor (iEnumT K t) g tbd ⟨nx, rt, bk, ct⟩ σ H := h
end
end FN
set_option maxHeartbeats 4000000
namespace FN
open PySem PySem.Spec PyProof.Rows L2
local macro_rules | `(tactic| walk_at "w") => `(tactic| repeat (with_reducible first
  | refine rd_seq ?_
  | refine rd_asg ?_
  | refine rd_name ?_
  | refine rd_ret ?_
  | refine rd_drop ?_
  | refine rd_if ?_
  | refine rd_next ?_
  | refine rd_var (by k_dflt rfl) ?_
  | refine rd_c ?_
  | refine rd_op ?_
  | refine rd_un ?_
  | refine rd_test ?_
  | refine rd_B ?_
  | refine rd_I0 ?_
  | refine rd_U ?_
  | refine rd_eqI ?_
  | refine rd_neI ?_
  | refine rd_eqS ?_
  | refine rd_neS ?_
  | refine rd_and ?_
  | refine rd_or ?_
  | refine rd_not ?_
  | refine rd_andV ?_
  | refine rd_orV ?_
  | refine rd_notV ?_
  | refine rd_ife ?_
  | refine rd_chain ?_
  | refine rd_exb ?_
  | refine rd_exi ?_
  | refine rd_nil ?_
  | refine rd_cons ?_
  | refine rd_CB ?_
  | refine rd_G ?_
  | refine rd_fld ?_
  | refine rd_sl ?_
  | refine rd_part ?_
  | refine rd_noPart ?_
  | refine rd_leaf ?_
  | refine rd_tup ?_
  | refine rd_lst ?_
  | refine rd_star ?_
  | refine rd_bm ?_
  | refine rd_bm0 ?_
  | refine rd_gsub ?_
  | refine rd_rev ?_
  | refine rd_gnil ?_
  | refine rd_gcons ?_
  | refine rd_yes ?_
  | refine rd_abs ?_
  | refine rd_max2 ?_
  | refine rd_min2 ?_
  | refine rd_int1 ?_
  | refine rd_int1b ?_
  | refine rd_inSign ?_
  | refine rd_niSign ?_
  | refine rd_isN ?_
  | refine rd_ntN ?_
  | refine rd_dcLst ?_
  | refine rd_dcTup ?_
  | refine rd_dcItems ?_
  | refine rd_lcTup ?_
  | refine rd_lcLst ?_
  | refine rd_lcStr ?_
  | refine rd_lcR1 ?_
  | refine rd_lcR2 ?_
  | refine rd_lcKeys ?_
  | refine rd_lcVals ?_
  | refine rd_lcItems ?_
  | refine rd_lcZip ?_
  | refine rd_forTup ?_
  | refine rd_forLst ?_
  | refine rd_forR1 ?_
  | refine rd_forR2 ?_
  | refine rd_forR3 ?_
  | refine rd_forZip ?_
  | refine rd_forItems ?_
  | refine rd_lcEnumT ?_
  | refine rd_forEnumT ?_
  | refine rd_oneStr ?_
  | refine rd_mkR ?_
  | refine rd_mk0 ?_
  | refine rd_mR ?_
  | refine rd_mN ?_
  | refine rd_pr ?_
  | refine rd_cmR ?_
  | refine rd_makeC ?_
  | refine rd_tM1 ?_
  | refine rd_fmtT ?_
  | refine ⟨rd_exs, ?_⟩
  | refine rd_listZip ?_
  | refine rd_lenSetS ?_
  | refine rd_sfld ?_
  | refine rd_jc ?_
  | refine rd_jn ?_
  | refine rd_par ?_
  | refine rd_par3 ?_
  | refine rd_dupd ?_
  | refine rd_disp ?_
  | refine rd_pc ?_
  | refine rd_pn ?_
  | refine rd_dni ?_
  | refine rd_dget ?_
  | refine rd_dget2 ?_
  | refine rd_dput ?_
  | refine rd_T ?_
  | refine rd_F ?_
  | refine rd_nT ?_
  | refine rd_nF ?_))
/-! ### != and f'{x}' by the text's own __eq__, __str__ -/
open PySem.W in
theorem ifBound_B {M : Model} {A : Around} {E : Value → Shared → Prop} {s : Shared} {K : PySem.W.Frag} {x C : Addr} {ox : Obj} {od : Option Obj} {name : Str} {id : String} {args : List Value} {Q : Option Value → Shared → Prop} (X : K.In s.heap) (I : PySem.W.InstAt s.heap x ox C od) (hs : PySem.W.findIn K (.ref C) name = some (some (.builtin id)))
    (hb : ∀ self, bindSpecial (.builtin id) self = pure (.builtin id, [self])) (h : wpAny M A (call (.builtin id) (.ref x :: args)) (fun v => Q (some v)) E s) : wpAny M A (callSpecialIfBound? (.ref x) name args) Q E s := by
  simp only [callSpecialIfBound?, bindSpecialIfBound?]
  refine wpAny_holding (wpAny_bind (wpAny_bind (wpAny_bind (I.type.here ((PySem.W.looks_findIn X hs).here ?_)))))
  refine wpAny_bind (wpAny_askSetting (wpAny_ite ?_))
  have fin : wpAny M A (call (.builtin id) ([.ref x] ++ args) >>= fun v => pure (some v)) Q E s := wpAny_bind (wpAny_mono h (fun v s' h' => wpAny_pure h') fun _ _ h' => h')
  split
  · exact wpAny_bind ((PySem.W.Looks.of_pure (hb _)).here (wpAny_pure (by exact fin)))
  · exact wpAny_tryCatch (wpAny_bind ((PySem.W.Looks.of_pure (hb _)).here (wpAny_pure (by exact fin))))
open PySem.W in
theorem ne_entry {prog : Program} {w : World} {A : Around} {E : Value → Shared → Prop} {s : Shared} {K : PySem.W.Frag} {x C f : Addr} {y : Value} {ox : Obj} {od : Option Obj} (X : K.In s.heap) (I : PySem.W.InstAt s.heap x ox C od)
    (he : PySem.W.findIn K (.ref C) "__eq__" = some (some (.ref f))) (hf : PySem.W.isFn K (.ref f) = true) (hu : A.units < cLine) {Q : Fin → Shared → Prop}
    (hcall : wpAny (model prog w) A (call (.ref f) [.ref x, y]) (fun v s' => ∃ b, v = .bool b ∧ Q (.done (.ret (.bool (!b)))) s') E s) :
    wpAny (model prog w) A (Builtin.«object.__ne__» ⟨[.ref x, y], []⟩) Q E s := by
  unfold Builtin.«object.__ne__»
  repeat (first
    | with_reducible refine wpAny_cRoomFor hu ?_
    | (refine wpAny_bind (m := callSpecialIfBound? (.ref x) (Str.ofString "__eq__") [y])
        (PySem.W.ifBound_K X I he hf (wpAny_mono hcall (fun r s' hr => by
          obtain ⟨b, rfl, hq⟩ := hr
          repeat (first | exact hq | exact wpAny_pure hq | exact wpAny_truthy_bool hq | (refine wpAny_bind (m := truthy (.bool _)) (wpAny_truthy_bool ?_)) | wp_step)) fun _ _ e => e)))
    | wp_step)
/-- what != of instances of the class at C takes -/
structure NeC (K : PySem.W.Frag) (C f : Addr) : Prop where
  ne : PySem.W.findIn K (.ref C) "__ne__" = some (some (.builtin "object.__ne__"))
  eq : PySem.W.findIn K (.ref C) "__eq__" = some (some (.ref f))
  fn : PySem.W.isFn K (.ref f) = true
  ob : PySem.W.mroIn K C (.type "object") = some true
theorem ne_try {prog : Program} {w : World} {A : Around} {E : Value → Shared → Prop} {s : Shared} {K : PySem.W.Frag} {x C f : Addr} {y : Value} {ox : Obj} {od : Option Obj} (c : NeC K C f) (X : K.In s.heap) (I : PySem.W.InstAt s.heap x ox C od)
    (hu : A.units + 1 < cLine) {Q : Value → Shared → Prop} (hcall : wpAny (model prog w) A.in1 (call (.ref f) [.ref x, y]) (fun v s' => ∃ b, v = .bool b ∧ Q (.bool (!b)) s') E s) :
    wpAny (model prog w) A (tryCompare (.ref x) "__ne__" y) (fun r s' => ∃ v, r = some v ∧ Q v s') E s := by
  simp only [tryCompare]
  refine wpAny_bind (ifBound_B X I c.ne F.cmp_object.ne.bind (wpAny_call (codeAny_call_builtin F.cmp_object.ne.plain F.cmpEntry_ne
    (PySem.W.check_slot (i := "object.__ne__") (owner := "object") (n := "__ne__") F.cmpKind_ne F.cmpSplit_ne (I.type.andThen (PySem.W.looks_mroIn X c.ob)) (F.cmpArgs_ne _ _)
      (ne_entry (A := A.in1) X I c.eq c.fn hu (wpAny_mono hcall (fun v s' hv => ?_) fun _ _ e => e))))))
  obtain ⟨b, rfl, hq⟩ := hv
  first | exact ⟨b, rfl, wpAny_pure ⟨_, rfl, hq⟩⟩ | exact ⟨b, rfl, wpAny_pure (wpAny_pure ⟨_, rfl, hq⟩)⟩ | exact ⟨b, rfl, ⟨_, rfl, hq⟩⟩
theorem ne_rich {prog : Program} {w : World} {A : Around} {E : Value → Shared → Prop} {s : Shared} {K : PySem.W.Frag} {x y C f : Addr} {ox oy : Obj} {od od' : Option Obj} (c : NeC K C f) (X : K.In s.heap) (I : PySem.W.InstAt s.heap x ox C od) (J : PySem.W.InstAt s.heap y oy C od')
    (hu : A.units + 1 < cLine) {Q : Value → Shared → Prop} (hcall : wpAny (model prog w) A.in1 (call (.ref f) [.ref x, .ref y]) (fun v s' => ∃ b, v = .bool b ∧ Q (.bool (!b)) s') E s) :
    wpAny (model prog w) A (richCompare .NotEq (.ref x) (.ref y)) Q E s := by
  unfold richCompare
  simp only [oneThing_ref]
  refine wpAny_holding (wpAny_bind (wpAny_cRoomFor (Nat.lt_of_succ_lt hu) ?_))
  rw [cmpInfo_NotEq]
  dsimp only
  refine wpAny_bind (I.type.here (wpAny_bind (J.type.here ?_)))
  rw [show (Value.ref C != Value.ref C) = false from by simp]
  simp only [Bool.false_eq_true, if_false]
  refine wpAny_bind (wpAny_pure ?_)
  simp only [Bool.false_eq_true, if_false]
  refine wpAny_bind (wpAny_mono (ne_try c X I hu hcall) (fun r s' z => ?_) fun _ _ e => e)
  obtain ⟨v, rfl, hq⟩ := z
  exact wpAny_pure hq
/-- x != y, both of the class at C, by its own == -/
def rNeT (C : Addr) (sp : Sp) : R2 := fun x y H Q => ∃ a dx fs b dy gs, x = .ref a ∧ y = .ref b ∧ H a = some (.ins C dx fs) ∧ H b = some (.ins C dy gs) ∧ sp [.ref a, .ref b] H (fun v H' => ∃ k, v = .bl k ∧ Q (.bl (!k)) H') E0
theorem op_neT {X : Cx} {n : Nat} {C : Addr} {sp : Sp} (G : Rf X.prog X.w X.K X.mg X.base (NeC X.K C) n sp) (hr : Room (n + 1) X.A) : OpR X (compareOp .NotEq) (rNeT C sp) := by
  obtain ⟨f, F, c⟩ := G
  intro pins s σ H x y v u Q I rx ry h
  obtain ⟨a, dx, fs, b, dy, gs, rfl, rfl, ha, hb, q⟩ := h
  cases (show v = Value.ref a from rx)
  cases (show u = Value.ref b from ry)
  obtain ⟨mA, J, _⟩ := ins_get I.hok ha
  obtain ⟨mB, J', _⟩ := ins_get I.hok hb
  obtain ⟨od, J, _⟩ := J.look
  obtain ⟨od', J', _⟩ := J'.look
  refine ne_rich c I.kIn J J' (by have := hr.un; omega) ?_
  refine wpAny_mono (wpAny_call (SlX.run_at (us := [.ref a, .ref b]) (ws := [.ref a, .ref b]) F hr.in1 I.env0.in1 pass0 I (.cons rfl (.cons rfl .nil)) q)) (fun w s' z => ?_) fun _ _ x => x
  obtain ⟨z', H', I', rz, k, rfl, qz⟩ := z
  exact ⟨k, rz, .bl (!k), H', I', rfl, qz⟩
/-- f'{x}', x of the class at C, by its own str -/
structure FmC (K : PySem.W.Frag) (C f : Addr) : Prop where
  fm : PySem.W.findIn K (.ref C) "__format__" = some (some (.builtin "object.__format__"))
  st : PySem.W.findIn K (.ref C) "__str__" = some (some (.ref f))
  fn : PySem.W.isFn K (.ref f) = true
  ob : PySem.W.mroIn K C (.type "object") = some true
def tFmtT (C : Addr) (sp : Sp) (te : TE) : TE := fun σ H Q => te σ H fun x H1 => ∃ a dx fs, x = .ref a ∧ H1 a = some (.ins C dx fs) ∧ sp [.ref a] H1 (fun v H' => ∃ z, v = .str z ∧ Q (.str z) H') E0
theorem pe_fmtT {X : Cx} {n : Nat} {C : Addr} {sp : Sp} {e : Expr} {te : TE} {pos : Pos} (G : Rf X.prog X.w X.K X.mg X.base (FmC X.K C) n sp) (hr : Room (n + 1) X.A) (he : PE X e te) : PE X (.FormattedValue e (-1) none pos) (tFmtT C sp te) := by
  obtain ⟨f, F, c⟩ := G
  refine ⟨fun pins s σ H Q I h => ?_⟩
  refine wpAny_FormattedValue_plain (thn (he.run pins s σ H _ I h) fun v s1 hv => ?_)
  obtain ⟨x, H1, I1, r1, a, dx, fs, rfl, ha, q⟩ := hv
  obtain rfl : v = Value.ref a := r1
  obtain ⟨mA, J, _⟩ := ins_get I1.hok ha
  obtain ⟨od, J, _⟩ := J.look
  have I2 := I1.tok (s1.toks + 1)
  refine PySem.W.kfo_fieldS (by show X.A.units + 1 < cLine; have := hr.un; omega) I1.kIn J c.fm c.ob c.st c.fn ?_
  refine wpAny_mono (wpAny_call (SlX.run_at (us := [.ref a]) (ws := [.ref a]) F hr.in1 I2.env0.in1 pass0 I2 (.cons rfl .nil) q)) (fun w s' z => ?_) fun _ _ x => x
  obtain ⟨z', H', I', rz, k, rfl, qz⟩ := z
  obtain ⟨t, rfl⟩ := rz
  exact ⟨.str k, H', I', ⟨t, rfl⟩, qz⟩
end FN
set_option maxHeartbeats 4000000
namespace FN
open PySem PySem.Spec PyProof.Rows L2
/-- .. its methods, what isinstance asks -/
structure Ty (K : PySem.W.Frag) (mg : Str → Option Value) (C : Ad) : Prop extends Tx K mg C where
  isi_n : SlX.SIsi K C.n
  isi_t : SlX.SIsi K C.t
  isi_b : SlX.SIsi K C.b
  kb_tt : PySem.W.kitOne K (.ref C.t) (.ref C.t) = some true
  kb_nn : PySem.W.kitOne K (.ref C.n) (.ref C.n) = some true
  kb_un : PySem.W.kitOne K (.type "tuple") (.ref C.n) = some false
  kb_0t : PySem.W.kitOne K (.type "NoneType") (.ref C.t) = some false
  i_r : FD K (Mk K C.r) "__init__" "Reader.__init__" s_Reader___init__ ["self"]
  m_r_take : FD K (Meth K C.r "take") "take" "Reader.take" s_Reader_take ["self", "token"]
  m_r_take_word : FD K (Meth K C.r "take_word") "take_word" "Reader.take_word" s_Reader_take_word ["self", "word"]
  i_n : FD K (Mk K C.n) "__init__" "Nodes.__init__" s_Nodes___init__ ["self", "nodes"]
  i_t : FD K (Mk K C.t) "__init__" "Term.__init__" s_Term___init__ ["self", "nodes"]
  c_t_read : FD K (CmC K C.t "read") "read" "Term.read" s_Term_read ["cls", "text"]
  p_text : FD K (PrC K C.t "text") "text" "Term.text" s_Term_text ["self"]
  p_is_ground : FD K (PrC K C.t "is_ground") "is_ground" "Term.is_ground" s_Term_is_ground ["self"]
  m_t_require_place : FD K (Meth K C.t "require_place") "require_place" "Term.require_place" s_Term_require_place ["self", "place"]
  m_t_fillings : FD K (Meth K C.t "fillings") "fillings" "Term.fillings" s_Term_fillings ["self", "other"]
  e_t : FD K (NeC K C.t) "__eq__" "Term.__eq__" s_Term___eq__ ["self", "other"]
  s_t : FD K (FmC K C.t) "__str__" "Term.__str__" s_Term___str__ ["self"]
  i_b : FD K (Mk K C.b) "__init__" "Book.__init__" s_Book___init__ ["self", "symbols", "rules"]
  c_b_read : FS K (CmC K C.b "read") "read" "Book.read" s_Book_read ["cls"] "lines"
  m_b_require_term : FD K (Meth K C.b "require_term") "require_term" "Book.require_term" s_Book_require_term ["self", "value"]
  m_b_require_rule : FD K (Meth K C.b "require_rule") "require_rule" "Book.require_rule" s_Book_require_rule ["self", "rule"]
  m_b_redexes : FD K (Meth K C.b "redexes") "redexes" "Book.redexes" s_Book_redexes ["self", "term"]
  m_b_rules_at : FD K (Meth K C.b "rules_at") "rules_at" "Book.rules_at" s_Book_rules_at ["self", "term", "place"]
  m_b_is_result : FD K (Meth K C.b "is_result") "is_result" "Book.is_result" s_Book_is_result ["self", "term"]
  m_b_step : FS K (Meth K C.b "step") "step" "Book.step" s_Book_step ["self", "term", "place", "rule"] "terms"
  m_b_is_step : FD K (Meth K C.b "is_step") "is_step" "Book.is_step" s_Book_is_step ["self", "one", "place", "rule", "other"]
end FN
set_option maxHeartbeats 4000000
namespace FN
open PySem PySem.Spec PyProof.Rows L2
local macro_rules | `(tactic| walk_at "w") => `(tactic| repeat (with_reducible first
  | refine rd_seq ?_
  | refine rd_asg ?_
  | refine rd_name ?_
  | refine rd_ret ?_
  | refine rd_drop ?_
  | refine rd_if ?_
  | refine rd_next ?_
  | refine rd_var (by k_dflt rfl) ?_
  | refine rd_c ?_
  | refine rd_op ?_
  | refine rd_un ?_
  | refine rd_test ?_
  | refine rd_B ?_
  | refine rd_I0 ?_
  | refine rd_U ?_
  | refine rd_eqI ?_
  | refine rd_neI ?_
  | refine rd_eqS ?_
  | refine rd_neS ?_
  | refine rd_and ?_
  | refine rd_or ?_
  | refine rd_not ?_
  | refine rd_andV ?_
  | refine rd_orV ?_
  | refine rd_notV ?_
  | refine rd_ife ?_
  | refine rd_chain ?_
  | refine rd_exb ?_
  | refine rd_exi ?_
  | refine rd_nil ?_
  | refine rd_cons ?_
  | refine rd_CB ?_
  | refine rd_G ?_
  | refine rd_fld ?_
  | refine rd_sl ?_
  | refine rd_part ?_
  | refine rd_noPart ?_
  | refine rd_leaf ?_
  | refine rd_tup ?_
  | refine rd_lst ?_
  | refine rd_star ?_
  | refine rd_bm ?_
  | refine rd_bm0 ?_
  | refine rd_gsub ?_
  | refine rd_rev ?_
  | refine rd_gnil ?_
  | refine rd_gcons ?_
  | refine rd_yes ?_
  | refine rd_abs ?_
  | refine rd_max2 ?_
  | refine rd_min2 ?_
  | refine rd_int1 ?_
  | refine rd_int1b ?_
  | refine rd_inSign ?_
  | refine rd_niSign ?_
  | refine rd_isN ?_
  | refine rd_ntN ?_
  | refine rd_dcLst ?_
  | refine rd_dcTup ?_
  | refine rd_dcItems ?_
  | refine rd_lcTup ?_
  | refine rd_lcLst ?_
  | refine rd_lcStr ?_
  | refine rd_lcR1 ?_
  | refine rd_lcR2 ?_
  | refine rd_lcKeys ?_
  | refine rd_lcVals ?_
  | refine rd_lcItems ?_
  | refine rd_lcZip ?_
  | refine rd_forTup ?_
  | refine rd_forLst ?_
  | refine rd_forR1 ?_
  | refine rd_forR2 ?_
  | refine rd_forR3 ?_
  | refine rd_forZip ?_
  | refine rd_forItems ?_
  | refine rd_lcEnumT ?_
  | refine rd_forEnumT ?_
  | refine rd_oneStr ?_
  | refine rd_mkR ?_
  | refine rd_mk0 ?_
  | refine rd_mR ?_
  | refine rd_mN ?_
  | refine rd_pr ?_
  | refine rd_cmR ?_
  | refine rd_makeC ?_
  | refine rd_tM1 ?_
  | refine rd_fmtT ?_
  | refine ⟨rd_exs, ?_⟩
  | refine rd_listZip ?_
  | refine rd_lenSetS ?_
  | refine rd_sfld ?_
  | refine rd_jc ?_
  | refine rd_jn ?_
  | refine rd_par ?_
  | refine rd_par3 ?_
  | refine rd_dupd ?_
  | refine rd_disp ?_
  | refine rd_pc ?_
  | refine rd_pn ?_
  | refine rd_dni ?_
  | refine rd_dget ?_
  | refine rd_dget2 ?_
  | refine rd_dput ?_
  | refine rd_T ?_
  | refine rd_F ?_
  | refine rd_nT ?_
  | refine rd_nF ?_))
theorem hu1 {k : Nat} {A : Around} (r : Room k A) : A.units + 1 < cLine := by have := r.un; omega
theorem hu65 {k : Nat} {A : Around} (r : Room k A) : A.units + 65 < cLine := by have := r.un; omega
section
variable {K : PySem.W.Frag} {σ : L2.St} {H H' : Hp} {Q : VK} {nx bk ct : L2.St → Hp → Prop} {rt : VK} {ta tb te td ty tx : TE} {t : TE}
theorem lock_same {d : Addr} {u : HO} {od : Obj} (h : H d = some u) (s : Same (upd H d (.frz od u)) H') : Same H (upd H' d u) := fun a o e => by
  by_cases z : a = d
  · subst z; rw [upd_same]; rw [h] at e; exact e
  · rw [upd_ne z]; exact s a o (by rw [upd_ne z]; exact e)
theorem rd_lockE {d : Addr} {kvs : List (Key × V)} (h : H d = some (.dK kvs)) (k : ∀ od, t σ (upd H d (.frz od (.dK kvs))) fun v H' => H' d = some (.frz od (.dK kvs)) ∧ Q v (upd H' d (.dK kvs))) : tLockE t σ H Q :=
  ⟨d, .dK kvs, h, by trivial, k⟩
/-- what stands beside the lock -/
theorem kp_lock {d : Addr} {kvs : List (Key × V)} {od : Obj} : ∀ {a : Addr} {o : HO}, H a = some o → a ≠ d → upd H d (.frz od (.dK kvs)) a = some o := fun e n => by rw [upd_ne n]; exact e
theorem rd_dget (h : td σ H fun x H1 => ty σ H1 fun y H2 => ∃ a v, x = .ref a ∧ DGet H2 a y (some v) ∧ Q v H2) : tDGet td ty σ H Q := h
theorem rd_dgetR {a : Addr} {kvs : List (Key × V)} {k : Key} {v : V} (h : H a = some (.dK kvs)) (e : valV kvs k = some v) (q : Q v H) : ∃ a' v', V.ref a = .ref a' ∧ DGet H a' (kV k) (some v') ∧ Q v' H := ⟨a, v, rfl, e ▸ DGet.k h, q⟩
theorem rd_dget2 (h : td σ H fun x H1 => ∃ a, x = .ref a ∧ IsD H1 a ∧ ty σ H1 fun y H2 => tx σ H2 fun z H3 => ∃ o, DGet H3 a y o ∧ Q (o.getD z) H3) : tDGet2 td ty tx σ H Q := h
theorem rd_dput {nx : L2.St → Hp → Prop} (h : te σ H fun v H1 => td σ H1 fun x H2 => ty σ H2 fun y H3 => ∃ a H4, x = .ref a ∧ DPut H3 a y v H4 ∧ nx σ H4) : sDPut td ty te ⟨nx, rt, bk, ct⟩ σ H := h
theorem rd_dputR {a : Addr} {kvs : List (Key × V)} {k : Key} {v : V} {nx : L2.St → Hp → Prop} (h : H a = some (.dK kvs)) (hz : kvs.length < sizeLine) (q : nx σ (upd H a (.dK (putK kvs k v)))) : ∃ a' H4, V.ref a = .ref a' ∧ DPut H a' (kV k) v H4 ∧ nx σ H4 := ⟨a, _, rfl, .inl ⟨kvs, k, h, rfl, hz, rfl⟩, q⟩
/-- x in (texts) -/
theorem rd_inS {z : Str} {p : Addr} {zs : List Str} (h : SqL K H p (zs.map V.str) ∨ SqT K H p (zs.map V.str)) (k : Q (.bl (decide (z ∈ zs))) H) : rIn K false (.str z) (.ref p) H Q := by
  refine ⟨p, _, rfl, h, rfl, by simp [List.all_eq_true, flatV], ?_⟩
  have e : inV (.str z) (zs.map V.str) = decide (z ∈ zs) := by
    unfold inV
    rw [Bool.eq_iff_iff, List.any_eq_true, decide_eq_true_iff]
    constructor
    · rintro ⟨y, hy, e⟩
      obtain ⟨x, hx, rfl⟩ := List.mem_map.mp hy
      have : x = z := by simpa [eqV] using e
      subst this; exact hx
    · intro hz
      exact ⟨.str z, List.mem_map.mpr ⟨z, hz, rfl⟩, by simp [eqV]⟩
  rw [if_neg (by decide), e]
  exact k
theorem rd_niS {z : Str} {p : Addr} {zs : List Str} (h : SqL K H p (zs.map V.str) ∨ SqT K H p (zs.map V.str)) (k : Q (.bl (!decide (z ∈ zs))) H) : rIn K true (.str z) (.ref p) H Q := by
  refine ⟨p, _, rfl, h, rfl, by simp [List.all_eq_true, flatV], ?_⟩
  have e : inV (.str z) (zs.map V.str) = decide (z ∈ zs) := by
    unfold inV
    rw [Bool.eq_iff_iff, List.any_eq_true, decide_eq_true_iff]
    constructor
    · rintro ⟨y, hy, e⟩
      obtain ⟨x, hx, rfl⟩ := List.mem_map.mp hy
      have : x = z := by simpa [eqV] using e
      subst this; exact hx
    · intro hz
      exact ⟨.str z, List.mem_map.mpr ⟨z, hz, rfl⟩, by simp [eqV]⟩
  rw [if_pos rfl, e]
  exact k
end
/-- the letters -/
def LET : List Nat := ("abcdefghijklmnopqrstuvwxyz" : Str).cps.toList
abbrev s1 (c : Nat) : Str := ⟨#[c]⟩
theorem s1_len {c : Nat} : (s1 c).length = 1 := rfl
section
variable {K : PySem.W.Frag} {σ : L2.St} {H : Hp} {Q : VK} {sp : Sp} {E : XK} {t : TA} {ta te to : TE} {C : Addr} {m : Str} {dvs : List V}
theorem rd_mkR (h : t σ H fun vs H1 => ∀ x dx, H1 x = Option.none → H1 dx = Option.none → dx ≠ x → sp (V.ref x :: vs) (upd (upd H1 dx (.own x)) x (.ins C dx [])) (fun v H2 => v = .non ∧ Q (.ref x) H2) E) : StX.tMakeR C sp E t σ H Q := h
theorem rd_mk0 (h : t σ H fun vs H1 => ∀ x dx, H1 x = none → H1 dx = none → dx ≠ x → sp (.ref x :: (vs ++ dvs)) (upd (upd H1 dx (.own x)) x (.ins C dx [])) (fun v H2 => v = .non ∧ Q (.ref x) H2) E) : tMake C sp dvs E t σ H Q := h
theorem rd_mR (h : ta σ H fun x H1 => ∃ a dx fs, x = .ref a ∧ H1 a = some (.ins C dx fs) ∧ fs.lookup m = none ∧ t σ H1 fun vs H2 => sp (x :: vs) H2 Q E) : tMethR C m sp E ta t σ H Q := h
theorem rd_mN (h : ta σ H fun x H1 => ∃ a dx fs, x = .ref a ∧ H1 a = some (.ins C dx fs) ∧ fs.lookup m = none ∧ t σ H1 fun vs H2 => sp (x :: (vs ++ dvs)) H2 Q E) : tMeth C m sp dvs E ta t σ H Q := h
theorem rd_pr (h : ta σ H fun x H1 => ∃ a dx fs, x = .ref a ∧ H1 a = some (.ins C dx fs) ∧ sp (.ref a :: dvs) H1 Q E) : tProp C sp dvs E ta σ H Q := h
theorem rd_cmR (h : ta σ H fun x H1 => x = .ref C ∧ t σ H1 fun vs H2 => sp (.ref C :: vs) H2 Q E) : ClX.tCMeth C sp E ta t σ H Q := h
theorem rd_tM1 {r : V → List V → Hp → VK → Prop} (h : to σ H fun x H1 => (∃ a, x = .str a) ∧ te σ H1 fun y H2 => r x [y] H2 Q) : tM1 r to te σ H Q := h
theorem rd_sfld0 {tv : TE} {f : Str} {nx bk ct : L2.St → Hp → Prop} {rt : VK} (h : tv σ H fun y H1 => ta σ H1 fun x H2 => ∃ a C dx fs, x = .ref a ∧ H2 a = some (.ins C dx fs) ∧ Cls K C ∧ NoAttr K C f ∧ fs.length < 1000 ∧ nx σ (upd H2 a (.ins C dx (putF f y fs)))) : sFld K ta tv f ⟨nx, rt, bk, ct⟩ σ H := h
theorem rd_fmtT {σ : L2.St} (h : te σ H fun x H1 => ∃ a dx fs, x = .ref a ∧ H1 a = some (.ins C dx fs) ∧ sp [.ref a] H1 (fun v H' => ∃ z, v = .str z ∧ Q (.str z) H') E0) : tFmtT C sp te σ H Q := h
theorem rd_exs {z : Str} : ∃ a, V.str z = .str a := ⟨z, rfl⟩
end
section
variable {σ : L2.St} {H : Hp} {ta : TA} {nx bk ct : L2.St → Hp → Prop} {rt : VK}
theorem rd_par {i j : Nat} (h : ta σ H fun vs H1 => ∃ v w, vs = [v, w] ∧ nx ((σ.set i (some v)).set j (some w)) H1) : tPar i j ta ⟨nx, rt, bk, ct⟩ σ H := h
theorem rd_par3 {i j l : Nat} (h : ta σ H fun vs H1 => ∃ u v w, vs = [u, v, w] ∧ nx (((σ.set i (some u)).set j (some v)).set l (some w)) H1) : tPar3 i j l ta ⟨nx, rt, bk, ct⟩ σ H := h
end
end FN
set_option maxHeartbeats 4000000
namespace FN
open PySem PySem.Spec PyProof.Rows L2
local macro_rules | `(tactic| walk_at "w") => `(tactic| repeat (with_reducible first
  | refine rd_seq ?_
  | refine rd_asg ?_
  | refine rd_name ?_
  | refine rd_ret ?_
  | refine rd_drop ?_
  | refine rd_if ?_
  | refine rd_next ?_
  | refine rd_var (by k_dflt rfl) ?_
  | refine rd_c ?_
  | refine rd_op ?_
  | refine rd_un ?_
  | refine rd_test ?_
  | refine rd_B ?_
  | refine rd_I0 ?_
  | refine rd_U ?_
  | refine rd_eqI ?_
  | refine rd_neI ?_
  | refine rd_eqS ?_
  | refine rd_neS ?_
  | refine rd_and ?_
  | refine rd_or ?_
  | refine rd_not ?_
  | refine rd_andV ?_
  | refine rd_orV ?_
  | refine rd_notV ?_
  | refine rd_ife ?_
  | refine rd_chain ?_
  | refine rd_exb ?_
  | refine rd_exi ?_
  | refine rd_nil ?_
  | refine rd_cons ?_
  | refine rd_CB ?_
  | refine rd_G ?_
  | refine rd_fld ?_
  | refine rd_sl ?_
  | refine rd_part ?_
  | refine rd_noPart ?_
  | refine rd_leaf ?_
  | refine rd_tup ?_
  | refine rd_lst ?_
  | refine rd_star ?_
  | refine rd_bm ?_
  | refine rd_bm0 ?_
  | refine rd_gsub ?_
  | refine rd_rev ?_
  | refine rd_gnil ?_
  | refine rd_gcons ?_
  | refine rd_yes ?_
  | refine rd_abs ?_
  | refine rd_max2 ?_
  | refine rd_min2 ?_
  | refine rd_int1 ?_
  | refine rd_int1b ?_
  | refine rd_inSign ?_
  | refine rd_niSign ?_
  | refine rd_isN ?_
  | refine rd_ntN ?_
  | refine rd_dcLst ?_
  | refine rd_dcTup ?_
  | refine rd_dcItems ?_
  | refine rd_lcTup ?_
  | refine rd_lcLst ?_
  | refine rd_lcStr ?_
  | refine rd_lcR1 ?_
  | refine rd_lcR2 ?_
  | refine rd_lcKeys ?_
  | refine rd_lcVals ?_
  | refine rd_lcItems ?_
  | refine rd_lcZip ?_
  | refine rd_forTup ?_
  | refine rd_forLst ?_
  | refine rd_forR1 ?_
  | refine rd_forR2 ?_
  | refine rd_forR3 ?_
  | refine rd_forZip ?_
  | refine rd_forItems ?_
  | refine rd_lcEnumT ?_
  | refine rd_forEnumT ?_
  | refine rd_oneStr ?_
  | refine rd_mkR ?_
  | refine rd_mk0 ?_
  | refine rd_mR ?_
  | refine rd_mN ?_
  | refine rd_pr ?_
  | refine rd_cmR ?_
  | refine rd_makeC ?_
  | refine rd_tM1 ?_
  | refine rd_fmtT ?_
  | refine ⟨rd_exs, ?_⟩
  | refine rd_listZip ?_
  | refine rd_lenSetS ?_
  | refine rd_sfld ?_
  | refine rd_jc ?_
  | refine rd_jn ?_
  | refine rd_par ?_
  | refine rd_par3 ?_
  | refine rd_dupd ?_
  | refine rd_disp ?_
  | refine rd_pc ?_
  | refine rd_pn ?_
  | refine rd_dni ?_
  | refine rd_dget ?_
  | refine rd_dget2 ?_
  | refine rd_dput ?_
  | refine rd_T ?_
  | refine rd_F ?_
  | refine rd_nT ?_
  | refine rd_nF ?_))
/-! ### list comprehensions item by item -/
def Fm (f : Nat → V → Hp → Prop) : Nat → List V → Hp → Prop := fun i acc H => acc.length = i ∧ ∀ j y, acc[j]? = some y → f j y H
section
variable {K : PySem.W.Frag} {J : It} {n : Nat} {G : Hp → Prop} {Y : Nat → Hp → V → Hp → Prop} {g : TG} {tt : TT} {te : TE} {vs : List Nat} {σ : L2.St} {H1 : Hp} {D : Addr} {Qd : Hp → Prop} {f : Nat → V → Hp → Prop} {Q : VK}
theorem fm_push {i : Nat} {acc : List V} {y : V} {H H' : Hp} (hk : ∀ i y H H', f i y H → Kp H H' → f i y H') (r : Fm f i acc H) (k : Kp H H') (h : f i y H') : Fm f (i + 1) (acc ++ [y]) H' := by
  refine ⟨by rw [List.length_append, r.1]; rfl, fun j z hz => ?_⟩
  rw [List.getElem?_append] at hz
  split at hz
  · exact hk _ _ _ _ (r.2 j z hz) k
  · rename_i hj
    have e : j - acc.length = 0 := by
      have := (List.getElem?_eq_some_iff.mp hz).1
      simp at this; omega
    rw [e] at hz
    simp at hz
    subst hz
    have ej : j = i := by have := r.1; omega
    rw [ej]; exact h
theorem lc_map (w : Walk J n G Y) (f : Nat → V → Hp → Prop) (hn : n ≤ 50000) (hD : H1 D = none) (hk : ∀ i y H H', f i y H → Kp H H' → f i y H') (hG : ∀ H, Same H1 H → G H)
    (hs : ∀ i acc x H H', i < n → acc.length ≤ i → Same H1 H → H D = some (.lst acc) → Fm f i acc H → Y i H x H' → g x (wipe σ vs) H' fun σ2 H2 => wipe σ2 vs = wipe σ vs ∧ tt σ2 H2 fun b H3 =>
      if b = true then te σ2 H3 fun y H4 => ∃ acc, H4 D = some (.lst acc) ∧ acc.length < sizeLine ∧ (∃ acc', (upd H4 D (.lst (acc ++ [y]))) D = some (.lst acc') ∧ acc'.length ≤ i + 1 ∧ (Same H1 (upd H4 D (.lst (acc ++ [y]))) ∧ Fm f (i + 1) acc' (upd H4 D (.lst (acc ++ [y]))))) else ∃ acc', H3 D = some (.lst acc') ∧ acc'.length ≤ i + 1 ∧ (Same H1 H3 ∧ Fm f (i + 1) acc' H3))
    (hd : ∀ acc H, Same H1 H → H D = some (.lst acc) → acc.length = n → (∀ j y, acc[j]? = some y → f j y H) → Qd H) : LcG J g tt te vs σ H1 D Qd :=
  lc_same w (Fm f) hn hD (fun i acc H H' r k => ⟨r.1, fun j y h => hk _ _ _ _ (r.2 j y h) k⟩) ⟨rfl, fun j y h => by simp at h⟩ hG hs (fun acc H s hd' _ r => hd acc H s hd' r.1 r.2)
theorem lc_put {i : Nat} {acc : List V} {H H4 H1 : Hp} {y : V} (hi : i < 50000) (hl : acc.length ≤ i) (hD : H D = some (.lst acc)) (hfr : H1 D = none) (s : Same H1 H) (s4 : Same H H4) (hk : ∀ i y H H', f i y H → Kp H H' → f i y H') (r : Fm f i acc H) (h : f i y H4) :
    ∃ acc, H4 D = some (.lst acc) ∧ acc.length < sizeLine ∧ (∃ acc', (upd H4 D (.lst (acc ++ [y]))) D = some (.lst acc') ∧ acc'.length ≤ i + 1 ∧ (Same H1 (upd H4 D (.lst (acc ++ [y]))) ∧ Fm f (i + 1) acc' (upd H4 D (.lst (acc ++ [y]))))) :=
  lc_elt hi hl hD hfr s s4 (fun i acc H H' r k => ⟨r.1, fun j y h => hk _ _ _ _ (r.2 j y h) k⟩) (fm_push hk r (kp_same s4) h)
/-- what depends on no heap -/
theorem nok {f : Nat → V → Prop} : ∀ (i : Nat) (y : V) (H H' : Hp), f i y → Kp H H' → f i y := fun _ _ _ _ h _ => h
theorem rd_allT {a : Addr} {acc : List V} {H : Hp} (h : SqL K H a acc) (ht : ∀ (j : Nat) y, acc[j]? = some y → y = V.bl true) (k : Q (.bl true) H) : rAll K [.ref a] H Q := by
  have e : acc = (acc.map fun _ => true).map V.bl := by
    rw [List.map_map]
    refine List.ext_getElem? fun j => ?_
    rw [List.getElem?_map]
    cases q : acc[j]? with
    | none => rfl
    | some y => rw [ht j y q]; rfl
  rw [e] at h
  refine rd_all h ?_
  rw [show (acc.map fun _ => true).all id = true by simp]
  exact k
theorem rd_allB {a : Addr} {acc : List V} {H : Hp} (b : Nat → Bool) (h : SqL K H a acc) (ht : ∀ (j : Nat) y, acc[j]? = some y → y = V.bl (b j)) (k : Q (.bl (decide (∀ j, j < acc.length → b j = true))) H) : rAll K [.ref a] H Q := by
  have e : acc = ((List.range acc.length).map b).map V.bl := by
    refine List.ext_getElem? fun j => ?_
    rw [List.getElem?_map, List.getElem?_map]
    cases q : acc[j]? with
    | none => 
      have := List.getElem?_eq_none_iff.mp q
      rw [List.getElem?_eq_none_iff.mpr (by simpa using this)]; rfl
    | some y =>
      have := (List.getElem?_eq_some_iff.mp q).1
      rw [List.getElem?_range this, ht j y q]; rfl
  have h' : SqL K H a (((List.range acc.length).map b).map V.bl) := by rw [← e]; exact h
  refine rd_all h' ?_
  have e2 : ((List.range acc.length).map b).all id = decide (∀ j, j < acc.length → b j = true) := by
    rw [Bool.eq_iff_iff, decide_eq_true_iff, List.all_eq_true]
    constructor
    · intro q j hj
      have := q (b j) (List.mem_map.mpr ⟨j, List.mem_range.mpr hj, rfl⟩)
      exact this
    · rintro q x hx
      obtain ⟨j, hj, rfl⟩ := List.mem_map.mp hx
      exact q j (List.mem_range.mp hj)
  rw [e2]; exact k
end
end FN
set_option maxHeartbeats 4000000
namespace FN
open PySem PySem.Spec PyProof.Rows L2
local macro_rules | `(tactic| walk_at "w") => `(tactic| repeat (with_reducible first
  | refine rd_seq ?_
  | refine rd_asg ?_
  | refine rd_name ?_
  | refine rd_ret ?_
  | refine rd_drop ?_
  | refine rd_if ?_
  | refine rd_next ?_
  | refine rd_var (by k_dflt rfl) ?_
  | refine rd_c ?_
  | refine rd_op ?_
  | refine rd_un ?_
  | refine rd_test ?_
  | refine rd_B ?_
  | refine rd_I0 ?_
  | refine rd_U ?_
  | refine rd_eqI ?_
  | refine rd_neI ?_
  | refine rd_eqS ?_
  | refine rd_neS ?_
  | refine rd_and ?_
  | refine rd_or ?_
  | refine rd_not ?_
  | refine rd_andV ?_
  | refine rd_orV ?_
  | refine rd_notV ?_
  | refine rd_ife ?_
  | refine rd_chain ?_
  | refine rd_exb ?_
  | refine rd_exi ?_
  | refine rd_nil ?_
  | refine rd_cons ?_
  | refine rd_CB ?_
  | refine rd_G ?_
  | refine rd_fld ?_
  | refine rd_sl ?_
  | refine rd_part ?_
  | refine rd_noPart ?_
  | refine rd_leaf ?_
  | refine rd_tup ?_
  | refine rd_lst ?_
  | refine rd_star ?_
  | refine rd_bm ?_
  | refine rd_bm0 ?_
  | refine rd_gsub ?_
  | refine rd_rev ?_
  | refine rd_gnil ?_
  | refine rd_gcons ?_
  | refine rd_yes ?_
  | refine rd_abs ?_
  | refine rd_max2 ?_
  | refine rd_min2 ?_
  | refine rd_int1 ?_
  | refine rd_int1b ?_
  | refine rd_inSign ?_
  | refine rd_niSign ?_
  | refine rd_isN ?_
  | refine rd_ntN ?_
  | refine rd_dcLst ?_
  | refine rd_dcTup ?_
  | refine rd_dcItems ?_
  | refine rd_lcTup ?_
  | refine rd_lcLst ?_
  | refine rd_lcStr ?_
  | refine rd_lcR1 ?_
  | refine rd_lcR2 ?_
  | refine rd_lcKeys ?_
  | refine rd_lcVals ?_
  | refine rd_lcItems ?_
  | refine rd_lcZip ?_
  | refine rd_forTup ?_
  | refine rd_forLst ?_
  | refine rd_forR1 ?_
  | refine rd_forR2 ?_
  | refine rd_forR3 ?_
  | refine rd_forZip ?_
  | refine rd_forItems ?_
  | refine rd_lcEnumT ?_
  | refine rd_forEnumT ?_
  | refine rd_oneStr ?_
  | refine rd_mkR ?_
  | refine rd_mk0 ?_
  | refine rd_mR ?_
  | refine rd_mN ?_
  | refine rd_pr ?_
  | refine rd_cmR ?_
  | refine rd_makeC ?_
  | refine rd_tM1 ?_
  | refine rd_fmtT ?_
  | refine ⟨rd_exs, ?_⟩
  | refine rd_listZip ?_
  | refine rd_lenSetS ?_
  | refine rd_sfld ?_
  | refine rd_jc ?_
  | refine rd_jn ?_
  | refine rd_par ?_
  | refine rd_par3 ?_
  | refine rd_dupd ?_
  | refine rd_disp ?_
  | refine rd_pc ?_
  | refine rd_pn ?_
  | refine rd_dni ?_
  | refine rd_dget ?_
  | refine rd_dget2 ?_
  | refine rd_dput ?_
  | refine rd_T ?_
  | refine rd_F ?_
  | refine rd_nT ?_
  | refine rd_nF ?_))
section
variable {P : Program} {w : World} {K : PySem.W.Frag} {mg : Str → Option Value} {base : Heap} {C : Ad}
/-- is_integer: of a number of at most sixty digits -/
def sp_is_integer : Sp := fun vs H Q _ => ∃ i : Int, vs = [.int i] ∧ -(10 ^ 60) < i ∧ i < 10 ^ 60 ∧ Q (.bl true) H
theorem ok_is_integer (T : Tx K mg C) : Gf P w K mg base "is_integer" 1 sp_is_integer := by
  refine T.d_is_integer.ok sc_is_integer (fun vs H Q E h => ?_) (fun f cdv A outer s H vs Q E hr h => ?_)
  · obtain ⟨i, rfl, _⟩ := h
    rfl
  obtain ⟨i, rfl, h1, h2, k⟩ := h
  refine ⟨_, (pss_one (ps_ret (pe_and (pe_callB call_isi rfl T.f_isinstance (by decide +kernel) (pa_cons (pv 0) (pa_cons (pe_bltn (v := .ty "int") rfl T.f_int (by decide +kernel) rfl) pa_nil))) (pe_and (pe_not (pe_callB call_isi rfl T.f_isinstance (by decide +kernel) (pa_cons (pv 0) (pa_cons (pe_bltn (v := .ty "bool") rfl T.f_bool (by decide +kernel) rfl) pa_nil)))) (pe_one (pe_chain op_lt op_lt (pe_un un_neg (pe_gI T.c_LONGEST)) (pv 0) (pe_gI T.c_LONGEST))))))), ?_⟩
  try dsimp only [nox_K]
  refine rd_st (σ' := [some (.int i)]) rfl ?_
  walk_at "w"
  refine rd_isi_int (b := true) (by decide +kernel) ?_
  walk_at "w"
  refine rd_isi_int (b := false) (by decide +kernel) ?_
  walk_at "w"
  refine rd_dT (by omega) ?_
  walk_at "w"
  rw [decide_eq_true (by omega)]
  exact k
def sp_is_within : Sp := fun vs H Q _ => ∃ i l m : Int, vs = [.int i, .int l, .int m] ∧ -(10 ^ 60) < i ∧ i < 10 ^ 60 ∧ Q (.bl (decide (l ≤ i ∧ i ≤ m))) H
theorem ok_is_within (T : Tx K mg C) : Gf P w K mg base "is_within" 2 sp_is_within := by
  have G_is_integer := ok_is_integer (P := P) (w := w) (base := base) T
  refine T.d_is_within.ok sc_is_within (fun vs H Q E h => ?_) (fun f cdv A outer s H vs Q E hr h => ?_)
  · obtain ⟨i, l, m, rfl, _⟩ := h
    rfl
  obtain ⟨i, l, m, rfl, h1, h2, k⟩ := h
  refine ⟨_, (pss_one (ps_ret (pe_and (pe_g G_is_integer (hr.mono (by decide)) (pa_cons (pv 0) pa_nil)) (pe_one (pe_chain op_le op_le (pv 1) (pv 0) (pv 2)))))), ?_⟩
  try dsimp only [nox_K]
  refine rd_st (σ' := [some (.int i), some (.int l), some (.int m)]) rfl ?_
  walk_at "w"
  refine ⟨i, rfl, h1, h2, ?_⟩
  walk_at "w"
  by_cases h3 : l ≤ i
  · refine rd_dT h3 ?_
    walk_at "w"
    rw [show decide (i ≤ m) = decide (l ≤ i ∧ i ≤ m) by simp [h3]]
    exact k
  · refine rd_dF h3 ?_
    rw [show decide (l ≤ i ∧ i ≤ m) = false by simp [h3]] at k
    exact k
def sp_is_word : Sp := fun vs H Q _ => ∃ c : Nat, vs = [.str (s1 c)] ∧ ∀ H', Same H H' → Q (.bl (decide (c ∈ LET))) H'
theorem ok_is_word (T : Tx K mg C) : Gf P w K mg base "is_word" 1 sp_is_word := by
  refine T.d_is_word.ok sc_is_word (fun vs H Q E h => ?_) (fun f cdv A outer s H vs Q E hr h => ?_)
  · obtain ⟨c, rfl, _⟩ := h
    rfl
  obtain ⟨c, rfl, k⟩ := h
  refine ⟨_, (pss_one (ps_ret (pe_and (pe_callB call_isi rfl T.f_isinstance (by decide +kernel) (pa_cons (pv 0) (pa_cons (pe_bltn (v := .ty "str") rfl T.f_str (by decide +kernel) rfl) pa_nil))) (pe_and (pe_chain op_le op_le pe_int (pe_callB c_lenZ rfl T.f_len PySem.boot_len (pa_cons (pv 0) pa_nil)) (pe_gI T.c_MAX_LETTERS)) (pe_one (pe_callB (cr_all rfl) rfl T.f_all (by decide +kernel) (pa_cons (pe_lc (own := [("sign", 1)]) rfl sc_is_word.nd (pi_str (pv 0)) (blkOk_by (own := [("sign", 1)]) (N := ["value", "sign"]) (sc := defScope s_is_word) (by decide +kernel)) (fun _ _ _ _ _ => (pg_name (i := 1) sc_is_word.nd rfl (Or.inl rfl))) (fun _ _ _ _ _ => pts_nil) (fun _ _ _ _ _ => (pe_cmpR o_inSign (pv 1) (pe_gS T.c_LETTERS) (by rfl)))) pa_nil))))))), ?_⟩
  try dsimp only [nox_K]
  refine rd_st (σ' := [some (.str (s1 c)), none]) rfl ?_
  walk_at "w"
  refine rd_isi_str (b := true) (by decide +kernel) ?_
  walk_at "w"
  refine rd_lenZ (z := s1 c) (small (by rw [s1_len]; decide)) ?_
  walk_at "w"
  refine rd_dT (by rw [s1_len]; decide) ?_
  walk_at "w"
  refine rd_dT (by rw [s1_len]; decide) ?_
  walk_at "w"
  intro D hD
  refine lc_map walk_str (fun _ y _ => y = .bl (decide (c ∈ LET))) (show (1 : Nat) ≤ 50000 by decide) hD nok (fun _ _ => trivial) ?_ ?_
  · rintro i acc x H1 H2 hi hl s1 hD' r ⟨rfl, c', hc', rfl⟩
    have hi0 : i = 0 := by
      have : i < 1 := hi
      omega
    subst hi0
    have : c' = c := by simpa using hc'.symm
    subst this
    walk_at "w"
    refine ⟨rfl, ?_⟩
    walk_at "w"
    exact lc_put (by decide) hl hD' hD s1 (Same.refl _) nok r rfl
  · intro acc H1 s1 hD' hl hf
    walk_at "w"
    have hl1 : acc.length = 1 := hl
    refine rd_allB (fun _ => decide (c ∈ LET)) (SqL.of hD') hf ?_
    rw [hl1, show decide (∀ j, j < 1 → decide (c ∈ LET) = true) = decide (c ∈ LET) by
      by_cases h : c ∈ LET
      · simp [h]
      · have : ¬ ∀ j, j < 1 → decide (c ∈ LET) = true := fun q => by have := q 0 (by decide); simp [h] at this
        rw [decide_eq_false this]; simp [h]]
    exact k H1 s1
end
end FN
set_option maxHeartbeats 4000000
namespace FN
open PySem PySem.Spec PyProof.Rows L2
local macro_rules | `(tactic| walk_at "w") => `(tactic| repeat (with_reducible first
  | refine rd_seq ?_
  | refine rd_asg ?_
  | refine rd_name ?_
  | refine rd_ret ?_
  | refine rd_drop ?_
  | refine rd_if ?_
  | refine rd_next ?_
  | refine rd_var (by k_dflt rfl) ?_
  | refine rd_c ?_
  | refine rd_op ?_
  | refine rd_un ?_
  | refine rd_test ?_
  | refine rd_B ?_
  | refine rd_I0 ?_
  | refine rd_U ?_
  | refine rd_eqI ?_
  | refine rd_neI ?_
  | refine rd_eqS ?_
  | refine rd_neS ?_
  | refine rd_and ?_
  | refine rd_or ?_
  | refine rd_not ?_
  | refine rd_andV ?_
  | refine rd_orV ?_
  | refine rd_notV ?_
  | refine rd_ife ?_
  | refine rd_chain ?_
  | refine rd_exb ?_
  | refine rd_exi ?_
  | refine rd_nil ?_
  | refine rd_cons ?_
  | refine rd_CB ?_
  | refine rd_G ?_
  | refine rd_fld ?_
  | refine rd_sl ?_
  | refine rd_part ?_
  | refine rd_noPart ?_
  | refine rd_leaf ?_
  | refine rd_tup ?_
  | refine rd_lst ?_
  | refine rd_star ?_
  | refine rd_bm ?_
  | refine rd_bm0 ?_
  | refine rd_gsub ?_
  | refine rd_rev ?_
  | refine rd_gnil ?_
  | refine rd_gcons ?_
  | refine rd_yes ?_
  | refine rd_abs ?_
  | refine rd_max2 ?_
  | refine rd_min2 ?_
  | refine rd_int1 ?_
  | refine rd_int1b ?_
  | refine rd_inSign ?_
  | refine rd_niSign ?_
  | refine rd_isN ?_
  | refine rd_ntN ?_
  | refine rd_dcLst ?_
  | refine rd_dcTup ?_
  | refine rd_dcItems ?_
  | refine rd_lcTup ?_
  | refine rd_lcLst ?_
  | refine rd_lcStr ?_
  | refine rd_lcR1 ?_
  | refine rd_lcR2 ?_
  | refine rd_lcKeys ?_
  | refine rd_lcVals ?_
  | refine rd_lcItems ?_
  | refine rd_lcZip ?_
  | refine rd_forTup ?_
  | refine rd_forLst ?_
  | refine rd_forR1 ?_
  | refine rd_forR2 ?_
  | refine rd_forR3 ?_
  | refine rd_forZip ?_
  | refine rd_forItems ?_
  | refine rd_lcEnumT ?_
  | refine rd_forEnumT ?_
  | refine rd_oneStr ?_
  | refine rd_mkR ?_
  | refine rd_mk0 ?_
  | refine rd_mR ?_
  | refine rd_mN ?_
  | refine rd_pr ?_
  | refine rd_cmR ?_
  | refine rd_makeC ?_
  | refine rd_tM1 ?_
  | refine rd_fmtT ?_
  | refine ⟨rd_exs, ?_⟩
  | refine rd_listZip ?_
  | refine rd_lenSetS ?_
  | refine rd_sfld ?_
  | refine rd_jc ?_
  | refine rd_jn ?_
  | refine rd_par ?_
  | refine rd_par3 ?_
  | refine rd_dupd ?_
  | refine rd_disp ?_
  | refine rd_pc ?_
  | refine rd_pn ?_
  | refine rd_dni ?_
  | refine rd_dget ?_
  | refine rd_dget2 ?_
  | refine rd_dput ?_
  | refine rd_T ?_
  | refine rd_F ?_
  | refine rd_nT ?_
  | refine rd_nF ?_))
section
variable {K : PySem.W.Frag} {H : Hp} {Q : VK}
theorem rd_isi_sqT {a : Addr} {xs : List V} {T : String} {b : Bool} (ha : SqT K H a xs) (hk : kitB "tuple" T = some b) (h : Q (.bl b) H) : rIsi K [.ref a, .ty T] H Q := by
  refine ⟨_, _, .type "tuple", _, b, rfl, .ty T, ?_, kit_ty hk, h⟩
  rcases ha with (ha | ⟨o, ha⟩) | ⟨o, its, n, lk, hc, _⟩
  · exact .base (.tup ha)
  · exact .fTuple ha
  · exact .kTuple lk hc
theorem tyX_sqT {a : Addr} {xs : List V} (ha : SqT K H a xs) : TyX K H (.ref a) (.type "tuple") := by
  rcases ha with (ha | ⟨o, ha⟩) | ⟨o, its, n, lk, hc, _⟩
  · exact .base (.tup ha)
  · exact .fTuple ha
  · exact .kTuple lk hc
theorem rd_isi_x {x : V} {t : Value} {B : Addr} {b : Bool} (h : TyX K H x t) (hk : PySem.W.kitOne K t (.ref B) = some b) (q : Q (.bl b) H) : rIsi K [x, .ref B] H Q := ⟨_, _, t, .ref B, b, rfl, .own B, h, hk, q⟩
theorem tyX_ins {a C dx : Addr} {fs : List (Str × V)} (e : H a = some (.ins C dx fs)) (cl : Cls K C) (i : SlX.SIsi K C) : TyX K H (.ref a) (.ref C) := .base (.ins e cl i.ca i.cn i.ct i.cm)
end
/-- a node that is one -/
def NdW (n : Nd) : Prop := ∃ c, n.1 = s1 c ∧ n.2 ≤ 3 ∧ (c ∈ LET ∨ (n.1 ∈ [("_" : Str), ("#" : Str)] ∧ n.2 = 0))
section
variable {P : Program} {w : World} {K : PySem.W.Frag} {mg : Str → Option Value} {base : Heap} {C : Ad}
def sp_is_node (K : PySem.W.Frag) : Sp := fun vs H Q _ => ∃ v n, vs = [v] ∧ Tp K H v (ndD n) ∧ NdW n ∧ ∀ H', Same H H' → Q (.bl true) H'
theorem ok_is_node (T : Ty K mg C) : Gf P w K mg base "is_node" 3 (sp_is_node K) := by
  have G_is_within := ok_is_within (P := P) (w := w) (base := base) T.toTx
  have G_is_word := ok_is_word (P := P) (w := w) (base := base) T.toTx
  refine T.d_is_node.ok sc_is_node (fun vs H Q E h => ?_) (fun f cdv A outer s H vs Q E hr h => ?_)
  · obtain ⟨v, n, rfl, _⟩ := h
    rfl
  obtain ⟨v, n, rfl, hv, ⟨c, hc, hn, hw⟩, k⟩ := h
  obtain ⟨a, rfl, ha⟩ := tp_ndE hv
  obtain ⟨nw, nn⟩ := n
  subst hc
  refine ⟨_, (pss_cons (ps_if (PW.pt (pw_or (pt_not (pt_val (pe_callB call_isi rfl T.f_isinstance (by decide +kernel) (pa_cons (pv 0) (pa_cons (pe_bltn (v := .ty "tuple") rfl T.f_tuple (by decide +kernel) rfl) pa_nil))))) (pw_or (pt_cmpR op_ne (pe_callB c_lenS rfl T.f_len PySem.boot_len (pa_cons (pv 0) pa_nil)) pe_int (nomark _)) (pw_or1 (pt_not (pt_val (pe_g G_is_within (hr.mono (by decide)) (pa_cons (pe_ix ix_tup (pv 0) pe_int (fun _ _ => rfl)) (pa_cons pe_int (pa_cons (pe_gI T.c_MAX_ARITY) pa_nil)))))))))) (pss_one (ps_ret pe_bl)) pss_nil)
    (pss_one (ps_ret (pe_or (pe_g G_is_word (hr.mono (by decide)) (pa_cons (pe_ix ix_tup (pv 0) pe_int (fun _ _ => rfl)) pa_nil)) (pe_one (pe_and (pe_callB call_isi rfl T.f_isinstance (by decide +kernel) (pa_cons (pe_ix ix_tup (pv 0) pe_int (fun _ _ => rfl)) (pa_cons (pe_bltn (v := .ty "str") rfl T.f_str (by decide +kernel) rfl) pa_nil))) (pe_and (pe_cmpR op_in_seq (pe_ix ix_tup (pv 0) pe_int (fun _ _ => rfl)) (pe_tup (pa_cons (pe_gS T.c_ANY) (pa_cons (pe_gS T.c_LOST) pa_nil))) (by rfl)) (pe_one (pe_cmpR op_eq (pe_ix ix_tup (pv 0) pe_int (fun _ _ => rfl)) pe_int (nomark _)))))))))), ?_⟩
  try dsimp only [nox_K]
  refine rd_st (σ' := [some (.ref a)]) rfl ?_
  walk_at "w"
  refine rd_isi_sqT ha (b := true) (by decide +kernel) ?_
  walk_at "w"
  refine rd_len (.inr ha) ?_
  walk_at "w"
  refine rd_ndT rfl ?_
  walk_at "w"
  refine rd_ixT ha (v := vI nn) rfl ?_
  walk_at "w"
  refine ⟨_, _, _, rfl, by omega, by have : nn ≤ 3 := hn; omega, ?_⟩
  walk_at "w"
  refine rd_ndT (by have : nn ≤ 3 := hn; exact ⟨by omega, by omega⟩) ?_
  walk_at "w"
  refine rd_ixT ha (v := .str (s1 c)) rfl ?_
  walk_at "w"
  refine ⟨c, rfl, fun H1 s1' => ?_⟩
  walk_at "w"
  have ha1 := sqT_kp (kp_same s1') ha
  by_cases hl : c ∈ LET
  · refine rd_dT hl ?_
    exact k H1 s1'
  · refine rd_dF hl ?_
    walk_at "w"
    refine rd_ixT ha1 (v := .str (s1 c)) rfl ?_
    walk_at "w"
    refine rd_isi_str (b := true) (by decide +kernel) ?_
    walk_at "w"
    refine rd_ixT ha1 (v := .str (s1 c)) rfl ?_
    walk_at "w"
    refine ⟨small (by simp), fun p hp => ?_⟩
    obtain ⟨h1, h2⟩ := hw.resolve_left hl
    have h2' : nn = 0 := h2
    subst h2'
    refine rd_inS (zs := ["_", "#"]) (.inr (sqT_of upd_same)) ?_
    walk_at "w"
    refine rd_dT h1 ?_
    walk_at "w"
    refine rd_ixT (sqT_kp (kp_new hp) ha1) (v := vI 0) rfl ?_
    walk_at "w"
    exact k _ (s1'.trans (same_new hp _))
end
end FN
set_option maxHeartbeats 4000000
namespace FN
open PySem PySem.Spec PyProof.Rows L2
local macro_rules | `(tactic| walk_at "w") => `(tactic| repeat (with_reducible first
  | refine rd_seq ?_
  | refine rd_asg ?_
  | refine rd_name ?_
  | refine rd_ret ?_
  | refine rd_drop ?_
  | refine rd_if ?_
  | refine rd_next ?_
  | refine rd_var (by k_dflt rfl) ?_
  | refine rd_c ?_
  | refine rd_op ?_
  | refine rd_un ?_
  | refine rd_test ?_
  | refine rd_B ?_
  | refine rd_I0 ?_
  | refine rd_U ?_
  | refine rd_eqI ?_
  | refine rd_neI ?_
  | refine rd_eqS ?_
  | refine rd_neS ?_
  | refine rd_and ?_
  | refine rd_or ?_
  | refine rd_not ?_
  | refine rd_andV ?_
  | refine rd_orV ?_
  | refine rd_notV ?_
  | refine rd_ife ?_
  | refine rd_chain ?_
  | refine rd_exb ?_
  | refine rd_exi ?_
  | refine rd_nil ?_
  | refine rd_cons ?_
  | refine rd_CB ?_
  | refine rd_G ?_
  | refine rd_fld ?_
  | refine rd_sl ?_
  | refine rd_part ?_
  | refine rd_noPart ?_
  | refine rd_leaf ?_
  | refine rd_tup ?_
  | refine rd_lst ?_
  | refine rd_star ?_
  | refine rd_bm ?_
  | refine rd_bm0 ?_
  | refine rd_gsub ?_
  | refine rd_rev ?_
  | refine rd_gnil ?_
  | refine rd_gcons ?_
  | refine rd_yes ?_
  | refine rd_abs ?_
  | refine rd_max2 ?_
  | refine rd_min2 ?_
  | refine rd_int1 ?_
  | refine rd_int1b ?_
  | refine rd_inSign ?_
  | refine rd_niSign ?_
  | refine rd_isN ?_
  | refine rd_ntN ?_
  | refine rd_dcLst ?_
  | refine rd_dcTup ?_
  | refine rd_dcItems ?_
  | refine rd_lcTup ?_
  | refine rd_lcLst ?_
  | refine rd_lcStr ?_
  | refine rd_lcR1 ?_
  | refine rd_lcR2 ?_
  | refine rd_lcKeys ?_
  | refine rd_lcVals ?_
  | refine rd_lcItems ?_
  | refine rd_lcZip ?_
  | refine rd_forTup ?_
  | refine rd_forLst ?_
  | refine rd_forR1 ?_
  | refine rd_forR2 ?_
  | refine rd_forR3 ?_
  | refine rd_forZip ?_
  | refine rd_forItems ?_
  | refine rd_lcEnumT ?_
  | refine rd_forEnumT ?_
  | refine rd_oneStr ?_
  | refine rd_mkR ?_
  | refine rd_mk0 ?_
  | refine rd_mR ?_
  | refine rd_mN ?_
  | refine rd_pr ?_
  | refine rd_cmR ?_
  | refine rd_makeC ?_
  | refine rd_tM1 ?_
  | refine rd_fmtT ?_
  | refine ⟨rd_exs, ?_⟩
  | refine rd_listZip ?_
  | refine rd_lenSetS ?_
  | refine rd_sfld ?_
  | refine rd_jc ?_
  | refine rd_jn ?_
  | refine rd_par ?_
  | refine rd_par3 ?_
  | refine rd_dupd ?_
  | refine rd_disp ?_
  | refine rd_pc ?_
  | refine rd_pn ?_
  | refine rd_dni ?_
  | refine rd_dget ?_
  | refine rd_dget2 ?_
  | refine rd_dput ?_
  | refine rd_T ?_
  | refine rd_F ?_
  | refine rd_nT ?_
  | refine rd_nF ?_))
abbrev DcG (J : It) (g : TG) (tt : TT) (tk tv : TE) (vs : List Nat) (σ : L2.St) (H1 : Hp) (D : Addr) (Qd : Hp → Prop) : Prop :=
  ∃ W : Nat → Nat → Hp → Prop, (∃ m, W 0 m (upd H1 D (.dK []))) ∧ ∀ i m H, W i m H →
  (J.stop i H ∧ Qd H) ∨ (J.go i H ∧ ∃ Nx : Hp → Prop, (∀ H', Nx H' → ∃ m', m' < m ∧ W (i + 1) m' H') ∧ ∀ x H', J.yld i H x H' → g x (wipe σ vs) H' fun σ2 H2 => wipe σ2 vs = wipe σ vs ∧ tt σ2 H2 fun b H3 =>
    if b = true then tk σ2 H3 fun y H4 => tv σ2 H4 fun z H5 => ∃ kvs k, y = kV k ∧ H5 D = some (.dK kvs) ∧ kvs.length < sizeLine ∧ Nx (upd H5 D (.dK (putK kvs k z))) else Nx H3)
theorem dc_it {J : It} {n : Nat} {G : Hp → Prop} {Y : Nat → Hp → V → Hp → Prop} {g : TG} {tt : TT} {tk tv : TE} {vs : List Nat} {σ : L2.St} {H1 : Hp} {D : Addr} {Qd : Hp → Prop} (w : Walk J n G Y) (R : Nat → Hp → Prop) (h0 : R 0 (upd H1 D (.dK []))) (hG : ∀ i H, i ≤ n → R i H → G H)
    (hs : ∀ i x H H', i < n → R i H → Y i H x H' → g x (wipe σ vs) H' fun σ2 H2 => wipe σ2 vs = wipe σ vs ∧ tt σ2 H2 fun b H3 =>
      if b = true then tk σ2 H3 fun y H4 => tv σ2 H4 fun z H5 => ∃ kvs k, y = kV k ∧ H5 D = some (.dK kvs) ∧ kvs.length < sizeLine ∧ R (i + 1) (upd H5 D (.dK (putK kvs k z))) else R (i + 1) H3)
    (hd : ∀ H, R n H → Qd H) : DcG J g tt tk tv vs σ H1 D Qd := by
  refine ⟨fun i m H => m = n - i ∧ i ≤ n ∧ R i H, ⟨n, rfl, Nat.zero_le _, h0⟩, fun i m H ⟨hm, hi, r⟩ => ?_⟩
  rcases Nat.lt_or_ge i n with h | h
  · refine .inr ⟨w.goes i H h (hG i H hi r), R (i + 1), fun H' r' => ⟨n - (i + 1), by omega, rfl, h, r'⟩, fun x H' y => ?_⟩
    exact hs i x H H' h r (w.yields i H x H' h (hG i H hi r) y)
  · have e : i = n := by omega
    subst e
    exact .inl ⟨w.stops H (hG i H hi r), hd H r⟩
section
variable {K : PySem.W.Frag} {σ : L2.St} {H : Hp} {Q : VK} {td tl : TE} {tt : TT} {g : TG} {vs : List Nat} {tk tv : TE}
theorem rd_dcLst (h : tl σ H fun x H1 => ∃ a, x = .ref a ∧ (∃ xs, SqL K H1 a xs) ∧ ∀ D, H1 D = none → DcG (Itl K a) g tt tk tv vs σ H1 D (Q (.ref D))) : tDc (iList K tl) g tt tk tv vs σ H Q := h
theorem rd_dcTup (h : tl σ H fun x H1 => ∃ a, x = .ref a ∧ (∃ xs, SqT K H1 a xs) ∧ ∀ D, H1 D = none → DcG (Itt K a) g tt tk tv vs σ H1 D (Q (.ref D))) : tDc (iTup K tl) g tt tk tv vs σ H Q := h
theorem rd_dcItems (h : td σ H fun x H1 => ∃ d o kvs, x = .ref d ∧ H1 d = some (.frz o (.dK kvs)) ∧ ∀ D, H1 D = none → DcG (Iti d o kvs) g tt tk tv vs σ H1 D (Q (.ref D))) : tDc (iItems td) g tt tk tv vs σ H Q := h
end
/-- a row of a dict of words -/
abbrev kvN (n : Nd) : Key × V := (.inr n.1, vI n.2)
abbrev NodK (F : List Nd) : Prop := (F.map (·.1)).Nodup
theorem inr_inj {a b : Str} (h : (Sum.inr a : Key) = .inr b) : a = b := Sum.inr.inj h
theorem valV_in : ∀ {F : List Nd} {n : Nd}, NodK F → n ∈ F → valV (F.map kvN) (.inr n.1) = some (vI n.2)
  | m :: F, n, h, hn => by
    rw [List.map_cons]
    rcases List.mem_cons.mp hn with e | e
    · subst e
      rw [valV_pos (by rfl)]
    · have h' := List.nodup_cons.mp h
      rw [valV_neg (fun q => h'.1 ?_)]
      · exact valV_in h'.2 e
      · exact List.mem_map.mpr ⟨n, e, (inr_inj q).symm⟩
theorem valV_out : ∀ {F : List Nd} {z : Str}, z ∉ F.map (·.1) → valV (F.map kvN) (.inr z) = none
  | [], z, _ => rfl
  | m :: F, z, h => by
    rw [List.map_cons, valV_neg (fun q => h ?_)]
    · exact valV_out fun q => h (List.mem_cons_of_mem _ q)
    · rw [List.map_cons, ← inr_inj q]
      exact List.mem_cons_self
theorem putK_out {F : List Nd} {n : Nd} (h : n.1 ∉ F.map (·.1)) : putK (F.map kvN) (.inr n.1) (vI n.2) = (F ++ [n]).map kvN := by
  unfold putK
  rw [if_neg, List.map_append]
  · rfl
  · intro q
    obtain ⟨kv, hkv, e⟩ := List.any_eq_true.mp q
    obtain ⟨m, hm, rfl⟩ := List.mem_map.mp hkv
    have := inr_inj (of_decide_eq_true e)
    exact h (List.mem_map.mpr ⟨m, hm, this⟩)
theorem putK_in {F : List Nd} {n : Nd} (hF : NodK F) (h : n ∈ F) : putK (F.map kvN) (.inr n.1) (vI n.2) = F.map kvN := by
  unfold putK
  rw [if_pos, List.map_map]
  · refine List.map_congr_left fun m hm => ?_
    show (if (Sum.inr m.1 : Key) = .inr n.1 then ((Sum.inr m.1 : Key), vI n.2) else kvN m) = kvN m
    split
    · rename_i e
      have e1 := inr_inj e
      have : m = n := by
        have h1 := valV_in hF hm
        have h2 := valV_in hF h
        rw [e1, h2] at h1
        have h3 : ((n.2 : Nat) : Int) = (m.2 : Nat) := by simpa using h1
        have : n.2 = m.2 := by omega
        exact Prod.ext e1 this.symm
      rw [this]
    · rfl
  · exact List.any_eq_true.mpr ⟨kvN n, List.mem_map.mpr ⟨n, h, rfl⟩, decide_eq_true rfl⟩
theorem perm_map_inv {α β : Type} {f : α → β} : ∀ {ys : List β} {S : List α}, ys.Perm (S.map f) → ∃ S' : List α, S'.Perm S ∧ ys = S'.map f
  | [], S, h => by
    have := h.length_eq
    rw [List.length_map] at this
    have : S = [] := List.length_eq_zero_iff.mp this.symm
    subst this
    exact ⟨[], .refl _, rfl⟩
  | y :: ys, S, h => by
    obtain ⟨s, hs, rfl⟩ := List.mem_map.mp (h.subset List.mem_cons_self)
    obtain ⟨A, B, rfl⟩ := List.append_of_mem hs
    have h2 : (f s :: ys).Perm (f s :: (A ++ B).map f) := h.trans (by
      rw [List.map_append, List.map_cons, List.map_append]
      exact List.perm_middle)
    obtain ⟨S', p, rfl⟩ := perm_map_inv (h2.cons_inv)
    exact ⟨s :: S', (p.cons s).trans List.perm_middle.symm, rfl⟩
theorem sorted_r {K : PySem.W.Frag} {H : Hp} {Q : VK} {a : Addr} {xs : List Str} (h : SqL K H a (xs.map V.str)) (hz : xs.length < 64) (k : ∀ (ys : List Str) (p : Addr), ys.Perm xs → sortedS ys = true → H p = none → Q (.ref p) (upd H p (.lst (ys.map V.str)))) : rSortedS K [.ref a] H Q := ⟨a, xs, rfl, h, hz, k⟩
theorem rd_listD {H : Hp} {Q : VK} {a : Addr} {kvs : List (Key × V)} (h : H a = some (.dK kvs)) (k : ∀ q, H q = none → Q (.ref q) (upd H q (.lst (kvs.map fun kv => kV kv.1)))) : rListD [.ref a] H Q := ⟨a, kvs, rfl, h, k⟩
theorem dgetS {H : Hp} {a : Addr} {kvs : List (Key × V)} {z : Str} {o : Option V} (h : H a = some (.dK kvs)) (e : valV kvs (.inr z) = o) : DGet H a (.str z) o := e ▸ DGet.k (k := .inr z) h
theorem dputS {H : Hp} {a : Addr} {kvs : List (Key × V)} {z : Str} {v : V} (h : H a = some (.dK kvs)) (hz : kvs.length < sizeLine) : DPut H a (.str z) v (upd H a (.dK (putK kvs (.inr z) v))) := .inl ⟨kvs, .inr z, h, rfl, hz, rfl⟩
end FN
set_option maxHeartbeats 4000000
namespace FN
open PySem PySem.Spec PyProof.Rows L2
local macro_rules | `(tactic| walk_at "w") => `(tactic| repeat (with_reducible first
  | refine rd_seq ?_
  | refine rd_asg ?_
  | refine rd_name ?_
  | refine rd_ret ?_
  | refine rd_drop ?_
  | refine rd_if ?_
  | refine rd_next ?_
  | refine rd_var (by k_dflt rfl) ?_
  | refine rd_c ?_
  | refine rd_op ?_
  | refine rd_un ?_
  | refine rd_test ?_
  | refine rd_B ?_
  | refine rd_I0 ?_
  | refine rd_U ?_
  | refine rd_eqI ?_
  | refine rd_neI ?_
  | refine rd_eqS ?_
  | refine rd_neS ?_
  | refine rd_and ?_
  | refine rd_or ?_
  | refine rd_not ?_
  | refine rd_andV ?_
  | refine rd_orV ?_
  | refine rd_notV ?_
  | refine rd_ife ?_
  | refine rd_chain ?_
  | refine rd_exb ?_
  | refine rd_exi ?_
  | refine rd_nil ?_
  | refine rd_cons ?_
  | refine rd_CB ?_
  | refine rd_G ?_
  | refine rd_fld ?_
  | refine rd_sl ?_
  | refine rd_part ?_
  | refine rd_noPart ?_
  | refine rd_leaf ?_
  | refine rd_tup ?_
  | refine rd_lst ?_
  | refine rd_star ?_
  | refine rd_bm ?_
  | refine rd_bm0 ?_
  | refine rd_gsub ?_
  | refine rd_rev ?_
  | refine rd_gnil ?_
  | refine rd_gcons ?_
  | refine rd_yes ?_
  | refine rd_abs ?_
  | refine rd_max2 ?_
  | refine rd_min2 ?_
  | refine rd_int1 ?_
  | refine rd_int1b ?_
  | refine rd_inSign ?_
  | refine rd_niSign ?_
  | refine rd_isN ?_
  | refine rd_ntN ?_
  | refine rd_dcLst ?_
  | refine rd_dcTup ?_
  | refine rd_dcItems ?_
  | refine rd_lcTup ?_
  | refine rd_lcLst ?_
  | refine rd_lcStr ?_
  | refine rd_lcR1 ?_
  | refine rd_lcR2 ?_
  | refine rd_lcKeys ?_
  | refine rd_lcVals ?_
  | refine rd_lcItems ?_
  | refine rd_lcZip ?_
  | refine rd_forTup ?_
  | refine rd_forLst ?_
  | refine rd_forR1 ?_
  | refine rd_forR2 ?_
  | refine rd_forR3 ?_
  | refine rd_forZip ?_
  | refine rd_forItems ?_
  | refine rd_lcEnumT ?_
  | refine rd_forEnumT ?_
  | refine rd_oneStr ?_
  | refine rd_mkR ?_
  | refine rd_mk0 ?_
  | refine rd_mR ?_
  | refine rd_mN ?_
  | refine rd_pr ?_
  | refine rd_cmR ?_
  | refine rd_makeC ?_
  | refine rd_tM1 ?_
  | refine rd_fmtT ?_
  | refine ⟨rd_exs, ?_⟩
  | refine rd_listZip ?_
  | refine rd_lenSetS ?_
  | refine rd_sfld ?_
  | refine rd_jc ?_
  | refine rd_jn ?_
  | refine rd_par ?_
  | refine rd_par3 ?_
  | refine rd_dupd ?_
  | refine rd_disp ?_
  | refine rd_pc ?_
  | refine rd_pn ?_
  | refine rd_dni ?_
  | refine rd_dget ?_
  | refine rd_dget2 ?_
  | refine rd_dput ?_
  | refine rd_T ?_
  | refine rd_F ?_
  | refine rd_nT ?_
  | refine rd_nF ?_))
theorem take_succ_get {α : Type} {l : List α} {i : Nat} {x : α} (h : l[i]? = some x) : l.take (i + 1) = l.take i ++ [x] := by rw [List.take_succ, h]; rfl
section
variable {P : Program} {w : World} {K : PySem.W.Frag} {mg : Str → Option Value} {base : Heap} {C : Ad}
def sp_ascending_rows : Sp := fun vs H Q _ => ∃ (a : Addr) (S : List Nd), vs = [.ref a] ∧ H a = some (.dK (S.map kvN)) ∧ NodK S ∧ S.length < 64 ∧ ∀ (p : Addr) (H' : Hp) (S' : List Nd), S'.Perm S → sortedS (S'.map (·.1)) = true → Same H H' → H' p = some (.dK (S'.map kvN)) → Q (.ref p) H'
theorem ok_ascending_rows (T : Ty K mg C) : Gf P w K mg base "ascending_rows" 1 sp_ascending_rows := by
  refine T.d_ascending_rows.ok sc_ascending_rows (fun vs H Q E h => ?_) (fun f cdv A outer s H vs Q E hr h => ?_)
  · obtain ⟨a, S, rfl, _⟩ := h
    rfl
  obtain ⟨a, S, rfl, ha, hn, hz, k⟩ := h
  refine ⟨_, (pss_one (ps_ret (pe_dc rfl sc_ascending_rows.nd (pi_list (pe_callB cr_sortedS rfl T.f_sorted (by decide +kernel) (pa_cons (pe_callTy (call_list_dK rfl) rfl T.f_list (by decide +kernel) (pa_cons (pv 0) pa_nil)) pa_nil))) (blkOk_by (own := [("word", 1)]) (N := ["rows", "word"]) (sc := defScope s_ascending_rows) (by decide +kernel)) (fun _ _ _ _ _ => (pg_name (i := 1) sc_ascending_rows.nd rfl (Or.inl rfl))) (fun _ _ _ _ _ => pts_nil) (fun _ _ _ _ _ => (pv 1)) (fun _ _ _ _ _ => (pe_dget (hu1 hr) (pv 0) (pv 1) (fun _ _ => rfl)))))), ?_⟩
  try dsimp only [nox_K]
  refine rd_st (σ' := [some (.ref a), none]) rfl ?_
  walk_at "w"
  refine rd_listD ha fun l hl => ?_
  walk_at "w"
  have hS : (S.map kvN).map (fun kv => kV kv.1) = (S.map (·.1)).map V.str := by rw [List.map_map, List.map_map]; rfl
  rw [hS]
  have g1 := same_new hl (.lst ((S.map (·.1)).map V.str))
  refine sorted_r (SqL.of upd_same) (by rw [List.length_map]; exact hz) fun ys q hp hs hq => ?_
  walk_at "w"
  obtain ⟨S', hS', rfl⟩ := perm_map_inv hp
  have hn' : NodK S' := (hp.nodup_iff).mpr hn
  have g2 := same_new hq (.lst ((S'.map (·.1)).map V.str))
  refine ⟨_, rfl, ⟨_, SqL.of upd_same⟩, fun D hD => ?_⟩
  have g := g1.trans g2
  have hD0 : H D = none := g.free hD
  have hqD : q ≠ D := ne_of_none upd_same hD
  refine dc_it walk_list (fun i H' => Same H H' ∧ H' q = some (.lst ((S'.map (·.1)).map V.str)) ∧ H' D = some (.dK ((S'.take i).map kvN))) ?_ (fun i H' _ r => SqL.of r.2.1) ?_ ?_
  · exact ⟨g.trans (same_new hD _), by rw [upd_ne hqD, upd_same], by rw [upd_same]; rfl⟩
  · rintro i x H1 H2 hi ⟨r1, r2, r3⟩ ⟨rfl, hx⟩
    rw [List.getElem?_map, List.getElem?_map] at hx
    obtain ⟨n, hn1, rfl⟩ : ∃ n, S'[i]? = some n ∧ x = V.str n.1 := by
      cases e : S'[i]? with
      | none => rw [e] at hx; cases hx
      | some n => rw [e] at hx; exact ⟨n, rfl, by simpa using hx.symm⟩
    walk_at "w"
    refine ⟨rfl, ?_⟩
    walk_at "w"
    have hin : n ∈ S := hS'.subset (List.mem_of_getElem? hn1)
    refine ⟨a, vI n.2, rfl, dgetS (r1 _ _ ha) (valV_in hn hin), _, .inr n.1, rfl, r3, ?_, ?_⟩
    · rw [List.length_map, List.length_take]
      exact smallL (by have := hS'.length_eq; omega)
    · have hout : n.1 ∉ (S'.take i).map (·.1) := by
        intro hm
        have hd : S' = S'.take i ++ n :: S'.drop (i + 1) := by
          have hlt := (List.getElem?_eq_some_iff.mp hn1).1
          have := List.drop_eq_getElem_cons hlt
          have e2 : S'[i] = n := (List.getElem?_eq_some_iff.mp hn1).2
          rw [e2] at this
          rw [← this, List.take_append_drop]
        unfold NodK at hn'
        rw [hd, List.map_append, List.map_cons] at hn'
        have := (List.nodup_append.mp hn').2.2
        exact this n.1 hm n.1 List.mem_cons_self rfl
      rw [putK_out hout, ← take_succ_get hn1]
      exact ⟨same_mut r1 hD0, by rw [upd_ne hqD]; exact r2, upd_same⟩
  · rintro H1 ⟨r1, r2, r3⟩
    rw [List.length_map, List.length_map, List.take_length] at r3
    exact k D H1 S' hS' hs r1 r3
/-- symbols as the law draws them -/
structure SG (S : List Nd) : Prop where
  nod : NodK S
  len : 1 ≤ S.length ∧ S.length ≤ 8
  row : ∀ n ∈ S, ∃ c, n.1 = s1 c ∧ c ∈ LET ∧ n.2 ≤ 3
  zero : ∃ z r, S = (z, 0) :: r
def sp_is_symbols : Sp := fun vs H Q _ => ∃ (a : Addr) (S : List Nd), vs = [.ref a] ∧ H a = some (.dK (S.map kvN)) ∧ SG S ∧ ∀ H', Same H H' → Q (.bl true) H'
theorem ok_is_symbols (T : Ty K mg C) : Gf P w K mg base "is_symbols" 3 sp_is_symbols := by
  have G_is_within := ok_is_within (P := P) (w := w) (base := base) T.toTx
  have G_is_word := ok_is_word (P := P) (w := w) (base := base) T.toTx
  refine T.d_is_symbols.ok sc_is_symbols (fun vs H Q E h => ?_) (fun f cdv A outer s H vs Q E hr h => ?_)
  · obtain ⟨a, S, rfl, _⟩ := h
    rfl
  obtain ⟨a, S, rfl, ha, hS, k⟩ := h
  refine ⟨_, (pss_cons (ps_if (PW.pt (pw_or (pt_not (pt_val (pe_callB call_isi rfl T.f_isinstance (by decide +kernel) (pa_cons (pv 0) (pa_cons (pe_bltn (v := .ty "dict") rfl T.f_dict (by decide +kernel) rfl) pa_nil))))) (pw_or (pt_not (pt_chain op_le op_le pe_int (pe_callB c_lenD rfl T.f_len PySem.boot_len (pa_cons (pv 0) pa_nil)) (pe_gI T.c_MAX_SYMBOLS))) (pw_or1 (pt_not (pt_val (pe_callB (cr_all rfl) rfl T.f_all (by decide +kernel) (pa_cons (pe_lock (pe_lc (own := [("word", 2)]) rfl sc_is_symbols.nd (pi_keys (pv 0)) (blkOk_by (own := [("word", 2)]) (N := ["value", "arity", "word"]) (sc := defScope s_is_symbols) (by decide +kernel)) (fun _ _ _ _ _ => (pg_name (i := 2) sc_is_symbols.nd rfl (Or.inl rfl))) (fun _ _ _ _ _ => pts_nil) (fun _ _ _ _ _ => (pe_g G_is_word (hr.mono (by decide)) (pa_cons (pv 2) pa_nil))))) pa_nil)))))))) (pss_one (ps_ret pe_bl)) pss_nil)
    (pss_one (ps_ret (pe_and (pe_callB (cr_all rfl) rfl T.f_all (by decide +kernel) (pa_cons (pe_lock (pe_lc (own := [("arity", 1)]) rfl sc_is_symbols.nd (pi_values (pv 0)) (blkOk_by (own := [("arity", 1)]) (N := ["value", "arity", "word"]) (sc := defScope s_is_symbols) (by decide +kernel)) (fun _ _ _ _ _ => (pg_name (i := 1) sc_is_symbols.nd rfl (Or.inl rfl))) (fun _ _ _ _ _ => pts_nil) (fun _ _ _ _ _ => (pe_g G_is_within (hr.mono (by decide)) (pa_cons (pv 1) (pa_cons pe_int (pa_cons (pe_gI T.c_MAX_ARITY) pa_nil))))))) pa_nil)) (pe_one (pe_lock (pe_inVals pe_int (pv 0)))))))), ?_⟩
  try dsimp only [nox_K]
  refine rd_st (σ' := [some (.ref a), none, none]) rfl ?_
  walk_at "w"
  refine rd_isi_dK ha (b := true) (by decide +kernel) ?_
  walk_at "w"
  refine rd_lenD ha ?_
  walk_at "w"
  have hl := hS.len
  refine rd_dT (by rw [List.length_map]; omega) ?_
  walk_at "w"
  refine rd_ndT (by rw [List.length_map]; omega) ?_
  walk_at "w"
  refine rd_lockE ha fun od => ?_
  walk_at "w"
  refine ⟨a, od, rfl, .inl ⟨_, upd_same, fun D hD => ?_⟩⟩
  refine lc_map walk_keys (fun _ y _ => y = .bl true) (by rw [List.length_map]; omega) hD nok (fun H' s => s _ _ upd_same) ?_ ?_
  · rintro i acc x H1 H2 hi hl s1 hD' r ⟨rfl, kk, vv, hx, rfl⟩
    rw [List.getElem?_map] at hx
    obtain ⟨n, hn1, e1⟩ : ∃ n, S[i]? = some n ∧ (kk, vv) = kvN n := by
      cases e : S[i]? with
      | none => rw [e] at hx; cases hx
      | some n => rw [e] at hx; exact ⟨n, rfl, by simpa using hx.symm⟩
    cases e1
    obtain ⟨c, hc, hcl, _⟩ := hS.row n (List.mem_of_getElem? hn1)
    walk_at "w"
    refine ⟨rfl, ?_⟩
    walk_at "w"
    refine ⟨c, by rw [← hc]; rfl, fun H4 s4 => ?_⟩
    rw [decide_eq_true hcl]
    exact lc_put (by have := hS.len; rw [List.length_map] at hi; omega) hl hD' hD s1 s4 nok r rfl
  · intro acc H1 s1 hD' hl1 hf
    refine ⟨s1 _ _ upd_same, ?_⟩
    walk_at "w"
    have sA := lock_same ha s1
    have hDa : D ≠ a := fun z => by subst z; rw [upd_same] at hD; cases hD
    refine rd_allT (SqL.of (show upd H1 a (.dK (S.map kvN)) D = some (.lst acc) by rw [upd_ne hDa]; exact hD')) hf ?_
    walk_at "w"
    have ha2 := sA _ _ ha
    refine rd_lockE ha2 fun od2 => ?_
    walk_at "w"
    refine ⟨a, od2, _, rfl, upd_same, fun D2 hD2 => ?_⟩
    refine lc_map walk_values (fun _ y _ => y = .bl true) (by rw [List.length_map]; omega) hD2 nok (fun H' s => s _ _ upd_same) ?_ ?_
    · rintro i acc x H3 H4 hi hl s3 hD' r ⟨rfl, kk, hx⟩
      rw [List.getElem?_map] at hx
      obtain ⟨n, hn1, e1⟩ : ∃ n, S[i]? = some n ∧ (kk, x) = kvN n := by
        cases e : S[i]? with
        | none => rw [e] at hx; cases hx
        | some n => rw [e] at hx; exact ⟨n, rfl, by simpa using hx.symm⟩
      cases e1
      obtain ⟨c, hc, hcl, h3⟩ := hS.row n (List.mem_of_getElem? hn1)
      walk_at "w"
      refine ⟨rfl, ?_⟩
      walk_at "w"
      refine ⟨_, _, _, rfl, by omega, by omega, ?_⟩
      rw [decide_eq_true (by omega)]
      exact lc_put (by have := hS.len; rw [List.length_map] at hi; omega) hl hD' hD2 s3 (Same.refl _) nok r rfl
    · intro acc2 H3 s3 hD3 hl3 hf3
      refine ⟨s3 _ _ upd_same, ?_⟩
      walk_at "w"
      have sB := lock_same ha2 s3
      have hDa2 : D2 ≠ a := fun z => by subst z; rw [upd_same] at hD2; cases hD2
      refine rd_allT (SqL.of (show upd H3 a (.dK (S.map kvN)) D2 = some (.lst acc2) by rw [upd_ne hDa2]; exact hD3)) hf3 ?_
      walk_at "w"
      have sC := sA.trans sB
      have ha4 := sC _ _ ha
      refine rd_lockE ha4 fun od3 => ?_
      refine rd_inVals ?_
      walk_at "w"
      obtain ⟨z, r, hzr⟩ := hS.zero
      have e4 : S.map kvN = (Sum.inr z, vI 0) :: r.map kvN := by rw [hzr]; rfl
      refine ⟨a, od3, 0, .inr z, r.map kvN, rfl, rfl, by rw [upd_same, e4]; rfl, upd_same, ?_⟩
      exact k _ (sC.trans (lock_same ha4 (Same.refl _)))
end
end FN
set_option maxHeartbeats 4000000
namespace FN
open PySem PySem.Spec PyProof.Rows L2
local macro_rules | `(tactic| walk_at "w") => `(tactic| repeat (with_reducible first
  | refine rd_seq ?_
  | refine rd_asg ?_
  | refine rd_name ?_
  | refine rd_ret ?_
  | refine rd_drop ?_
  | refine rd_if ?_
  | refine rd_next ?_
  | refine rd_var (by k_dflt rfl) ?_
  | refine rd_c ?_
  | refine rd_op ?_
  | refine rd_un ?_
  | refine rd_test ?_
  | refine rd_B ?_
  | refine rd_I0 ?_
  | refine rd_U ?_
  | refine rd_eqI ?_
  | refine rd_neI ?_
  | refine rd_eqS ?_
  | refine rd_neS ?_
  | refine rd_and ?_
  | refine rd_or ?_
  | refine rd_not ?_
  | refine rd_andV ?_
  | refine rd_orV ?_
  | refine rd_notV ?_
  | refine rd_ife ?_
  | refine rd_chain ?_
  | refine rd_exb ?_
  | refine rd_exi ?_
  | refine rd_nil ?_
  | refine rd_cons ?_
  | refine rd_CB ?_
  | refine rd_G ?_
  | refine rd_fld ?_
  | refine rd_sl ?_
  | refine rd_part ?_
  | refine rd_noPart ?_
  | refine rd_leaf ?_
  | refine rd_tup ?_
  | refine rd_lst ?_
  | refine rd_star ?_
  | refine rd_bm ?_
  | refine rd_bm0 ?_
  | refine rd_gsub ?_
  | refine rd_rev ?_
  | refine rd_gnil ?_
  | refine rd_gcons ?_
  | refine rd_yes ?_
  | refine rd_abs ?_
  | refine rd_max2 ?_
  | refine rd_min2 ?_
  | refine rd_int1 ?_
  | refine rd_int1b ?_
  | refine rd_inSign ?_
  | refine rd_niSign ?_
  | refine rd_isN ?_
  | refine rd_ntN ?_
  | refine rd_dcLst ?_
  | refine rd_dcTup ?_
  | refine rd_dcItems ?_
  | refine rd_lcTup ?_
  | refine rd_lcLst ?_
  | refine rd_lcStr ?_
  | refine rd_lcR1 ?_
  | refine rd_lcR2 ?_
  | refine rd_lcKeys ?_
  | refine rd_lcVals ?_
  | refine rd_lcItems ?_
  | refine rd_lcZip ?_
  | refine rd_forTup ?_
  | refine rd_forLst ?_
  | refine rd_forR1 ?_
  | refine rd_forR2 ?_
  | refine rd_forR3 ?_
  | refine rd_forZip ?_
  | refine rd_forItems ?_
  | refine rd_lcEnumT ?_
  | refine rd_forEnumT ?_
  | refine rd_oneStr ?_
  | refine rd_mkR ?_
  | refine rd_mk0 ?_
  | refine rd_mR ?_
  | refine rd_mN ?_
  | refine rd_pr ?_
  | refine rd_cmR ?_
  | refine rd_makeC ?_
  | refine rd_tM1 ?_
  | refine rd_fmtT ?_
  | refine ⟨rd_exs, ?_⟩
  | refine rd_listZip ?_
  | refine rd_lenSetS ?_
  | refine rd_sfld ?_
  | refine rd_jc ?_
  | refine rd_jn ?_
  | refine rd_par ?_
  | refine rd_par3 ?_
  | refine rd_dupd ?_
  | refine rd_disp ?_
  | refine rd_pc ?_
  | refine rd_pn ?_
  | refine rd_dni ?_
  | refine rd_dget ?_
  | refine rd_dget2 ?_
  | refine rd_dput ?_
  | refine rd_T ?_
  | refine rd_F ?_
  | refine rd_nT ?_
  | refine rd_nF ?_))
open PySem.PyData in
mutual
/-- ints, texts, tuples of these: == is equality -/
def pd : PyData → Bool
  | .int _ => true
  | .str _ => true
  | .tuple xs => pdAll xs
  | _ => false
def pdAll : List PyData → Bool
  | [] => true
  | x :: xs => pd x && pdAll xs
end
mutual
theorem pd_eqv : ∀ (d e : PyData), pd d = true → pd e = true → (PyData.eqv d e = true ↔ d = e)
  | .int i, .int j, _, _ => by simp [PyData.eqv]
  | .str i, .str j, _, _ => by simp [PyData.eqv]
  | .tuple xs, .tuple ys, h, k => by
    simp only [pd] at h k
    simp only [PyData.eqv, PyData.tuple.injEq]
    exact pd_eqvAll xs ys h k
  | .int i, .str j, _, _ => by simp [PyData.eqv]
  | .int i, .tuple j, _, _ => by simp [PyData.eqv]
  | .str i, .int j, _, _ => by simp [PyData.eqv]
  | .str i, .tuple j, _, _ => by simp [PyData.eqv]
  | .tuple i, .int j, _, _ => by simp [PyData.eqv]
  | .tuple i, .str j, _, _ => by simp [PyData.eqv]
  | .none, _, h, _ => by simp [pd] at h
  | .bool _, _, h, _ => by simp [pd] at h
  | .list _, _, h, _ => by simp [pd] at h
  | .dict _, _, h, _ => by simp [pd] at h
  | .int _, .none, _, h => by simp [pd] at h
  | .int _, .bool _, _, h => by simp [pd] at h
  | .int _, .list _, _, h => by simp [pd] at h
  | .int _, .dict _, _, h => by simp [pd] at h
  | .str _, .none, _, h => by simp [pd] at h
  | .str _, .bool _, _, h => by simp [pd] at h
  | .str _, .list _, _, h => by simp [pd] at h
  | .str _, .dict _, _, h => by simp [pd] at h
  | .tuple _, .none, _, h => by simp [pd] at h
  | .tuple _, .bool _, _, h => by simp [pd] at h
  | .tuple _, .list _, _, h => by simp [pd] at h
  | .tuple _, .dict _, _, h => by simp [pd] at h
theorem pd_eqvAll : ∀ (xs ys : List PyData), pdAll xs = true → pdAll ys = true → (PyData.eqvAll xs ys = true ↔ xs = ys)
  | [], [], _, _ => by simp [PyData.eqvAll]
  | [], _ :: _, _, _ => by simp [PyData.eqvAll]
  | _ :: _, [], _, _ => by simp [PyData.eqvAll]
  | x :: xs, y :: ys, h, k => by
    simp only [pdAll, Bool.and_eq_true] at h k
    simp only [PyData.eqvAll, Bool.and_eq_true, List.cons.injEq]
    rw [pd_eqv x y h.1 k.1, pd_eqvAll xs ys h.2 k.2]
end
theorem pdAll_of : ∀ {xs : List PyData}, (∀ x ∈ xs, pd x = true) → pdAll xs = true
  | [], _ => rfl
  | x :: xs, h => by rw [pdAll, h x List.mem_cons_self, pdAll_of fun y hy => h y (List.mem_cons_of_mem _ hy)]; rfl
theorem canAll_of : ∀ {xs : List PyData}, (∀ x ∈ xs, PyData.canLay0 x = true) → PyData.canLayAll0 xs = true
  | [], _ => by simp only [PyData.canLayAll0]
  | x :: xs, h => by simp only [PyData.canLayAll0]; rw [h x List.mem_cons_self, canAll_of fun y hy => h y (List.mem_cons_of_mem _ hy)]; rfl
theorem depthAll_of {n : Nat} : ∀ {xs : List PyData}, (∀ x ∈ xs, PyData.depth x ≤ n) → PyData.depthAll xs ≤ n
  | [], _ => by simp only [PyData.depthAll]; omega
  | x :: xs, h => by
    have h1 := h x List.mem_cons_self
    have h2 := depthAll_of fun y hy => h y (List.mem_cons_of_mem _ hy)
    simp only [PyData.depthAll]; omega
theorem pd_nd (n : Nd) : pd (ndD n) = true := by simp [ndD, pd, pdAll]
theorem pd_nodes (ns : List Nd) : pd (nodesD ns) = true := by
  unfold nodesD
  simp only [pd]
  refine pdAll_of fun x hx => ?_
  obtain ⟨n, _, rfl⟩ := List.mem_map.mp hx
  exact pd_nd n
theorem pd_ints (ns : List Nat) : pd (intsD ns) = true := by
  unfold intsD
  simp only [pd]
  refine pdAll_of fun x hx => ?_
  obtain ⟨n, _, rfl⟩ := List.mem_map.mp hx
  rfl
/-- texts as they may stand in data -/
def Wok (ns : List Nd) : Prop := ∀ n ∈ ns, PyData.strOk n.1 = true
theorem can_nd {n : Nd} (h : PyData.strOk n.1 = true) : PyData.canLay0 (ndD n) = true := by simp [ndD, PyData.canLay0, PyData.canLayAll0, h]
theorem depth_nd (n : Nd) : PyData.depth (ndD n) ≤ 1 := by simp [ndD, PyData.depth, PyData.depthAll]
theorem shaped_of {d : PyData} (h : PyData.canLay0 d = true) (h2 : PyData.depth d ≤ 64) : SeqAt.shaped d = true := by
  unfold SeqAt.shaped
  rw [h, decide_eq_true h2]; rfl
theorem shaped_nd {n : Nd} (h : PyData.strOk n.1 = true) : SeqAt.shaped (ndD n) = true := shaped_of (can_nd h) (Nat.le_trans (depth_nd n) (by decide))
theorem shaped_nodes {ns : List Nd} (h : Wok ns) : SeqAt.shaped (nodesD ns) = true := by
  refine shaped_of ?_ ?_
  · unfold nodesD
    simp only [PyData.canLay0]
    refine canAll_of fun x hx => ?_
    obtain ⟨n, hn, rfl⟩ := List.mem_map.mp hx
    exact can_nd (h n hn)
  · unfold nodesD
    simp only [PyData.depth]
    have := depthAll_of (n := 1) (xs := ns.map ndD) (fun x hx => by
      obtain ⟨n, hn, rfl⟩ := List.mem_map.mp hx
      exact depth_nd n)
    omega
theorem shaped_ints {ns : List Nat} : SeqAt.shaped (intsD ns) = true := by
  refine shaped_of ?_ ?_
  · unfold intsD
    simp only [PyData.canLay0]
    refine canAll_of fun x hx => ?_
    obtain ⟨n, hn, rfl⟩ := List.mem_map.mp hx
    simp [iD, PyData.canLay0]
  · unfold intsD
    simp only [PyData.depth]
    have := depthAll_of (n := 0) (xs := ns.map iD) (fun x hx => by
      obtain ⟨n, hn, rfl⟩ := List.mem_map.mp hx
      simp [iD, PyData.depth])
    omega
theorem ndD_inj {a b : Nd} (h : ndD a = ndD b) : a = b := by
  simp only [ndD, PyData.tuple.injEq, List.cons.injEq, PyData.str.injEq, PyData.int.injEq] at h
  obtain ⟨h1, h2, _⟩ := h
  exact Prod.ext h1 (by omega)
theorem map_inj' {α β : Type} {f : α → β} (hf : ∀ a b, f a = f b → a = b) : ∀ {xs ys : List α}, xs.map f = ys.map f → xs = ys
  | [], [], _ => rfl
  | [], _ :: _, h => by simp at h
  | _ :: _, [], h => by simp at h
  | x :: xs, y :: ys, h => by
    rw [List.map_cons, List.map_cons, List.cons.injEq] at h
    rw [hf _ _ h.1, map_inj' hf h.2]
theorem nodesD_inj {a b : List Nd} (h : nodesD a = nodesD b) : a = b := map_inj' (fun _ _ => ndD_inj) (PyData.tuple.inj h)
theorem intsD_inj {a b : List Nat} (h : intsD a = intsD b) : a = b := map_inj' (fun a b h => by have := PyData.int.inj h; omega) (PyData.tuple.inj h)
theorem eqv_nd (a b : Nd) : PyData.eqv (ndD a) (ndD b) = decide (a = b) := by
  rw [Bool.eq_iff_iff, pd_eqv _ _ (pd_nd a) (pd_nd b), decide_eq_true_iff]
  exact ⟨ndD_inj, fun h => by rw [h]⟩
theorem eqv_nodes (a b : List Nd) : PyData.eqv (nodesD a) (nodesD b) = decide (a = b) := by
  rw [Bool.eq_iff_iff, pd_eqv _ _ (pd_nodes a) (pd_nodes b), decide_eq_true_iff]
  exact ⟨nodesD_inj, fun h => by rw [h]⟩
theorem eqv_ints (a b : List Nat) : PyData.eqv (intsD a) (intsD b) = decide (a = b) := by
  rw [Bool.eq_iff_iff, pd_eqv _ _ (pd_ints a) (pd_ints b), decide_eq_true_iff]
  exact ⟨intsD_inj, fun h => by rw [h]⟩
section
variable {K : PySem.W.Frag} {H : Hp} {Q : VK}
theorem rd_eqNd {x y : V} {a b : Nd} (hx : Tp K H x (ndD a)) (hy : Tp K H y (ndD b)) (h1 : PyData.strOk a.1 = true) (h2 : PyData.strOk b.1 = true) (k : Q (.bl (decide (a = b))) H) : rEqD K x y H Q := ⟨_, _, hx.dp, hy.dp, shaped_nd h1, shaped_nd h2, by rw [eqv_nd]; exact k⟩
theorem rd_neNd {x y : V} {a b : Nd} (hx : Tp K H x (ndD a)) (hy : Tp K H y (ndD b)) (h1 : PyData.strOk a.1 = true) (h2 : PyData.strOk b.1 = true) (k : Q (.bl (!decide (a = b))) H) : rNeD K x y H Q := ⟨_, _, hx.dp, hy.dp, shaped_nd h1, shaped_nd h2, by rw [eqv_nd]; exact k⟩
theorem rd_eqNs {x y : V} {a b : List Nd} (hx : Tp K H x (nodesD a)) (hy : Tp K H y (nodesD b)) (h1 : Wok a) (h2 : Wok b) (k : Q (.bl (decide (a = b))) H) : rEqD K x y H Q := ⟨_, _, hx.dp, hy.dp, shaped_nodes h1, shaped_nodes h2, by rw [eqv_nodes]; exact k⟩
theorem rd_neNs {x y : V} {a b : List Nd} (hx : Tp K H x (nodesD a)) (hy : Tp K H y (nodesD b)) (h1 : Wok a) (h2 : Wok b) (k : Q (.bl (!decide (a = b))) H) : rNeD K x y H Q := ⟨_, _, hx.dp, hy.dp, shaped_nodes h1, shaped_nodes h2, by rw [eqv_nodes]; exact k⟩
theorem rd_eqIs {x y : V} {a b : List Nat} (hx : Tp K H x (intsD a)) (hy : Tp K H y (intsD b)) (k : Q (.bl (decide (a = b))) H) : rEqD K x y H Q := ⟨_, _, hx.dp, hy.dp, shaped_ints, shaped_ints, by rw [eqv_ints]; exact k⟩
theorem rd_neIs {x y : V} {a b : List Nat} (hx : Tp K H x (intsD a)) (hy : Tp K H y (intsD b)) (k : Q (.bl (!decide (a = b))) H) : rNeD K x y H Q := ⟨_, _, hx.dp, hy.dp, shaped_ints, shaped_ints, by rw [eqv_ints]; exact k⟩
end
end FN
set_option maxHeartbeats 4000000
namespace FN
open PySem PySem.Spec PyProof.Rows L2
local macro_rules | `(tactic| walk_at "w") => `(tactic| repeat (with_reducible first
  | refine rd_seq ?_
  | refine rd_asg ?_
  | refine rd_name ?_
  | refine rd_ret ?_
  | refine rd_drop ?_
  | refine rd_if ?_
  | refine rd_next ?_
  | refine rd_var (by k_dflt rfl) ?_
  | refine rd_c ?_
  | refine rd_op ?_
  | refine rd_un ?_
  | refine rd_test ?_
  | refine rd_B ?_
  | refine rd_I0 ?_
  | refine rd_U ?_
  | refine rd_eqI ?_
  | refine rd_neI ?_
  | refine rd_eqS ?_
  | refine rd_neS ?_
  | refine rd_and ?_
  | refine rd_or ?_
  | refine rd_not ?_
  | refine rd_andV ?_
  | refine rd_orV ?_
  | refine rd_notV ?_
  | refine rd_ife ?_
  | refine rd_chain ?_
  | refine rd_exb ?_
  | refine rd_exi ?_
  | refine rd_nil ?_
  | refine rd_cons ?_
  | refine rd_CB ?_
  | refine rd_G ?_
  | refine rd_fld ?_
  | refine rd_sl ?_
  | refine rd_part ?_
  | refine rd_noPart ?_
  | refine rd_leaf ?_
  | refine rd_tup ?_
  | refine rd_lst ?_
  | refine rd_star ?_
  | refine rd_bm ?_
  | refine rd_bm0 ?_
  | refine rd_gsub ?_
  | refine rd_rev ?_
  | refine rd_gnil ?_
  | refine rd_gcons ?_
  | refine rd_yes ?_
  | refine rd_abs ?_
  | refine rd_max2 ?_
  | refine rd_min2 ?_
  | refine rd_int1 ?_
  | refine rd_int1b ?_
  | refine rd_inSign ?_
  | refine rd_niSign ?_
  | refine rd_isN ?_
  | refine rd_ntN ?_
  | refine rd_dcLst ?_
  | refine rd_dcTup ?_
  | refine rd_dcItems ?_
  | refine rd_lcTup ?_
  | refine rd_lcLst ?_
  | refine rd_lcStr ?_
  | refine rd_lcR1 ?_
  | refine rd_lcR2 ?_
  | refine rd_lcKeys ?_
  | refine rd_lcVals ?_
  | refine rd_lcItems ?_
  | refine rd_lcZip ?_
  | refine rd_forTup ?_
  | refine rd_forLst ?_
  | refine rd_forR1 ?_
  | refine rd_forR2 ?_
  | refine rd_forR3 ?_
  | refine rd_forZip ?_
  | refine rd_forItems ?_
  | refine rd_lcEnumT ?_
  | refine rd_forEnumT ?_
  | refine rd_oneStr ?_
  | refine rd_mkR ?_
  | refine rd_mk0 ?_
  | refine rd_mR ?_
  | refine rd_mN ?_
  | refine rd_pr ?_
  | refine rd_cmR ?_
  | refine rd_makeC ?_
  | refine rd_tM1 ?_
  | refine rd_fmtT ?_
  | refine ⟨rd_exs, ?_⟩
  | refine rd_listZip ?_
  | refine rd_lenSetS ?_
  | refine rd_sfld ?_
  | refine rd_jc ?_
  | refine rd_jn ?_
  | refine rd_par ?_
  | refine rd_par3 ?_
  | refine rd_dupd ?_
  | refine rd_disp ?_
  | refine rd_pc ?_
  | refine rd_pn ?_
  | refine rd_dni ?_
  | refine rd_dget ?_
  | refine rd_dget2 ?_
  | refine rd_dput ?_
  | refine rd_T ?_
  | refine rd_F ?_
  | refine rd_nT ?_
  | refine rd_nF ?_))
/-! ### rules that name K, for blocks -/
section
variable {X : Cx} {K : PySem.W.Frag}
theorem ixT_k (e : X.K = K) : IxR X (rIxT K) := e ▸ ix_tup
theorem ixL_k (e : X.K = K) : IxR X (rIxL K) := e ▸ ix_list
theorem in_k (e : X.K = K) : OpR X (compareOp .In) (rIn K false) := e ▸ op_in_seq
theorem ni_k (e : X.K = K) : OpR X (compareOp .NotIn) (rIn K true) := e ▸ op_notIn_seq
theorem eqD_k (e : X.K = K) (hu : X.A.units + 64 < cLine) : OpR X (compareOp .Eq) (rEqD K) := e ▸ op_eqD hu
theorem neD_k (e : X.K = K) (hu : X.A.units + 64 < cLine) : OpR X (compareOp .NotEq) (rNeD K) := e ▸ op_neD hu
theorem inD_k (e : X.K = K) (hu : X.A.units + 65 < cLine) : OpR X (compareOp .In) (rInD K) := e ▸ op_inD hu
theorem niD_k (e : X.K = K) (hu : X.A.units + 65 < cLine) : OpR X (compareOp .NotIn) (rNotInD K) := e ▸ op_notInD hu
theorem lenS_k (e : X.K = K) : CallR X (.builtin "len") (rLenS K) := e ▸ c_lenS
theorem listS_k (e : X.K = K) : CallR X (.type "list") (rListS K) := e ▸ c_listS
theorem tupS_k (e : X.K = K) : CallR X (.type "tuple") (rTupS K) := e ▸ c_tupS
theorem all_k (e : X.K = K) (hc : X.calm = true) : CallR X (.builtin "all") (rAll K) := e ▸ cr_all hc
theorem isi_k (e : X.K = K) : CallR X (.builtin "isinstance") (rIsi K) := e ▸ call_isi
theorem tupG_k {es : List Expr} {k : Nat} {pos : Pos} {t : TGs} {n : Nat} (e0 : X.K = K) (hc : X.calm = true) (h : PGs X es t)
    (hn : (assignEach es X.env).length = n := by rfl) (hst : (assignEach es X.env).findIdx? (·.1) = none := by rfl) : PG X (.Tuple es k pos) (gTup K n t) := e0 ▸ pg_tup hc h hn hst
theorem fld_k {e : Expr} {f : Str} {te : TE} {pos : Pos} (e0 : X.K = K) (he : PE X e te) (hab : attributeBase e f X.env (eval e X.env) = eval e X.env) : PE X (.Attribute e f pos) (tFld K te f) := e0 ▸ pe_fld he hab
end
end FN
set_option maxHeartbeats 4000000
namespace FN
open PySem PySem.Spec PyProof.Rows L2
local macro_rules | `(tactic| walk_at "w") => `(tactic| repeat (with_reducible first
  | refine rd_seq ?_
  | refine rd_asg ?_
  | refine rd_name ?_
  | refine rd_ret ?_
  | refine rd_drop ?_
  | refine rd_if ?_
  | refine rd_next ?_
  | refine rd_var (by k_dflt rfl) ?_
  | refine rd_c ?_
  | refine rd_op ?_
  | refine rd_un ?_
  | refine rd_test ?_
  | refine rd_B ?_
  | refine rd_I0 ?_
  | refine rd_U ?_
  | refine rd_eqI ?_
  | refine rd_neI ?_
  | refine rd_eqS ?_
  | refine rd_neS ?_
  | refine rd_and ?_
  | refine rd_or ?_
  | refine rd_not ?_
  | refine rd_andV ?_
  | refine rd_orV ?_
  | refine rd_notV ?_
  | refine rd_ife ?_
  | refine rd_chain ?_
  | refine rd_exb ?_
  | refine rd_exi ?_
  | refine rd_nil ?_
  | refine rd_cons ?_
  | refine rd_CB ?_
  | refine rd_G ?_
  | refine rd_fld ?_
  | refine rd_sl ?_
  | refine rd_part ?_
  | refine rd_noPart ?_
  | refine rd_leaf ?_
  | refine rd_tup ?_
  | refine rd_lst ?_
  | refine rd_star ?_
  | refine rd_bm ?_
  | refine rd_bm0 ?_
  | refine rd_gsub ?_
  | refine rd_rev ?_
  | refine rd_gnil ?_
  | refine rd_gcons ?_
  | refine rd_yes ?_
  | refine rd_abs ?_
  | refine rd_max2 ?_
  | refine rd_min2 ?_
  | refine rd_int1 ?_
  | refine rd_int1b ?_
  | refine rd_inSign ?_
  | refine rd_niSign ?_
  | refine rd_isN ?_
  | refine rd_ntN ?_
  | refine rd_dcLst ?_
  | refine rd_dcTup ?_
  | refine rd_dcItems ?_
  | refine rd_lcTup ?_
  | refine rd_lcLst ?_
  | refine rd_lcStr ?_
  | refine rd_lcR1 ?_
  | refine rd_lcR2 ?_
  | refine rd_lcKeys ?_
  | refine rd_lcVals ?_
  | refine rd_lcItems ?_
  | refine rd_lcZip ?_
  | refine rd_forTup ?_
  | refine rd_forLst ?_
  | refine rd_forR1 ?_
  | refine rd_forR2 ?_
  | refine rd_forR3 ?_
  | refine rd_forZip ?_
  | refine rd_forItems ?_
  | refine rd_lcEnumT ?_
  | refine rd_forEnumT ?_
  | refine rd_oneStr ?_
  | refine rd_mkR ?_
  | refine rd_mk0 ?_
  | refine rd_mR ?_
  | refine rd_mN ?_
  | refine rd_pr ?_
  | refine rd_cmR ?_
  | refine rd_makeC ?_
  | refine rd_tM1 ?_
  | refine rd_fmtT ?_
  | refine ⟨rd_exs, ?_⟩
  | refine rd_listZip ?_
  | refine rd_lenSetS ?_
  | refine rd_sfld ?_
  | refine rd_jc ?_
  | refine rd_jn ?_
  | refine rd_par ?_
  | refine rd_par3 ?_
  | refine rd_dupd ?_
  | refine rd_disp ?_
  | refine rd_pc ?_
  | refine rd_pn ?_
  | refine rd_dni ?_
  | refine rd_dget ?_
  | refine rd_dget2 ?_
  | refine rd_dput ?_
  | refine rd_T ?_
  | refine rd_F ?_
  | refine rd_nT ?_
  | refine rd_nF ?_))
theorem filt_no {α : Type} {p : α → Bool} {n : α} (h : p n = false) : [n].filter p = [] := by simp [List.filter_cons, h]
theorem filt_yes {α : Type} {p : α → Bool} {n : α} (h : p n = true) : [n].filter p = [n] := by simp [List.filter_cons, h]
def isWd (n : Nd) : Bool := decide (n.1 ∉ [("_" : Str), ("#" : Str)])
def Coh (ns : List Nd) : Prop := ∀ n ∈ ns, ∀ m ∈ ns, n.1 = m.1 → n = m
section
variable {P : Program} {w : World} {K : PySem.W.Frag} {mg : Str → Option Value} {base : Heap} {C : Ad}
theorem tp_nodesE {H : Hp} {v : V} {ns : List Nd} (h : Tp K H v (nodesD ns)) : ∃ a xs, v = .ref a ∧ SqT K H a xs ∧ Tps K H xs (ns.map ndD) := h.tupE
theorem tps_get_nd {H : Hp} {xs : List V} {ns : List Nd} {i : Nat} {x : V} (h : Tps K H xs (ns.map ndD)) (e : xs[i]? = some x) : ∃ n a, ns[i]? = some n ∧ x = .ref a ∧ SqT K H a [.str n.1, vI n.2] := by
  obtain ⟨d, hd, hx⟩ := h.getV e
  rw [List.getElem?_map] at hd
  cases q : ns[i]? with
  | none => rw [q] at hd; cases hd
  | some n =>
    rw [q] at hd
    have : d = ndD n := by simpa using hd.symm
    subst this
    obtain ⟨a, rfl, ha⟩ := tp_ndE hx
    exact ⟨n, a, rfl, rfl, ha⟩
def sp_arities_in (K : PySem.W.Frag) : Sp := fun vs H Q _ => ∃ v ns, vs = [v] ∧ Tp K H v (nodesD ns) ∧ Coh ns ∧ ns.length ≤ 40 ∧
  ∀ (p : Addr) (H' : Hp) (F : List Nd), Same H H' → H' p = some (.dK (F.map kvN)) → F.length ≤ ns.length → NodK F → (∀ n, n ∈ F ↔ n ∈ ns ∧ n.1 ∉ [("_" : Str), ("#" : Str)]) → Q (.ref p) H'
theorem ok_arities_in (T : Ty K mg C) : Gf P w K mg base "arities_in" 2 (sp_arities_in K) := by
  have G_ascending_rows := ok_ascending_rows (P := P) (w := w) (base := base) T
  refine T.d_arities_in.ok sc_arities_in (fun vs H Q E h => ?_) (fun f cdv A outer s H vs Q E hr h => ?_)
  · obtain ⟨a, S, rfl, _⟩ := h
    rfl
  obtain ⟨v, ns, rfl, hv, hc, hz, k⟩ := h
  obtain ⟨a, xs, rfl, ha, hx⟩ := tp_nodesE hv
  have hlen : xs.length = ns.length := by rw [hx.len, List.length_map]
  refine ⟨_, (pss_cons (ps_set (i := 1) sc_arities_in.nd rfl (Or.inl rfl) pe_dnewK)
    (pss_cons (ps_for PassesOwn.never rfl (pi_tup (pv 0)) (pg_tup (n := 2) rfl (pgs_cons (pg_name (i := 2) sc_arities_in.nd rfl (Or.inl rfl)) (pgs_cons (pg_name (i := 3) sc_arities_in.nd rfl (Or.inl rfl)) pgs_nil))) (pss_cons (ps_if (pt_cmpR op_ne (pe_dget2 (hu1 hr) (pv 1) (pv 2) (pv 3) ⟨rfl, rfl, rfl, rfl⟩) (pv 3) (nomark _)) (pss_one (ps_ret pe_non)) pss_nil)
      (pss_one (ps_dput (hu1 hr) (pv 1) (pv 2) (pv 3) rfl))))
    (pss_one (ps_ret (pe_g G_ascending_rows (hr.mono (by decide)) (pa_cons (pe_lock (pe_dc rfl sc_arities_in.nd (pi_items (pv 1)) (blkOk_by (own := [("word", 2), ("arity", 3)]) (N := ["nodes", "found", "word", "arity"]) (sc := defScope s_arities_in) (by decide +kernel)) (fun _ _ _ _ _ => (tupG_k (K := K) (n := 2) rfl rfl (pgs_cons (pg_name (i := 2) sc_arities_in.nd rfl (Or.inl rfl)) (pgs_cons (pg_name (i := 3) sc_arities_in.nd rfl (Or.inl rfl)) pgs_nil)))) (fun _ _ _ _ _ => (pts_one (pt_cmpR (ni_k (K := K) rfl) (pv 2) (pe_tup (pa_cons (pe_gS T.c_ANY) (pa_cons (pe_gS T.c_LOST) pa_nil))) (by rfl)))) (fun _ _ _ _ _ => (pv 2)) (fun _ _ _ _ _ => (pv 3)))) pa_nil)))))), ?_⟩
  try dsimp only [nox_K]
  refine rd_st (σ' := [some (.ref a), none, none, none]) rfl ?_
  walk_at "w"
  intro d hd
  walk_at "w"
  have sd := same_new hd (.dK [])
  refine ⟨a, rfl, ⟨xs, sqT_kp (kp_new hd) ha⟩, ?_⟩
  refine fo_it (walk_tup (xs := xs)) (fun i σ H' => ∃ F wv av, σ = [some (.ref a), some (.ref d), wv, av] ∧ Same H H' ∧ H' d = some (.dK (F.map kvN)) ∧ NodK F ∧ F.length ≤ i ∧ (∀ n, n ∈ F ↔ n ∈ ns.take i)) ?_ ?_ ?_ ?_
  · exact ⟨[], none, none, rfl, sd, upd_same, List.nodup_nil, Nat.le_refl _, fun n => by simp⟩
  · rintro i σ H' _ ⟨F, wv, av, _, s, _⟩
    exact sqT_kp (kp_same s) ha
  · rintro i x σ H1 H2 hi ⟨F, wv, av, rfl, s, hF, hnF, hlF, hm⟩ ⟨rfl, hx1⟩
    obtain ⟨n, na, hn, rfl, hna⟩ := tps_get_nd (hx.kp (kp_same s)) hx1
    have hnm : n ∈ ns := List.mem_of_getElem? hn
    refine rd_gtup hna rfl ?_
    walk_at "w"
    refine ⟨d, rfl, .inl ⟨_, .inl hF⟩, ?_⟩
    walk_at "w"
    have htk := take_succ_get hn
    by_cases hin : n ∈ F
    · refine ⟨_, dgetS hF (valV_in hnF hin), ?_⟩
      dsimp only [Option.getD_some]
      walk_at "w"
      refine rd_ndT (Eq.refl ((n.2 : Nat) : Int)) ?_
      walk_at "w"
      refine ⟨d, _, rfl, dputS hF (smallL (by rw [List.length_map]; omega)), ?_⟩
      rw [putK_in hnF hin]
      exact ⟨F, _, _, rfl, same_mut s hd, upd_same, hnF, by omega, fun m => by
        rw [htk, List.mem_append, ← hm m, List.mem_singleton]
        constructor
        · exact .inl
        · rintro (h | rfl)
          · exact h
          · exact hin⟩
    · have hout : n.1 ∉ F.map (·.1) := by
        intro q
        obtain ⟨m, hm1, e⟩ := List.mem_map.mp q
        have hmn : m ∈ ns := List.mem_of_mem_take ((hm m).mp hm1)
        have := hc m hmn n hnm e
        subst this
        exact hin hm1
      refine ⟨_, dgetS hF (valV_out hout), ?_⟩
      dsimp only [Option.getD_none]
      walk_at "w"
      refine rd_ndT (Eq.refl ((n.2 : Nat) : Int)) ?_
      walk_at "w"
      refine ⟨d, _, rfl, dputS hF (smallL (by rw [List.length_map]; omega)), ?_⟩
      rw [putK_out hout]
      refine ⟨F ++ [n], _, _, rfl, same_mut s hd, upd_same, ?_, by rw [List.length_append]; simp; omega, fun m => by
        rw [htk, List.mem_append, List.mem_append, hm m]⟩
      unfold NodK
      rw [List.map_append]
      exact List.nodup_append.mpr ⟨hnF, by simp, by
        rintro a ha b hb rfl
        rw [List.map_cons, List.map_nil, List.mem_singleton] at hb
        subst hb
        exact hout ha⟩
  · rintro σ H1 ⟨F, wv, av, rfl, s, hF, hnF, hlF, hm⟩
    rw [hlen] at hm hlF
    rw [List.take_length] at hm
    walk_at "w"
    refine rd_lockE hF fun od => ?_
    walk_at "w"
    refine ⟨d, od, _, rfl, upd_same, fun D hD => ?_⟩
    have hD1 : H1 D = none := by
      by_cases z : D = d
      · subst z; rw [upd_same] at hD; cases hD
      · rwa [upd_ne z] at hD
    have hDd : D ≠ d := fun z => by subst z; rw [upd_same] at hD; cases hD
    refine dc_it walk_items (fun i H' => Same (upd H1 d (.frz od (.dK (F.map kvN)))) H' ∧ H' D = some (.dK (((F.take i).filter isWd).map kvN))) ⟨same_new hD _, upd_same⟩ (fun i H' _ r => r.1 _ _ upd_same) ?_ ?_
    · rintro i x H2 H3 hi ⟨r1, r2⟩ ⟨Ta, k1, v1, rfl, hTa, rfl, hk, hv1⟩
      simp only [List.getElem?_map] at hk hv1
      obtain ⟨n, hn⟩ : ∃ n, F[i]? = some n := by
        rw [List.length_map] at hi
        exact ⟨F[i], List.getElem?_eq_getElem hi⟩
      have hkn : k1 = .str n.1 := (show k1 = kV (.inr n.1) by simpa [hn] using hk.symm)
      have hvn : v1 = vI n.2 := by simpa [hn] using hv1.symm
      subst hkn; subst hvn
      have st := same_new hTa (.tup [.str n.1, vI n.2])
      refine rd_gtup (sqT_of upd_same) rfl ?_
      walk_at "w"
      refine ⟨rfl, ?_⟩
      walk_at "w"
      refine ⟨small (by simp), fun p hp => ?_⟩
      refine rd_niS (zs := ["_", "#"]) (.inr (sqT_of upd_same)) ?_
      have sp := same_new hp (.tup [.str "_", .str "#"])
      walk_at "w"
      have hTD : Ta ≠ D := (ne_of_none r2 hTa).symm
      have r2' := (st.trans sp) _ _ r2
      have r1' := r1.trans (st.trans sp)
      have htk := take_succ_get hn
      have hnin : n ∈ F := List.mem_of_getElem? hn
      by_cases hw : n.1 ∈ [("_" : Str), ("#" : Str)]
      · refine rd_ndT hw ?_
        refine ⟨r1', ?_⟩
        rw [htk, List.filter_append, filt_no (p := isWd) (decide_eq_false (fun q => q hw)), List.append_nil]
        exact r2'
      · refine rd_ndF hw ?_
        walk_at "w"
        refine ⟨_, .inr n.1, rfl, r2', smallL (by
          rw [List.length_map]
          exact Nat.le_trans (List.length_filter_le _ _) (by rw [List.length_take]; omega)), ?_⟩
        rw [putK_out (n := n)]
        · refine ⟨same_mut r1' hD, ?_⟩
          rw [upd_same, htk, List.filter_append, filt_yes (p := isWd) (decide_eq_true hw)]
        · intro hm2
          obtain ⟨m, hm3, e⟩ := List.mem_map.mp hm2
          have hm4 := (List.mem_filter.mp hm3).1
          have hmn : m ∈ ns := (hm m).mp (List.mem_of_mem_take hm4)
          have e2 : m = n := hc m hmn n ((hm n).mp hnin) e
          subst e2
          have hlt := (List.getElem?_eq_some_iff.mp hn).1
          have hd1 : F = F.take i ++ m :: F.drop (i + 1) := by
            have := List.drop_eq_getElem_cons hlt
            rw [(List.getElem?_eq_some_iff.mp hn).2] at this
            rw [← this, List.take_append_drop]
          have hN := hnF
          unfold NodK at hN
          rw [hd1, List.map_append, List.map_cons] at hN
          exact (List.nodup_append.mp hN).2.2 m.1 (List.mem_map.mpr ⟨m, hm4, rfl⟩) m.1 List.mem_cons_self rfl
    · rintro H2 ⟨r1, r2⟩
      rw [List.length_map, List.take_length] at r2
      refine ⟨r1 _ _ upd_same, ?_⟩
      have sA := lock_same hF r1
      walk_at "w"
      have hs1 : (F.filter isWd).length ≤ ns.length := Nat.le_trans (List.length_filter_le _ _) hlF
      refine ⟨D, _, rfl, by rw [upd_ne hDd]; exact r2, ?_, by omega, fun p H' S' hp hs hsm hp2 => ?_⟩
      · exact List.Nodup.sublist (List.Sublist.map _ List.filter_sublist) hnF
      · refine k p H' S' (s.trans (sA.trans hsm)) hp2 (by rw [hp.length_eq]; exact hs1) ((hp.map (·.1)).nodup_iff.mpr (List.Nodup.sublist (List.Sublist.map _ List.filter_sublist) hnF)) fun n => ?_
        rw [hp.mem_iff, List.mem_filter, hm n]; unfold isWd; rw [decide_eq_true_iff]
end
end FN
set_option maxHeartbeats 4000000
namespace FN
open PySem PySem.Spec PyProof.Rows L2
local macro_rules | `(tactic| walk_at "w") => `(tactic| repeat (with_reducible first
  | refine rd_seq ?_
  | refine rd_asg ?_
  | refine rd_name ?_
  | refine rd_ret ?_
  | refine rd_drop ?_
  | refine rd_if ?_
  | refine rd_next ?_
  | refine rd_var (by k_dflt rfl) ?_
  | refine rd_c ?_
  | refine rd_op ?_
  | refine rd_un ?_
  | refine rd_test ?_
  | refine rd_B ?_
  | refine rd_I0 ?_
  | refine rd_U ?_
  | refine rd_eqI ?_
  | refine rd_neI ?_
  | refine rd_eqS ?_
  | refine rd_neS ?_
  | refine rd_and ?_
  | refine rd_or ?_
  | refine rd_not ?_
  | refine rd_andV ?_
  | refine rd_orV ?_
  | refine rd_notV ?_
  | refine rd_ife ?_
  | refine rd_chain ?_
  | refine rd_exb ?_
  | refine rd_exi ?_
  | refine rd_nil ?_
  | refine rd_cons ?_
  | refine rd_CB ?_
  | refine rd_G ?_
  | refine rd_fld ?_
  | refine rd_sl ?_
  | refine rd_part ?_
  | refine rd_noPart ?_
  | refine rd_leaf ?_
  | refine rd_tup ?_
  | refine rd_lst ?_
  | refine rd_star ?_
  | refine rd_bm ?_
  | refine rd_bm0 ?_
  | refine rd_gsub ?_
  | refine rd_rev ?_
  | refine rd_gnil ?_
  | refine rd_gcons ?_
  | refine rd_yes ?_
  | refine rd_abs ?_
  | refine rd_max2 ?_
  | refine rd_min2 ?_
  | refine rd_int1 ?_
  | refine rd_int1b ?_
  | refine rd_inSign ?_
  | refine rd_niSign ?_
  | refine rd_isN ?_
  | refine rd_ntN ?_
  | refine rd_dcLst ?_
  | refine rd_dcTup ?_
  | refine rd_dcItems ?_
  | refine rd_lcTup ?_
  | refine rd_lcLst ?_
  | refine rd_lcStr ?_
  | refine rd_lcR1 ?_
  | refine rd_lcR2 ?_
  | refine rd_lcKeys ?_
  | refine rd_lcVals ?_
  | refine rd_lcItems ?_
  | refine rd_lcZip ?_
  | refine rd_forTup ?_
  | refine rd_forLst ?_
  | refine rd_forR1 ?_
  | refine rd_forR2 ?_
  | refine rd_forR3 ?_
  | refine rd_forZip ?_
  | refine rd_forItems ?_
  | refine rd_lcEnumT ?_
  | refine rd_forEnumT ?_
  | refine rd_oneStr ?_
  | refine rd_mkR ?_
  | refine rd_mk0 ?_
  | refine rd_mR ?_
  | refine rd_mN ?_
  | refine rd_pr ?_
  | refine rd_cmR ?_
  | refine rd_makeC ?_
  | refine rd_tM1 ?_
  | refine rd_fmtT ?_
  | refine ⟨rd_exs, ?_⟩
  | refine rd_listZip ?_
  | refine rd_lenSetS ?_
  | refine rd_sfld ?_
  | refine rd_jc ?_
  | refine rd_jn ?_
  | refine rd_par ?_
  | refine rd_par3 ?_
  | refine rd_dupd ?_
  | refine rd_disp ?_
  | refine rd_pc ?_
  | refine rd_pn ?_
  | refine rd_dni ?_
  | refine rd_dget ?_
  | refine rd_dget2 ?_
  | refine rd_dput ?_
  | refine rd_T ?_
  | refine rd_F ?_
  | refine rd_nT ?_
  | refine rd_nF ?_))
/-- terms as they are made -/
structure TmW (t : Tm) : Prop where
  nd : ∀ n ∈ nodes t, NdW n
  co : Coh (nodes t)
  sz : size t ≤ 40
theorem let_ok : ∀ c ∈ LET, c < 0x110000 := by decide
theorem NdW.ok {n : Nd} (h : NdW n) : PyData.strOk n.1 = true := by
  obtain ⟨c, hc, _, hw⟩ := h
  rw [hc]
  have : c < 0x110000 := by
    rcases hw with hw | ⟨hw, _⟩
    · exact let_ok c hw
    · rw [hc] at hw
      rcases List.mem_cons.mp hw with e | e
      · have : c = 95 := by
          have q := congrArg (fun z : Str => z.cps.toList) e
          have q2 : [c] = [95] := q
          exact List.cons.inj q2 |>.1
        omega
      · have e := List.mem_singleton.mp e
        have : c = 35 := by
          have q := congrArg (fun z : Str => z.cps.toList) e
          have q2 : [c] = [35] := q
          exact List.cons.inj q2 |>.1
        omega
  unfold PyData.strOk
  simp [this]
theorem TmW.wok {t : Tm} (h : TmW t) : Wok (nodes t) := fun n hn => (h.nd n hn).ok
section
variable {P : Program} {w : World} {K : PySem.W.Frag} {mg : Str → Option Value} {base : Heap} {C : Ad}
def sp_is_term_row (K : PySem.W.Frag) : Sp := fun vs H Q _ => ∃ v t, vs = [v] ∧ Tp K H v (nodesD (nodes t)) ∧ TmW t ∧ ∀ H', Same H H' → Q (.bl true) H'
theorem ok_is_term_row (T : Ty K mg C) : Gf P w K mg base "is_term_row" 4 (sp_is_term_row K) := by
  have G_is_node := ok_is_node (P := P) (w := w) (base := base) T
  have G_children_of := ok_children_of (P := P) (w := w) (base := base) T.toTx
  have G_arities_in := ok_arities_in (P := P) (w := w) (base := base) T
  refine T.d_is_term_row.ok sc_is_term_row (fun vs H Q E h => ?_) (fun f cdv A outer s H vs Q E hr h => ?_)
  · obtain ⟨a, S, rfl, _⟩ := h
    rfl
  obtain ⟨v, t, rfl, hv, ht, k⟩ := h
  obtain ⟨a, xs, rfl, ha, hx⟩ := tp_nodesE hv
  have hlen : xs.length = size t := by rw [hx.len, List.length_map, nodes_length]
  refine ⟨_, (pss_cons (ps_if (PW.pt (pw_or (pt_not (pt_val (pe_callB call_isi rfl T.f_isinstance (by decide +kernel) (pa_cons (pv 0) (pa_cons (pe_bltn (v := .ty "tuple") rfl T.f_tuple (by decide +kernel) rfl) pa_nil))))) (pw_or (pt_not (pt_chain op_le op_le pe_int (pe_callB c_lenS rfl T.f_len PySem.boot_len (pa_cons (pv 0) pa_nil)) (pe_gI T.c_MAX_NODES))) (pw_or1 (pt_not (pt_val (pe_callB (cr_all rfl) rfl T.f_all (by decide +kernel) (pa_cons (pe_lc (own := [("node", 1)]) rfl sc_is_term_row.nd (pi_tup (pv 0)) (blkOk_by (own := [("node", 1)]) (N := ["value", "node"]) (sc := defScope s_is_term_row) (by decide +kernel)) (fun _ _ _ _ _ => (pg_name (i := 1) sc_is_term_row.nd rfl (Or.inl rfl))) (fun _ _ _ _ _ => pts_nil) (fun _ _ _ _ _ => (pe_g G_is_node (hr.mono (by decide)) (pa_cons (pv 1) pa_nil)))) pa_nil)))))))) (pss_one (ps_ret pe_bl)) pss_nil)
    (pss_one (ps_ret (pe_and (pe_cmpR o_ntN (pe_g G_children_of (hr.mono (by decide)) (pa_cons (pv 0) pa_nil)) pe_non (nomark _)) (pe_one (pe_cmpR o_ntN (pe_g G_arities_in (hr.mono (by decide)) (pa_cons (pv 0) pa_nil)) pe_non (nomark _))))))), ?_⟩
  try dsimp only [nox_K]
  refine rd_st (σ' := [some (.ref a), none]) rfl ?_
  walk_at "w"
  refine rd_isi_sqT ha (b := true) (by decide +kernel) ?_
  walk_at "w"
  refine rd_len (.inr ha) ?_
  walk_at "w"
  have hp := size_pos t
  have hz := ht.sz
  refine rd_dT (by omega) ?_
  walk_at "w"
  refine rd_ndT (by omega) ?_
  walk_at "w"
  refine rd_oneTup ha fun D hD => ?_
  refine lc_map walk_tup (fun _ y _ => y = .bl true) (by omega) hD nok (fun H' s => sqT_kp (kp_same s) ha) ?_ ?_
  · rintro i acc x H1 H2 hi hl s1 hD' r ⟨rfl, hx1⟩
    obtain ⟨n, na, hn, rfl, hna⟩ := tps_get_nd (hx.kp (kp_same s1)) hx1
    walk_at "w"
    refine ⟨rfl, ?_⟩
    walk_at "w"
    exact ⟨_, n, rfl, tp_nd hna, ht.nd n (List.mem_of_getElem? hn), fun H4 s4 => lc_put (by omega) hl hD' hD s1 s4 nok r rfl⟩
  · intro acc H1 s1 hD' hl1 hf
    walk_at "w"
    refine rd_allT (SqL.of hD') hf ?_
    walk_at "w"
    refine ⟨a, t, rfl, hv.kp (kp_same s1), hz, fun p H2 ys s2 hp2 _ => ?_⟩
    walk_at "w"
    refine rd_ndF (fun z => nomatch z) ?_
    walk_at "w"
    refine ⟨_, _, rfl, (hv.kp (kp_same s1)).kp (kp_same s2), ht.co, by rw [nodes_length]; exact hz, fun p3 H3 F s3 _ _ _ _ => ?_⟩
    walk_at "w"
    exact k H3 (s1.trans (s2.trans s3))
theorem pl_last : ∀ (q : Nat) (ts : List Tm), ts ≠ [] → ∃ c p, ts[ts.length - 1]? = some c ∧ (pl q ts)[ts.length - 1]? = some p ∧ p + size c = q + sizes ts
  | q, [], h => absurd rfl h
  | q, [t], _ => ⟨t, q, rfl, rfl, by rw [sizes, sizes]; rfl⟩
  | q, t :: u :: r, _ => by
    obtain ⟨c, p, h1, h2, h3⟩ := pl_last (q + size t) (u :: r) (by simp)
    refine ⟨c, p, by simpa using h1, ?_, by rw [sizes]; omega⟩
    rw [pl]
    simpa using h2
theorem atI_lastN {α : Type} {xs : List α} {v : α} (h : xs[xs.length - 1]? = some v) : atI xs (-1) = some v := by
  have hne : xs ≠ [] := by rintro rfl; simp at h
  have hl : 0 < xs.length := List.length_pos_iff.mpr hne
  have e : xs = xs.dropLast ++ [v] := by
    have := List.dropLast_concat_getLast hne
    rw [List.getLast_eq_getElem] at this
    have h2 : xs[xs.length - 1] = v := (List.getElem?_eq_some_iff.mp h).2
    rw [h2] at this
    exact this.symm
  rw [e]; exact atI_last _ _
/-- found behind the places from k on -/
def EnI (t : Tm) (k : Nat) (ys : List V) : Prop := ys.length = size t ∧ ∀ j, j < size t → ys[j]? = if j < k then some (vI (j + 1)) else ((en 0 t)[j]?).map vI
def sp_ends_of (K : PySem.W.Frag) : Sp := fun vs H Q _ => ∃ v t, vs = [v] ∧ Tp K H v (.tuple ((ch 0 t).map intsD)) ∧ size t ≤ 40 ∧
  ∀ p H', Same H H' → H' p = some (.lst ((en 0 t).map vI)) → Q (.ref p) H'
theorem ok_ends_of (T : Ty K mg C) : Gf P w K mg base "ends_of" 1 (sp_ends_of K) := by
  refine T.d_ends_of.ok sc_ends_of (fun vs H Q E h => ?_) (fun f cdv A outer s H vs Q E hr h => ?_)
  · obtain ⟨a, S, rfl, _⟩ := h
    rfl
  obtain ⟨v, t, rfl, hv, hz, k⟩ := h
  obtain ⟨a, xs, rfl, ha, hx⟩ := hv.tupE
  have hlen : xs.length = size t := by rw [hx.len, List.length_map, ch_length]
  have hp := size_pos t
  refine ⟨_, (pss_cons (ps_setLc (i := 1) (own := [("at", 2)]) rfl sc_ends_of.nd rfl rfl (sw_true rfl rfl rfl (by decide +kernel)) (pi_range1 rfl T.f_range (pa_cons (pe_callB c_lenS rfl T.f_len PySem.boot_len (pa_cons (pv 0) pa_nil)) pa_nil)) (blkOk_by (own := [("at", 2)]) (N := ["children", "found", "at"]) (sc := defScope s_ends_of) (by decide +kernel)) (fun _ _ _ _ _ => (pg_name (i := 2) sc_ends_of.nd rfl (Or.inl rfl))) (fun _ _ _ _ _ => pts_nil) (fun _ _ _ _ _ => (pe_op op_add (pv 2) pe_int)))
    (pss_cons (ps_for PassesOwn.never rfl (pi_range3 rfl T.f_range (pa_cons (pe_op op_sub (pe_callB c_lenS rfl T.f_len PySem.boot_len (pa_cons (pv 0) pa_nil)) pe_int) (pa_cons (pe_un un_neg pe_int) (pa_cons (pe_un un_neg pe_int) pa_nil)))) (pg_name (i := 2) sc_ends_of.nd rfl (Or.inl rfl)) (pss_one (ps_if (pt_cmpR (op_neD hr.units) (pe_ix ix_tup (pv 0) (pv 2) (fun _ _ => rfl)) (pe_tup pa_nil) (nomark _)) (pss_one (ps_asg (pe_ix ix_list (pv 1) (pe_ix ix_tup (pe_ix ix_tup (pv 0) (pv 2) (fun _ _ => rfl)) (pe_un un_neg pe_int) (fun _ _ => rfl)) (fun _ _ => rfl)) (pg_sub (pv 1) (pv 2) set_list))) pss_nil)))
    (pss_one (ps_ret (pv 1))))), ?_⟩
  try dsimp only [nox_K]
  refine rd_st (σ' := [some (.ref a), none, none]) rfl ?_
  walk_at "w"
  refine rd_len (.inr ha) ?_
  walk_at "w"
  refine ⟨_, rfl, by omega, by omega, fun fa hfa => ?_⟩
  rw [show ((xs.length : Nat) : Int).toNat = size t by omega]
  refine lc_map walk_range (fun i y _ => y = vI (i + 1)) (by omega) hfa nok (fun _ _ => trivial) ?_ ?_
  · rintro i acc x H1 H2 hi hl s1 hD' r ⟨rfl, rfl⟩
    walk_at "w"
    refine ⟨rfl, ?_⟩
    walk_at "w"
    exact lc_put (by omega) hl hD' hfa s1 (Same.refl _) nok r (by show V.int _ = V.int _; congr 1; omega)
  · intro acc H1 s1 hD' hl1 hf
    walk_at "w"
    have ha1 := sqT_kp (kp_same s1) ha
    refine rd_len (.inr ha1) ?_
    walk_at "w"
    refine ⟨_, _, _, _, rfl, RgC.neg (by omega) (by omega) (by omega) (by omega), ?_⟩
    have en' : (((xs.length : Nat) : Int) - 1 - -1).toNat = size t := by omega
    rw [en']
    refine fo_it walk_rangeC (fun i σ H2 => ∃ ys av, σ = [some (.ref a), some (.ref fa), av] ∧ Same H H2 ∧ H2 fa = some (.lst ys) ∧ EnI t (size t - i) ys) ?_ (fun _ _ _ _ _ => trivial) ?_ ?_
    · refine ⟨acc, none, rfl, s1, hD', hl1, fun j hj => ?_⟩
      rw [if_pos (by omega)]
      have : acc[j]? = some acc[j] := List.getElem?_eq_getElem (by omega)
      rw [this, hf j _ this]
    · rintro i x σ H2 H2' hi ⟨ys, av, rfl, s2, hF, hy1, hy2⟩ ⟨rfl, rfl⟩
      obtain ⟨k0, ek⟩ : ∃ k0 : Nat, size t - i = k0 + 1 := ⟨size t - i - 1, by omega⟩
      rw [ek] at hy2
      have eat : ((xs.length : Nat) : Int) - 1 + (i : Nat) * -1 = (k0 : Int) := by omega
      dsimp only
      rw [eat]
      obtain ⟨sx, hsx⟩ := at_of (t := t) (k := k0) (by omega)
      obtain ⟨wd, ts⟩ := sx
      have hcd : (ch 0 t)[k0]? = some (pl (k0 + 1) ts) := hsx.chd
      have hen : (en 0 t)[k0]? = some (k0 + (sizes ts + 1)) := by have := hsx.end_; rwa [size] at this
      obtain ⟨cv, hcv, hcd2⟩ := (hx.kp (kp_same s2)).get (i := k0) (by rw [List.getElem?_map, hcd]; rfl)
      obtain ⟨ca, cxs, rfl, hca0, _⟩ := hcd2.tupE
      have hca := tp_intsE hcd2
      have ha2 := sqT_kp (kp_same s2) ha
      walk_at "w"
      refine rd_ixT ha2 (atI_nat hcv) ?_
      walk_at "w"
      refine ⟨small (by simp), fun q hq => ?_⟩
      have sq := same_new hq (.tup [])
      refine rd_neIs (a := pl (k0 + 1) ts) (b := []) (hcd2.kp (kp_same sq)) (tp_ints (sqT_of upd_same)) ?_
      walk_at "w"
      have e2 : size t - (i + 1) = k0 := by omega
      have hF' := sq _ _ hF
      by_cases hts : ts = []
      · subst hts
        refine rd_ndT rfl ?_
        walk_at "w"
        refine ⟨ys, _, rfl, s2.trans sq, hF', hy1, fun j hj => ?_⟩
        rw [hy2 j hj, e2]
        by_cases h1 : j < k0
        · rw [if_pos (by omega), if_pos h1]
        · by_cases h2 : j = k0
          · subst h2
            rw [if_pos (by omega), if_neg h1, hen]
            rfl
          · rw [if_neg (by omega), if_neg h1]
      · have hne : ¬ pl (k0 + 1) ts = [] := by
          intro q0
          have := pl_length (k0 + 1) ts
          rw [q0] at this
          exact hts (List.length_eq_zero_iff.mp this.symm)
        refine rd_ndF hne ?_
        walk_at "w"
        have ha3 := sqT_kp (kp_same sq) ha2
        obtain ⟨c, pp, hc1, hc2, hc3⟩ := pl_last (k0 + 1) ts hts
        refine rd_ixT ha3 (atI_nat hcv) ?_
        walk_at "w"
        refine rd_ixT (sqT_kp (kp_same sq) hca) (v := vI pp) (atI_lastN (by
          rw [List.length_map, pl_length, List.getElem?_map, hc2]; rfl)) ?_
        walk_at "w"
        have hat : At t pp c := hsx.child hc1 hc2
        have hpp : pp < size t := hat.lt
        have hpk : k0 < pp := by
          have : k0 + 1 ≤ pp := by
            have q1 := hat.size_le
            clear q1
            have h9 : ∀ (q : Nat) (us : List Tm) (j p : Nat), (pl q us)[j]? = some p → q ≤ p := by
              intro q us
              induction us generalizing q with
              | nil => intro j p h; simp [pl] at h
              | cons u r ih =>
                intro j p h
                rw [pl] at h
                cases j with
                | zero => simp at h; omega
                | succ j =>
                  have := ih (q + size u) j p (by simpa using h)
                  omega
            exact h9 _ _ _ _ hc2
          omega
        have hyp : ys[pp]? = some (vI (pp + size c)) := by
          rw [hy2 pp hpp, if_neg (by omega), hat.end_]; rfl
        refine rd_ixL (SqL.of hF') (atI_nat hyp) ?_
        walk_at "w"
        refine rd_setL hF' (ixN_nat (by omega)) ?_
        walk_at "w"
        refine ⟨_, _, rfl, same_mut (s2.trans sq) hfa, upd_same, by rw [List.length_set]; exact hy1, fun j hj => ?_⟩
        rw [List.getElem?_set, e2]
        by_cases h2 : k0 = j
        · subst h2
          rw [if_pos rfl, if_pos (by omega), if_neg (by omega), hen]
          show some (V.int _) = some (V.int _)
          congr 2; omega
        · rw [if_neg h2, hy2 j hj]
          by_cases h1 : j < k0
          · rw [if_pos (by omega), if_pos h1]
          · rw [if_neg (by omega), if_neg h1]
    · rintro σ H2 ⟨ys, av, rfl, s2, hF, hy1, hy2⟩
      walk_at "w"
      rw [Nat.sub_self] at hy2
      have e : ys = (en 0 t).map vI := by
        refine List.ext_getElem? fun j => ?_
        by_cases hj : j < size t
        · rw [hy2 j hj, if_neg (by omega), List.getElem?_map]
        · rw [List.getElem?_eq_none (by omega), List.getElem?_eq_none (by rw [List.length_map, en_length]; omega)]
      rw [e] at hF
      exact k fa H2 s2 hF
end
end FN
set_option maxHeartbeats 4000000
namespace FN
open PySem PySem.Spec PyProof.Rows L2
local macro_rules | `(tactic| walk_at "w") => `(tactic| repeat (with_reducible first
  | refine rd_seq ?_
  | refine rd_asg ?_
  | refine rd_name ?_
  | refine rd_ret ?_
  | refine rd_drop ?_
  | refine rd_if ?_
  | refine rd_next ?_
  | refine rd_var (by k_dflt rfl) ?_
  | refine rd_c ?_
  | refine rd_op ?_
  | refine rd_un ?_
  | refine rd_test ?_
  | refine rd_B ?_
  | refine rd_I0 ?_
  | refine rd_U ?_
  | refine rd_eqI ?_
  | refine rd_neI ?_
  | refine rd_eqS ?_
  | refine rd_neS ?_
  | refine rd_and ?_
  | refine rd_or ?_
  | refine rd_not ?_
  | refine rd_andV ?_
  | refine rd_orV ?_
  | refine rd_notV ?_
  | refine rd_ife ?_
  | refine rd_chain ?_
  | refine rd_exb ?_
  | refine rd_exi ?_
  | refine rd_nil ?_
  | refine rd_cons ?_
  | refine rd_CB ?_
  | refine rd_G ?_
  | refine rd_fld ?_
  | refine rd_sl ?_
  | refine rd_part ?_
  | refine rd_noPart ?_
  | refine rd_leaf ?_
  | refine rd_tup ?_
  | refine rd_lst ?_
  | refine rd_star ?_
  | refine rd_bm ?_
  | refine rd_bm0 ?_
  | refine rd_gsub ?_
  | refine rd_rev ?_
  | refine rd_gnil ?_
  | refine rd_gcons ?_
  | refine rd_yes ?_
  | refine rd_abs ?_
  | refine rd_max2 ?_
  | refine rd_min2 ?_
  | refine rd_int1 ?_
  | refine rd_int1b ?_
  | refine rd_inSign ?_
  | refine rd_niSign ?_
  | refine rd_isN ?_
  | refine rd_ntN ?_
  | refine rd_dcLst ?_
  | refine rd_dcTup ?_
  | refine rd_dcItems ?_
  | refine rd_lcTup ?_
  | refine rd_lcLst ?_
  | refine rd_lcStr ?_
  | refine rd_lcR1 ?_
  | refine rd_lcR2 ?_
  | refine rd_lcKeys ?_
  | refine rd_lcVals ?_
  | refine rd_lcItems ?_
  | refine rd_lcZip ?_
  | refine rd_forTup ?_
  | refine rd_forLst ?_
  | refine rd_forR1 ?_
  | refine rd_forR2 ?_
  | refine rd_forR3 ?_
  | refine rd_forZip ?_
  | refine rd_forItems ?_
  | refine rd_lcEnumT ?_
  | refine rd_forEnumT ?_
  | refine rd_oneStr ?_
  | refine rd_mkR ?_
  | refine rd_mk0 ?_
  | refine rd_mR ?_
  | refine rd_mN ?_
  | refine rd_pr ?_
  | refine rd_cmR ?_
  | refine rd_makeC ?_
  | refine rd_tM1 ?_
  | refine rd_fmtT ?_
  | refine ⟨rd_exs, ?_⟩
  | refine rd_listZip ?_
  | refine rd_lenSetS ?_
  | refine rd_sfld ?_
  | refine rd_jc ?_
  | refine rd_jn ?_
  | refine rd_par ?_
  | refine rd_par3 ?_
  | refine rd_dupd ?_
  | refine rd_disp ?_
  | refine rd_pc ?_
  | refine rd_pn ?_
  | refine rd_dni ?_
  | refine rd_dget ?_
  | refine rd_dget2 ?_
  | refine rd_dput ?_
  | refine rd_T ?_
  | refine rd_F ?_
  | refine rd_nT ?_
  | refine rd_nF ?_))
/-! ### tuples stay -/
def Kt (H H' : Hp) : Prop := ∀ a o, H a = some o → (∃ xs, o = .tup xs ∨ ∃ ob, o = .frz ob (.tup xs)) → H' a = some o
theorem Kt.refl (H : Hp) : Kt H H := fun _ _ h _ => h
theorem Kt.trans {H H1 H2 : Hp} (a : Kt H H1) (b : Kt H1 H2) : Kt H H2 := fun x o h n => b x o (a x o h n) n
theorem kt_same {H H' : Hp} (s : Same H H') : Kt H H' := fun a o h _ => s a o h
theorem kt_ins {H : Hp} {x C dx : Addr} {fs : List (Str × V)} {o : HO} (h : H x = some (.ins C dx fs)) : Kt H (upd H x o) := fun a u e n => by
  rw [upd_ne (fun z => by
    subst z; rw [h] at e
    obtain ⟨xs, n | ⟨ob, n⟩⟩ := n <;> rw [n] at e <;> cases e)]
  exact e
section
variable {K : PySem.W.Frag} {H H' : Hp}
theorem sqT_kt {a : Addr} {xs : List V} (k : Kt H H') (h : SqT K H a xs) : SqT K H' a xs := by
  rcases h with (h | ⟨o, h⟩) | h
  · exact .inl (.inl (k a _ h ⟨xs, .inl rfl⟩))
  · exact .inl (.inr ⟨o, k a _ h ⟨xs, .inr ⟨o, rfl⟩⟩⟩)
  · exact .inr h
mutual
theorem Tp.kt (k : Kt H H') : ∀ {d : PyData} {v : V}, Tp K H v d → Tp K H' v d
  | .int i, _, h => by cases h; exact .int _
  | .str x, _, h => by cases h; exact .str _
  | .tuple ds, _, h => by cases h with | tup h1 h2 => exact .tup (sqT_kt k h1) (Tps.kt k h2)
  | .none, _, h => by cases h
  | .bool _, _, h => by cases h
  | .list _, _, h => by cases h
  | .dict _, _, h => by cases h
theorem Tps.kt (k : Kt H H') : ∀ {ds : List PyData} {vs : List V}, Tps K H vs ds → Tps K H' vs ds
  | [], _, h => by cases h; exact .nil
  | d :: ds, _, h => by cases h with | cons h1 h2 => exact .cons (Tp.kt k h1) (Tps.kt k h2)
end
end
section
variable {P : Program} {w : World} {K : PySem.W.Frag} {mg : Str → Option Value} {base : Heap} {C : Ad}
theorem rd_sfld {ta tv : TE} {f : Str} {nx bk ct : L2.St → Hp → Prop} {rt : VK} {σ : L2.St} {H : Hp} (h : tv σ H fun y H1 => ta σ H1 fun x H2 => ∃ a C dx fs, x = .ref a ∧ H2 a = some (.ins C dx fs) ∧ Cls K C ∧ NoAttr K C f ∧ fs.length < 1000 ∧ nx σ (upd H2 a (.ins C dx (putF f y fs)))) : sFld K ta tv f ⟨nx, rt, bk, ct⟩ σ H := h
theorem plw_app (w : Str) : ∀ (p : Nat) (A B : List Nd), plw w p (A ++ B) = plw w p A ++ plw w (p + A.length) B
  | p, [], B => by rw [plw]; rfl
  | p, n :: A, B => by
    rw [List.cons_append, plw, plw, plw_app w (p + 1) A B, List.length_cons, show p + 1 + A.length = p + (A.length + 1) by omega]
    split <;> rfl
theorem plw_len (w : Str) : ∀ (p : Nat) (A : List Nd), (plw w p A).length ≤ A.length
  | p, [] => by rw [plw]; exact Nat.le_refl _
  | p, n :: A => by
    rw [plw]
    have := plw_len w (p + 1) A
    split <;> simp <;> omega
def sp_places_with (K : PySem.W.Frag) : Sp := fun vs H Q _ => ∃ v ns wd, vs = [v, .str wd] ∧ Tp K H v (nodesD ns) ∧ ns.length ≤ 40 ∧ ∀ p H', Same H H' → SqT K H' p ((plw wd 0 ns).map vI) → Q (.ref p) H'
theorem ok_places_with (T : Ty K mg C) : Gf P w K mg base "places_with" 1 (sp_places_with K) := by
  refine T.d_places_with.ok sc_places_with (fun vs H Q E h => ?_) (fun f cdv A outer s H vs Q E hr h => ?_)
  · obtain ⟨a, S, wd, rfl, _⟩ := h
    rfl
  obtain ⟨v, ns, wd, rfl, hv, hz, k⟩ := h
  obtain ⟨a, xs, rfl, ha, hx⟩ := tp_nodesE hv
  have hlen : xs.length = ns.length := by rw [hx.len, List.length_map]
  refine ⟨_, (pss_one (ps_ret (pe_callTy c_tupS rfl T.f_tuple (by decide +kernel) (pa_cons (pe_lc (own := [("at", 2), ("node", 3)]) rfl sc_places_with.nd (pi_enumT rfl T.f_enumerate (pa_cons (pv 0) pa_nil)) (blkOk_by (own := [("at", 2), ("node", 3)]) (N := ["nodes", "word", "at", "node"]) (sc := defScope s_places_with) (by decide +kernel)) (fun _ _ _ _ _ => (tupG_k (K := K) (n := 2) rfl rfl (pgs_cons (pg_name (i := 2) sc_places_with.nd rfl (Or.inl rfl)) (pgs_cons (pg_name (i := 3) sc_places_with.nd rfl (Or.inl rfl)) pgs_nil)))) (fun _ _ _ _ _ => (pts_one (pt_cmpR op_eq (pe_ix (ixT_k (K := K) rfl) (pv 3) pe_int (fun _ _ => rfl)) (pv 1) (nomark _)))) (fun _ _ _ _ _ => (pv 2))) pa_nil)))), ?_⟩
  try dsimp only [nox_K]
  refine rd_st (σ' := [some (.ref a), some (.str wd), none, none]) rfl ?_
  walk_at "w"
  refine ⟨a, xs, rfl, ha, fun D hD => ?_⟩
  refine lc_same walk_enumT (fun i acc _ => acc = (plw wd 0 (ns.take i)).map vI) (by omega) hD (fun _ _ _ _ h _ => h) rfl (fun H' s => sqT_kp (kp_same s) ha) ?_ ?_
  · rintro i acc x H1 H2 hi hl s1 hD' rfl ⟨Ta, k1, v1, rfl, hTa, rfl, hk, hx1⟩
    have hk1 : k1 = vI i := by simpa using hk.symm
    subst hk1
    obtain ⟨n, na, hn, rfl, hna⟩ := tps_get_nd (hx.kp (kp_same s1)) hx1
    have st := same_new hTa (.tup [vI i, .ref na])
    refine rd_gtup (sqT_of upd_same) rfl ?_
    walk_at "w"
    refine ⟨rfl, ?_⟩
    walk_at "w"
    refine rd_ixT (sqT_kp (kp_same st) hna) (v := .str n.1) rfl ?_
    walk_at "w"
    have htk := take_succ_get hn
    have hil : (ns.take i).length = i := by
      rw [List.length_take]
      have := (List.getElem?_eq_some_iff.mp hn).1
      omega
    by_cases hw : n.1 = wd
    · refine rd_dT hw ?_
      walk_at "w"
      refine lc_elt (R := fun i acc _ => acc = (plw wd 0 (ns.take i)).map vI) (by omega) hl hD' hD s1 st (fun _ _ _ _ h _ => h) ?_
      rw [htk, plw_app, List.map_append, hil, Nat.zero_add, plw, if_pos hw]; rfl
    · refine rd_dF hw ?_
      refine lc_skip (R := fun i acc _ => acc = (plw wd 0 (ns.take i)).map vI) hl hD' s1 st ?_
      rw [htk, plw_app, List.map_append, hil, Nat.zero_add, plw, if_neg hw, plw]
      simp
  · rintro acc H1 s1 hD' hl1 rfl
    walk_at "w"
    refine rd_tupS (SqL.of hD') fun q hq => ?_
    have e : ns.take xs.length = ns := by rw [hlen, List.take_length]
    refine k q _ (s1.trans (same_new hq _)) (sqT_of ?_)
    rw [upd_same, e]
/-- Nodes(..) -/
def sp_Nodes (C : Ad) : Sp := fun vs H Q _ => ∃ x dx v, vs = [.ref x, v] ∧ H x = some (.ins C.n dx []) ∧ Q .non (upd H x (.ins C.n dx [("told_nodes", v)]))
theorem ok_Nodes (T : Ty K mg C) : Ro P w K mg base (Mk K C.n) 1 (sp_Nodes C) := by
  refine T.i_n.ok sc_Nodes___init__ (fun vs H Q E h => ?_) (fun f cdv A outer s H vs Q E hr h => ?_)
  · obtain ⟨x, dx, v, rfl, _⟩ := h
    rfl
  obtain ⟨x, dx, v, rfl, hx, k⟩ := h
  refine ⟨_, (pss_one (ps_fld (pv 0) (pv 1) rfl)), ?_⟩
  try dsimp only [nox_K]
  refine rd_st (σ' := [some (.ref x), some v]) rfl ?_
  try refine rd_sfld ?_
  walk_at "w"
  exact ⟨x, C.n, dx, [], rfl, hx, T.cl_n, T.na_n_told_nodes, by simp, k⟩
end
end FN
set_option maxHeartbeats 4000000
namespace FN
open PySem PySem.Spec PyProof.Rows L2
local macro_rules | `(tactic| walk_at "w") => `(tactic| repeat (with_reducible first
  | refine rd_seq ?_
  | refine rd_asg ?_
  | refine rd_name ?_
  | refine rd_ret ?_
  | refine rd_drop ?_
  | refine rd_if ?_
  | refine rd_next ?_
  | refine rd_var (by k_dflt rfl) ?_
  | refine rd_c ?_
  | refine rd_op ?_
  | refine rd_un ?_
  | refine rd_test ?_
  | refine rd_B ?_
  | refine rd_I0 ?_
  | refine rd_U ?_
  | refine rd_eqI ?_
  | refine rd_neI ?_
  | refine rd_eqS ?_
  | refine rd_neS ?_
  | refine rd_and ?_
  | refine rd_or ?_
  | refine rd_not ?_
  | refine rd_andV ?_
  | refine rd_orV ?_
  | refine rd_notV ?_
  | refine rd_ife ?_
  | refine rd_chain ?_
  | refine rd_exb ?_
  | refine rd_exi ?_
  | refine rd_nil ?_
  | refine rd_cons ?_
  | refine rd_CB ?_
  | refine rd_G ?_
  | refine rd_fld ?_
  | refine rd_sl ?_
  | refine rd_part ?_
  | refine rd_noPart ?_
  | refine rd_leaf ?_
  | refine rd_tup ?_
  | refine rd_lst ?_
  | refine rd_star ?_
  | refine rd_bm ?_
  | refine rd_bm0 ?_
  | refine rd_gsub ?_
  | refine rd_rev ?_
  | refine rd_gnil ?_
  | refine rd_gcons ?_
  | refine rd_yes ?_
  | refine rd_abs ?_
  | refine rd_max2 ?_
  | refine rd_min2 ?_
  | refine rd_int1 ?_
  | refine rd_int1b ?_
  | refine rd_inSign ?_
  | refine rd_niSign ?_
  | refine rd_isN ?_
  | refine rd_ntN ?_
  | refine rd_dcLst ?_
  | refine rd_dcTup ?_
  | refine rd_dcItems ?_
  | refine rd_lcTup ?_
  | refine rd_lcLst ?_
  | refine rd_lcStr ?_
  | refine rd_lcR1 ?_
  | refine rd_lcR2 ?_
  | refine rd_lcKeys ?_
  | refine rd_lcVals ?_
  | refine rd_lcItems ?_
  | refine rd_lcZip ?_
  | refine rd_forTup ?_
  | refine rd_forLst ?_
  | refine rd_forR1 ?_
  | refine rd_forR2 ?_
  | refine rd_forR3 ?_
  | refine rd_forZip ?_
  | refine rd_forItems ?_
  | refine rd_lcEnumT ?_
  | refine rd_forEnumT ?_
  | refine rd_oneStr ?_
  | refine rd_mkR ?_
  | refine rd_mk0 ?_
  | refine rd_mR ?_
  | refine rd_mN ?_
  | refine rd_pr ?_
  | refine rd_cmR ?_
  | refine rd_makeC ?_
  | refine rd_tM1 ?_
  | refine rd_fmtT ?_
  | refine ⟨rd_exs, ?_⟩
  | refine rd_listZip ?_
  | refine rd_lenSetS ?_
  | refine rd_sfld ?_
  | refine rd_jc ?_
  | refine rd_jn ?_
  | refine rd_par ?_
  | refine rd_par3 ?_
  | refine rd_dupd ?_
  | refine rd_disp ?_
  | refine rd_pc ?_
  | refine rd_pn ?_
  | refine rd_dni ?_
  | refine rd_dget ?_
  | refine rd_dget2 ?_
  | refine rd_dput ?_
  | refine rd_T ?_
  | refine rd_F ?_
  | refine rd_nT ?_
  | refine rd_nF ?_))
section
variable {P : Program} {w : World} {K : PySem.W.Frag} {mg : Str → Option Value} {base : Heap} {C : Ad}
/-- what Term(..) is given: the nodes, or a box of them -/
def NdIn (K : PySem.W.Frag) (C : Ad) (H : Hp) (v : V) (t : Tm) : Prop := Tp K H v (nodesD (nodes t)) ∨ ∃ b dn u, v = .ref b ∧ H b = some (.ins C.n dn [("told_nodes", u)]) ∧ Tp K H u (nodesD (nodes t))
def sp_TermI (K : PySem.W.Frag) (C : Ad) : Sp := fun vs H Q _ => ∃ x dx v t, vs = [.ref x, v] ∧ H x = some (.ins C.t dx []) ∧ NdIn K C H v t ∧ TmW t ∧ ∀ H', FrD x H H' → TermAt K C H' x t → Q .non H'
theorem FrD.upd {x : Addr} {H : Hp} {o : HO} : FrD x H (upd H x o) := fun a u n e => by rw [upd_ne n]; exact e
theorem symOk_of {ns F : List Nd} (h1 : F.length ≤ ns.length) (h2 : ∀ n, n ∈ F ↔ n ∈ ns ∧ n.1 ∉ [("_" : Str), ("#" : Str)]) : SymOk ns (F.map kvN) := ⟨F, rfl, h1, fun n hn => (h2 n).mp hn⟩
theorem ok_TermI (T : Ty K mg C) : Ro P w K mg base (Mk K C.t) 5 (sp_TermI K C) := by
  have G_is_term_row := ok_is_term_row (P := P) (w := w) (base := base) T
  have G_children_of := ok_children_of (P := P) (w := w) (base := base) T.toTx
  have G_arities_in := ok_arities_in (P := P) (w := w) (base := base) T
  have G_ends_of := ok_ends_of (P := P) (w := w) (base := base) T
  have G_places_with := ok_places_with (P := P) (w := w) (base := base) T
  refine T.i_t.ok sc_Term___init__ (fun vs H Q E h => ?_) (fun f cdv A outer s H vs Q E hr h => ?_)
  · obtain ⟨x, dx, v, t, rfl, _⟩ := h
    rfl
  obtain ⟨x, dx, v, t, rfl, hx, hv, ht, k⟩ := h
  have hz := ht.sz
  refine ⟨_, (pss_cons (ps_if (pt_val (pe_callB call_isi rfl T.f_isinstance (by decide +kernel) (pa_cons (pv 1) (pa_cons (pe_glob (v := .ref C.n) rfl T.g_Nodes rfl) pa_nil)))) (pss_one (ps_fld (pv 0) (pe_fld (pv 1) rfl) rfl)) (pss_one (ps_if (pt_not (pt_val (pe_g G_is_term_row (hr.mono (by decide)) (pa_cons (pv 1) pa_nil)))) (pss_one ps_never) (pss_one (ps_fld (pv 0) (pv 1) rfl)))))
    (pss_cons (ps_fld (pv 0) (pe_callTy c_tupS rfl T.f_tuple (by decide +kernel) (pa_cons (pe_g G_children_of (hr.mono (by decide)) (pa_cons (pe_fld (pv 0) rfl) pa_nil)) pa_nil)) rfl)
    (pss_cons (ps_fld (pv 0) (pe_callTy c_tupS rfl T.f_tuple (by decide +kernel) (pa_cons (pe_g G_ends_of (hr.mono (by decide)) (pa_cons (pe_fld (pv 0) rfl) pa_nil)) pa_nil)) rfl)
    (pss_cons (ps_fld (pv 0) (pe_g G_arities_in (hr.mono (by decide)) (pa_cons (pe_fld (pv 0) rfl) pa_nil)) rfl)
    (pss_cons (ps_fld (pv 0) (pe_g G_places_with (hr.mono (by decide)) (pa_cons (pe_fld (pv 0) rfl) (pa_cons (pe_gS T.c_ANY) pa_nil))) rfl)
    (pss_one (ps_fld (pv 0) (pe_g G_places_with (hr.mono (by decide)) (pa_cons (pe_fld (pv 0) rfl) (pa_cons (pe_gS T.c_LOST) pa_nil))) rfl))))))), ?_⟩
  try dsimp only [nox_K]
  refine rd_st (σ' := [some (.ref x), some v]) rfl ?_
  have rest : ∀ (H1 : Hp) (n : V), FrD x H H1 → H1 x = some (.ins C.t dx [("own_nodes", n)]) → Tp K H1 n (nodesD (nodes t)) →
      tSeq (sFld K (tVar 0) (tCB (rTupS K) (tCons (tG (sp_children_of K) (tCons (tFld K (tVar 0) "own_nodes") tNil)) tNil)) "own_children")
        (tSeq (sFld K (tVar 0) (tCB (rTupS K) (tCons (tG (sp_ends_of K) (tCons (tFld K (tVar 0) "own_children") tNil)) tNil)) "own_ends")
          (tSeq (sFld K (tVar 0) (tG (sp_arities_in K) (tCons (tFld K (tVar 0) "own_nodes") tNil)) "own_symbols")
            (tSeq (sFld K (tVar 0) (tG (sp_places_with K) (tCons (tFld K (tVar 0) "own_nodes") (tCons (tC (V.str "_")) tNil))) "own_unknown")
              (sFld K (tVar 0) (tG (sp_places_with K) (tCons (tFld K (tVar 0) "own_nodes") (tCons (tC (V.str "#")) tNil))) "own_lost"))))
        { nx := fun _ H' => Q .non H', rt := Q } [some (.ref x), some v] H1 := by
    intro H1 n fr hx1 hn
    obtain ⟨na, nxs, rfl, _, _⟩ := hn.tupE
    walk_at "w"
    try refine rd_sfld ?_
    walk_at "w"
    refine rd_Fld hx1 T.cl_t T.na_t_own_nodes rfl ?_
    walk_at "w"
    refine ⟨na, t, rfl, hn, hz, fun p1 H2 ys s2 hp1 hys => ?_⟩
    walk_at "w"
    refine rd_tupS (SqL.of hp1) fun c hc => ?_
    walk_at "w"
    have sc1 := same_new hc (.tup ys)
    have hx2 := (s2.trans sc1) _ _ hx1
    refine ⟨x, _, dx, _, rfl, hx2, T.cl_t, T.na_t_own_children, by simp, ?_⟩
    have kt1 : Kt H1 (upd (upd H2 c (.tup ys)) x (.ins C.t dx (putF "own_children" (.ref c) [("own_nodes", .ref na)]))) := (kt_same (s2.trans sc1)).trans (kt_ins hx2)
    have hcd : Tp K (upd (upd H2 c (.tup ys)) x (.ins C.t dx (putF "own_children" (.ref c) [("own_nodes", .ref na)]))) (.ref c) (.tuple ((ch 0 t).map intsD)) := (Tp.tup (sqT_of upd_same) (hys.kp (kp_same sc1))).kt (kt_ins hx2)
    have hn2 := hn.kt kt1
    have fr2 := fr.trans ((FrD.of (s2.trans sc1)).trans (FrD.upd (o := .ins C.t dx (putF "own_children" (.ref c) [("own_nodes", .ref na)]))))
    generalize hH3 : upd (upd H2 c (.tup ys)) x (.ins C.t dx (putF "own_children" (.ref c) [("own_nodes", .ref na)])) = H3 at *
    have hx3 : H3 x = some (.ins C.t dx [("own_nodes", .ref na), ("own_children", .ref c)]) := by rw [← hH3, upd_same]; rfl
    walk_at "w"
    try refine rd_sfld ?_
    walk_at "w"
    refine rd_Fld hx3 T.cl_t T.na_t_own_children rfl ?_
    walk_at "w"
    refine ⟨_, t, rfl, hcd, hz, fun p2 H4 s4 hp2 => ?_⟩
    walk_at "w"
    refine rd_tupS (SqL.of hp2) fun e he => ?_
    walk_at "w"
    have sc4 := same_new he (.tup ((en 0 t).map vI))
    have hx4 := (s4.trans sc4) _ _ hx3
    refine ⟨x, _, dx, _, rfl, hx4, T.cl_t, T.na_t_own_ends, by simp, ?_⟩
    have kt4 := (kt_same (s4.trans sc4)).trans (kt_ins (o := .ins C.t dx (putF "own_ends" (.ref e) [("own_nodes", .ref na), ("own_children", .ref c)])) hx4)
    have hed : SqT K (upd (upd H4 e (.tup ((en 0 t).map vI))) x (.ins C.t dx (putF "own_ends" (.ref e) [("own_nodes", .ref na), ("own_children", .ref c)]))) e ((en 0 t).map vI) := sqT_kt (kt_ins hx4) (sqT_of upd_same)
    have hn5 := hn2.kt kt4
    have hcd5 := hcd.kt kt4
    have fr5 := fr2.trans ((FrD.of (s4.trans sc4)).trans (FrD.upd (o := .ins C.t dx (putF "own_ends" (.ref e) [("own_nodes", .ref na), ("own_children", .ref c)]))))
    generalize hH5 : upd (upd H4 e (.tup ((en 0 t).map vI))) x (.ins C.t dx (putF "own_ends" (.ref e) [("own_nodes", .ref na), ("own_children", .ref c)])) = H5 at *
    have hx5 : H5 x = some (.ins C.t dx [("own_nodes", .ref na), ("own_children", .ref c), ("own_ends", .ref e)]) := by rw [← hH5, upd_same]; rfl
    walk_at "w"
    try refine rd_sfld ?_
    walk_at "w"
    refine rd_Fld hx5 T.cl_t T.na_t_own_nodes rfl ?_
    walk_at "w"
    refine ⟨_, _, rfl, hn5, ht.co, by rw [nodes_length]; exact hz, fun d H6 F s6 hd hF1 hF2 hF3 => ?_⟩
    walk_at "w"
    have hx6 := s6 _ _ hx5
    refine ⟨x, _, dx, _, rfl, hx6, T.cl_t, T.na_t_own_symbols, by simp, ?_⟩
    have kt6 := (kt_same s6).trans (kt_ins (o := .ins C.t dx (putF "own_symbols" (.ref d) [("own_nodes", .ref na), ("own_children", .ref c), ("own_ends", .ref e)])) hx6)
    have hn7 := hn5.kt kt6
    have hcd7 := hcd5.kt kt6
    have hed7 := sqT_kt kt6 hed
    have fr7 := fr5.trans ((FrD.of s6).trans (FrD.upd (o := .ins C.t dx (putF "own_symbols" (.ref d) [("own_nodes", .ref na), ("own_children", .ref c), ("own_ends", .ref e)]))))
    have hdx : d ≠ x := fun z => by subst z; rw [hd] at hx6; cases hx6
    have hd7 : upd H6 x (.ins C.t dx (putF "own_symbols" (.ref d) [("own_nodes", .ref na), ("own_children", .ref c), ("own_ends", .ref e)])) d = some (.dK (F.map kvN)) := by rw [upd_ne hdx]; exact hd
    generalize hH7 : upd H6 x (.ins C.t dx (putF "own_symbols" (.ref d) [("own_nodes", .ref na), ("own_children", .ref c), ("own_ends", .ref e)])) = H7 at *
    have hx7 : H7 x = some (.ins C.t dx [("own_nodes", .ref na), ("own_children", .ref c), ("own_ends", .ref e), ("own_symbols", .ref d)]) := by rw [← hH7, upd_same]; rfl
    walk_at "w"
    try refine rd_sfld ?_
    walk_at "w"
    refine rd_Fld hx7 T.cl_t T.na_t_own_nodes rfl ?_
    walk_at "w"
    refine ⟨_, _, _, rfl, hn7, by rw [nodes_length]; exact hz, fun u H8 s8 hu => ?_⟩
    walk_at "w"
    have hx8 := s8 _ _ hx7
    refine ⟨x, _, dx, _, rfl, hx8, T.cl_t, T.na_t_own_unknown, by simp, ?_⟩
    have kt8 := (kt_same s8).trans (kt_ins (o := .ins C.t dx (putF "own_unknown" (.ref u) [("own_nodes", .ref na), ("own_children", .ref c), ("own_ends", .ref e), ("own_symbols", .ref d)])) hx8)
    have hn9 := hn7.kt kt8
    have hcd9 := hcd7.kt kt8
    have hed9 := sqT_kt kt8 hed7
    have hu9 := sqT_kt (kt_ins (o := .ins C.t dx (putF "own_unknown" (.ref u) [("own_nodes", .ref na), ("own_children", .ref c), ("own_ends", .ref e), ("own_symbols", .ref d)])) hx8) hu
    have fr9 := fr7.trans ((FrD.of s8).trans (FrD.upd (o := .ins C.t dx (putF "own_unknown" (.ref u) [("own_nodes", .ref na), ("own_children", .ref c), ("own_ends", .ref e), ("own_symbols", .ref d)]))))
    have hd9 : upd H8 x (.ins C.t dx (putF "own_unknown" (.ref u) [("own_nodes", .ref na), ("own_children", .ref c), ("own_ends", .ref e), ("own_symbols", .ref d)])) d = some (.dK (F.map kvN)) := by rw [upd_ne hdx]; exact s8 _ _ hd7
    generalize hH9 : upd H8 x (.ins C.t dx (putF "own_unknown" (.ref u) [("own_nodes", .ref na), ("own_children", .ref c), ("own_ends", .ref e), ("own_symbols", .ref d)])) = H9 at *
    have hx9 : H9 x = some (.ins C.t dx [("own_nodes", .ref na), ("own_children", .ref c), ("own_ends", .ref e), ("own_symbols", .ref d), ("own_unknown", .ref u)]) := by rw [← hH9, upd_same]; rfl
    try refine rd_sfld ?_
    walk_at "w"
    refine rd_Fld hx9 T.cl_t T.na_t_own_nodes rfl ?_
    walk_at "w"
    refine ⟨_, _, _, rfl, hn9, by rw [nodes_length]; exact hz, fun l H10 s10 hl => ?_⟩
    walk_at "w"
    have hx10 := s10 _ _ hx9
    refine ⟨x, _, dx, _, rfl, hx10, T.cl_t, T.na_t_own_lost, by simp, ?_⟩
    have kt10 := (kt_same s10).trans (kt_ins (o := .ins C.t dx (putF "own_lost" (.ref l) [("own_nodes", .ref na), ("own_children", .ref c), ("own_ends", .ref e), ("own_symbols", .ref d), ("own_unknown", .ref u)])) hx10)
    refine k _ (fr9.trans ((FrD.of s10).trans FrD.upd)) ⟨dx, na, c, e, d, u, l, _, ?_, hn9.kt kt10, hcd9.kt kt10, sqT_kt kt10 hed9, ?_, symOk_of hF1 hF3, sqT_kt kt10 hu9, sqT_kt (kt_ins hx10) hl⟩
    · rw [upd_same]; rfl
    · rw [upd_ne hdx]; exact s10 _ _ hd9
  walk_at "w"
  rcases hv with hv | ⟨b, dn, u, rfl, hb, hu⟩
  · obtain ⟨na, nxs, rfl, hna, _⟩ := hv.tupE
    refine rd_isi_x (tyX_sqT hna) T.kb_un ?_
    walk_at "w"
    refine ⟨_, t, rfl, hv, ht, fun H1 s1 => ?_⟩
    walk_at "w"
    try refine rd_sfld ?_
    walk_at "w"
    have hx1 := s1 _ _ hx
    refine ⟨x, _, dx, _, rfl, hx1, T.cl_t, T.na_t_own_nodes, by simp, ?_⟩
    exact rest _ _ ((FrD.of s1).trans FrD.upd) upd_same (hv.kt ((kt_same s1).trans (kt_ins hx1)))
  · refine rd_isi_x (tyX_ins hb T.cl_n T.isi_n) T.kb_nn ?_
    walk_at "w"
    try refine rd_sfld ?_
    walk_at "w"
    refine rd_Fld hb T.cl_n T.na_n_told_nodes rfl ?_
    walk_at "w"
    refine ⟨x, _, dx, _, rfl, hx, T.cl_t, T.na_t_own_nodes, by simp, ?_⟩
    exact rest _ _ FrD.upd upd_same (hu.kt (kt_ins hx))
end
end FN
set_option maxHeartbeats 4000000
namespace FN
open PySem PySem.Spec PyProof.Rows L2
local macro_rules | `(tactic| walk_at "w") => `(tactic| repeat (with_reducible first
  | refine rd_seq ?_
  | refine rd_asg ?_
  | refine rd_name ?_
  | refine rd_ret ?_
  | refine rd_drop ?_
  | refine rd_if ?_
  | refine rd_next ?_
  | refine rd_var (by k_dflt rfl) ?_
  | refine rd_c ?_
  | refine rd_op ?_
  | refine rd_un ?_
  | refine rd_test ?_
  | refine rd_B ?_
  | refine rd_I0 ?_
  | refine rd_U ?_
  | refine rd_eqI ?_
  | refine rd_neI ?_
  | refine rd_eqS ?_
  | refine rd_neS ?_
  | refine rd_and ?_
  | refine rd_or ?_
  | refine rd_not ?_
  | refine rd_andV ?_
  | refine rd_orV ?_
  | refine rd_notV ?_
  | refine rd_ife ?_
  | refine rd_chain ?_
  | refine rd_exb ?_
  | refine rd_exi ?_
  | refine rd_nil ?_
  | refine rd_cons ?_
  | refine rd_CB ?_
  | refine rd_G ?_
  | refine rd_fld ?_
  | refine rd_sl ?_
  | refine rd_part ?_
  | refine rd_noPart ?_
  | refine rd_leaf ?_
  | refine rd_tup ?_
  | refine rd_lst ?_
  | refine rd_star ?_
  | refine rd_bm ?_
  | refine rd_bm0 ?_
  | refine rd_gsub ?_
  | refine rd_rev ?_
  | refine rd_gnil ?_
  | refine rd_gcons ?_
  | refine rd_yes ?_
  | refine rd_abs ?_
  | refine rd_max2 ?_
  | refine rd_min2 ?_
  | refine rd_int1 ?_
  | refine rd_int1b ?_
  | refine rd_inSign ?_
  | refine rd_niSign ?_
  | refine rd_isN ?_
  | refine rd_ntN ?_
  | refine rd_dcLst ?_
  | refine rd_dcTup ?_
  | refine rd_dcItems ?_
  | refine rd_lcTup ?_
  | refine rd_lcLst ?_
  | refine rd_lcStr ?_
  | refine rd_lcR1 ?_
  | refine rd_lcR2 ?_
  | refine rd_lcKeys ?_
  | refine rd_lcVals ?_
  | refine rd_lcItems ?_
  | refine rd_lcZip ?_
  | refine rd_forTup ?_
  | refine rd_forLst ?_
  | refine rd_forR1 ?_
  | refine rd_forR2 ?_
  | refine rd_forR3 ?_
  | refine rd_forZip ?_
  | refine rd_forItems ?_
  | refine rd_lcEnumT ?_
  | refine rd_forEnumT ?_
  | refine rd_oneStr ?_
  | refine rd_mkR ?_
  | refine rd_mk0 ?_
  | refine rd_mR ?_
  | refine rd_mN ?_
  | refine rd_pr ?_
  | refine rd_cmR ?_
  | refine rd_makeC ?_
  | refine rd_tM1 ?_
  | refine rd_fmtT ?_
  | refine ⟨rd_exs, ?_⟩
  | refine rd_listZip ?_
  | refine rd_lenSetS ?_
  | refine rd_sfld ?_
  | refine rd_jc ?_
  | refine rd_jn ?_
  | refine rd_par ?_
  | refine rd_par3 ?_
  | refine rd_dupd ?_
  | refine rd_disp ?_
  | refine rd_pc ?_
  | refine rd_pn ?_
  | refine rd_dni ?_
  | refine rd_dget ?_
  | refine rd_dget2 ?_
  | refine rd_dput ?_
  | refine rd_T ?_
  | refine rd_F ?_
  | refine rd_nT ?_
  | refine rd_nF ?_))
mutual
/-- a term's text -/
def tx : Tm → Str
  | .mk w ts => if ts.length = 0 then w else w ++ "(" ++ Txt.join ", " (txL ts) ++ ")"
def txL : List Tm → List Str
  | [] => []
  | t :: r => tx t :: txL r
end
mutual
def dep : Tm → Nat
  | .mk _ ts => depL ts + 1
def depL : List Tm → Nat
  | [] => 0
  | t :: r => max (dep t) (depL r)
end
theorem txL_map : ∀ ts : List Tm, txL ts = ts.map tx
  | [] => rfl
  | t :: r => by rw [txL, txL_map r, List.map_cons]
theorem dep_mem : ∀ {ts : List Tm} {t : Tm}, t ∈ ts → dep t ≤ depL ts
  | u :: r, t, h => by
    rw [depL]
    rcases List.mem_cons.mp h with rfl | h
    · omega
    · have := dep_mem h; omega
theorem dep_pos (t : Tm) : 1 ≤ dep t := by cases t; rw [dep]; omega
mutual
theorem dep_size : ∀ t : Tm, dep t ≤ size t
  | .mk w ts => by rw [dep, size]; have := depL_sizes ts; omega
theorem depL_sizes : ∀ ts : List Tm, depL ts ≤ sizes ts
  | [] => by rw [depL, sizes]; omega
  | t :: r => by rw [depL, sizes]; have := dep_size t; have := depL_sizes r; omega
end
theorem join_len (sep : Str) (ts : List Str) : (Txt.join sep ts).length ≤ (ts.map (·.length)).sum + ts.length * sep.length := by
  have e : (Txt.join sep ts).length = (ts.map (·.length)).sum + (ts.length - 1) * sep.length := PySem.size_glued sep ts
  rw [e]
  exact Nat.add_le_add_left (Nat.mul_le_mul_right _ (Nat.sub_le _ _)) _
def One (ns : List Nd) : Prop := ∀ n ∈ ns, n.1.length = 1
mutual
theorem tx_len : ∀ t : Tm, One (nodes t) → (tx t).length + 2 ≤ 5 * size t
  | .mk w ts, h => by
    rw [nodes] at h
    have h1 : w.length = 1 := h _ List.mem_cons_self
    have h2 := txL_len ts fun n hn => h n (List.mem_cons_of_mem _ hn)
    rw [tx, size]
    split
    · omega
    · have e : (w ++ "(" ++ Txt.join ", " (txL ts) ++ ")" : Str).length = w.length + 1 + (Txt.join ", " (txL ts)).length + 1 := by
        rw [Str.length_append, Str.length_append, Str.length_append]; rfl
      have := join_len ", " (txL ts)
      have e2 : (", " : Str).length = 2 := rfl
      rw [e2] at this
      omega
theorem txL_len : ∀ ts : List Tm, One (nodesL ts) → ((txL ts).map (·.length)).sum + (txL ts).length * 2 ≤ 5 * sizes ts
  | [], _ => by rw [txL, sizes]; simp
  | t :: r, h => by
    rw [nodesL] at h
    have h1 := tx_len t fun n hn => h n (List.mem_append_left _ hn)
    have h2 := txL_len r fun n hn => h n (List.mem_append_right _ hn)
    rw [txL, sizes, List.map_cons, List.sum_cons, List.length_cons]
    omega
end
theorem At.sub {t s : Tm} {k : Nat} (h : At t k s) : ∀ n ∈ nodes s, n ∈ nodes t := fun n hn => by
  rw [← h.nodes_cut] at hn
  exact List.mem_of_mem_drop (List.mem_of_mem_take hn)
theorem TmW.at {t s : Tm} {k : Nat} (h : TmW t) (a : At t k s) : TmW s := ⟨fun n hn => h.nd n (a.sub n hn), fun n hn m hm => h.co n (a.sub n hn) m (a.sub m hm), by have := a.size_le; have := h.sz; omega⟩
theorem TmW.one {t : Tm} (h : TmW t) : One (nodes t) := fun n hn => by
  obtain ⟨c, hc, _⟩ := h.nd n hn
  rw [hc]; rfl
section
variable {P : Program} {w : World} {K : PySem.W.Frag} {mg : Str → Option Value} {base : Heap} {C : Ad}
def sp_term_in (K : PySem.W.Frag) (C : Ad) : Sp := fun vs H Q _ => ∃ v t, vs = [v] ∧ Tp K H v (nodesD (nodes t)) ∧ TmW t ∧ ∀ x H', Same H H' → TermAt K C H' x t → Q (.ref x) H'
/-- a new instance's frame -/
theorem same_made {H H' : Hp} {x dx C : Addr} (hx : H x = none) (hd : H dx = none) (f : FrD x (upd (upd H dx (.own x)) x (.ins C dx [])) H') : Same H H' := fun a o h => by
  have hax : a ≠ x := ne_of_none h hx
  refine f a o hax ?_
  rw [upd_ne hax, upd_ne (ne_of_none h hd)]; exact h
theorem same_make {H : Hp} {x dx C : Addr} {fs : List (Str × V)} (hx : H x = none) (hd : H dx = none) : Same H (upd (upd H dx (.own x)) x (.ins C dx fs)) := fun a o h => by
  rw [upd_ne (ne_of_none h hx), upd_ne (ne_of_none h hd)]; exact h
theorem ok_term_in (T : Ty K mg C) : Gf P w K mg base "term_in" 7 (sp_term_in K C) := by
  have G_Term___init__ := (ok_TermI (P := P) (w := w) (base := base) T).rf
  have G_Nodes___init__ := (ok_Nodes (P := P) (w := w) (base := base) T).rf
  refine T.d_term_in.ok sc_term_in (fun vs H Q E h => ?_) (fun f cdv A outer s H vs Q E hr h => ?_)
  · obtain ⟨v, t, rfl, _⟩ := h
    rfl
  obtain ⟨v, t, rfl, hv, ht, k⟩ := h
  refine ⟨_, (pss_one (ps_ret (pe_mk G_Term___init__ (hr.mono (by decide)) T.g_Term (pa_cons (pe_mk G_Nodes___init__ (hr.mono (by decide)) T.g_Nodes (pa_cons (pv 0) pa_nil)) pa_nil)))), ?_⟩
  try dsimp only [nox_K]
  refine rd_st (σ' := [some v]) rfl ?_
  walk_at "w"
  intro b db hb hdb _
  refine ⟨b, db, v, rfl, upd_same, rfl, ?_⟩
  walk_at "w"
  have e1 : upd (upd (upd H db (.own b)) b (.ins C.n db [])) b (.ins C.n db [("told_nodes", v)]) = upd (upd H db (.own b)) b (.ins C.n db [("told_nodes", v)]) := by
    funext a
    by_cases z : a = b
    · subst z; rw [upd_same, upd_same]
    · rw [upd_ne z, upd_ne z, upd_ne z]
  rw [e1]
  have s1 : Same H (upd (upd H db (.own b)) b (.ins C.n db [("told_nodes", v)])) := same_make hb hdb
  generalize hH1 : upd (upd H db (.own b)) b (.ins C.n db [("told_nodes", v)]) = H1 at *
  have hb1 : H1 b = some (.ins C.n db [("told_nodes", v)]) := by rw [← hH1, upd_same]
  intro x dx hx hdx _
  have s2 : Same H1 (upd (upd H1 dx (.own x)) x (.ins C.t dx [])) := same_make hx hdx
  refine ⟨x, dx, _, t, rfl, upd_same, .inr ⟨b, db, v, rfl, s2 _ _ hb1, (hv.kp (kp_same s1)).kp (kp_same s2)⟩, ht, fun H' fr ta => ⟨rfl, ?_⟩⟩
  exact k x H' (s1.trans (same_made hx hdx fr)) ta
def sp_part_in (K : PySem.W.Frag) (C : Ad) : Sp := fun vs H Q _ => ∃ (a : Addr) (t : Tm) (p : Nat) (s : Tm), vs = [.ref a, vI p] ∧ TermAt K C H a t ∧ TmW t ∧ At t p s ∧ ∀ x H', Same H H' → TermAt K C H' x s → Q (.ref x) H'
theorem ok_part_in (T : Ty K mg C) : Gf P w K mg base "part_in" 8 (sp_part_in K C) := by
  have G_term_in := ok_term_in (P := P) (w := w) (base := base) T
  refine T.d_part_in.ok sc_part_in (fun vs H Q E h => ?_) (fun f cdv A outer s H vs Q E hr h => ?_)
  · obtain ⟨a, t, p, s, rfl, _⟩ := h
    rfl
  obtain ⟨a, t, p, s, rfl, ⟨dx, n, c, e, sd, u, l, kvs, R⟩, ht, hs, k⟩ := h
  refine ⟨_, (pss_one (ps_ret (pe_g G_term_in (hr.mono (by decide)) (pa_cons (pe_slice sl_tupA (pe_fld (pv 0) rfl) (po_some (pv 1)) (po_some (pe_ix ix_tup (pe_fld (pv 0) rfl) (pv 1) (fun _ _ => rfl)))) pa_nil)))), ?_⟩
  try dsimp only [nox_K]
  refine rd_st (σ' := [some (.ref a), some (vI p)]) rfl ?_
  walk_at "w"
  refine rd_Fld R.ob T.cl_t T.na_t_own_nodes rfl ?_
  walk_at "w"
  refine rd_Fld R.ob T.cl_t T.na_t_own_ends rfl ?_
  walk_at "w"
  refine rd_ixT R.ed (v := vI (p + size s)) (atI_nat (by rw [List.getElem?_map, hs.end_]; rfl)) ?_
  walk_at "w"
  obtain ⟨xs, hn, hx⟩ := R.nd.tupR
  refine rd_slA hn fun q H1 s1 hq => ?_
  walk_at "w"
  have hl : xs.length = size t := by rw [hx.len, List.length_map, nodes_length]
  have hle := hs.size_le
  rw [cut_mid xs p (p + size s) (by omega) (by omega), show p + size s - p = size s by omega] at hq
  refine ⟨_, s, rfl, .tup hq ?_, ht.at hs, fun x H2 s2 ta => k x H2 (s1.trans s2) ta⟩
  have := ((hx.drop p).take (size s)).kp (kp_same s1)
  rw [← List.map_drop, ← List.map_take, hs.nodes_cut] at this
  exact this
end
end FN
set_option maxHeartbeats 4000000
namespace FN
open PySem PySem.Spec PyProof.Rows L2
local macro_rules | `(tactic| walk_at "w") => `(tactic| repeat (with_reducible first
  | refine rd_seq ?_
  | refine rd_asg ?_
  | refine rd_name ?_
  | refine rd_ret ?_
  | refine rd_drop ?_
  | refine rd_if ?_
  | refine rd_next ?_
  | refine rd_var (by k_dflt rfl) ?_
  | refine rd_c ?_
  | refine rd_op ?_
  | refine rd_un ?_
  | refine rd_test ?_
  | refine rd_B ?_
  | refine rd_I0 ?_
  | refine rd_U ?_
  | refine rd_eqI ?_
  | refine rd_neI ?_
  | refine rd_eqS ?_
  | refine rd_neS ?_
  | refine rd_and ?_
  | refine rd_or ?_
  | refine rd_not ?_
  | refine rd_andV ?_
  | refine rd_orV ?_
  | refine rd_notV ?_
  | refine rd_ife ?_
  | refine rd_chain ?_
  | refine rd_exb ?_
  | refine rd_exi ?_
  | refine rd_nil ?_
  | refine rd_cons ?_
  | refine rd_CB ?_
  | refine rd_G ?_
  | refine rd_fld ?_
  | refine rd_sl ?_
  | refine rd_part ?_
  | refine rd_noPart ?_
  | refine rd_leaf ?_
  | refine rd_tup ?_
  | refine rd_lst ?_
  | refine rd_star ?_
  | refine rd_bm ?_
  | refine rd_bm0 ?_
  | refine rd_gsub ?_
  | refine rd_rev ?_
  | refine rd_gnil ?_
  | refine rd_gcons ?_
  | refine rd_yes ?_
  | refine rd_abs ?_
  | refine rd_max2 ?_
  | refine rd_min2 ?_
  | refine rd_int1 ?_
  | refine rd_int1b ?_
  | refine rd_inSign ?_
  | refine rd_niSign ?_
  | refine rd_isN ?_
  | refine rd_ntN ?_
  | refine rd_dcLst ?_
  | refine rd_dcTup ?_
  | refine rd_dcItems ?_
  | refine rd_lcTup ?_
  | refine rd_lcLst ?_
  | refine rd_lcStr ?_
  | refine rd_lcR1 ?_
  | refine rd_lcR2 ?_
  | refine rd_lcKeys ?_
  | refine rd_lcVals ?_
  | refine rd_lcItems ?_
  | refine rd_lcZip ?_
  | refine rd_forTup ?_
  | refine rd_forLst ?_
  | refine rd_forR1 ?_
  | refine rd_forR2 ?_
  | refine rd_forR3 ?_
  | refine rd_forZip ?_
  | refine rd_forItems ?_
  | refine rd_lcEnumT ?_
  | refine rd_forEnumT ?_
  | refine rd_oneStr ?_
  | refine rd_mkR ?_
  | refine rd_mk0 ?_
  | refine rd_mR ?_
  | refine rd_mN ?_
  | refine rd_pr ?_
  | refine rd_cmR ?_
  | refine rd_makeC ?_
  | refine rd_tM1 ?_
  | refine rd_fmtT ?_
  | refine ⟨rd_exs, ?_⟩
  | refine rd_listZip ?_
  | refine rd_lenSetS ?_
  | refine rd_sfld ?_
  | refine rd_jc ?_
  | refine rd_jn ?_
  | refine rd_par ?_
  | refine rd_par3 ?_
  | refine rd_dupd ?_
  | refine rd_disp ?_
  | refine rd_pc ?_
  | refine rd_pn ?_
  | refine rd_dni ?_
  | refine rd_dget ?_
  | refine rd_dget2 ?_
  | refine rd_dput ?_
  | refine rd_T ?_
  | refine rd_F ?_
  | refine rd_nT ?_
  | refine rd_nF ?_))
section
variable {P : Program} {w : World} {K : PySem.W.Frag} {mg : Str → Option Value} {base : Heap} {C : Ad}
theorem joinK {X : Cx} {o e : Expr} {to te : TE} {apos pos : Pos} (e0 : X.K = K) (ho : PE X o to) (he : PE X e te) (hs : starEach [e] X.env = [(false, eval e X.env)] := by rfl) (hbase : attributeBase o "join" X.env (eval o X.env) = eval o X.env := by rfl) (hline : (apos.endLine == pos.line) = true := by rfl) :
    PE X (.Call (.Attribute o "join" apos) [e] [] pos) (tM1 (fun x xs H Q => ∃ a p, ∃ ys : List Str, x = .str a ∧ xs = [.ref p] ∧ (SqL K H p (ys.map V.str) ∨ SqT K H p (ys.map V.str)) ∧
      (ys.map (·.length)).sum + ys.length * a.length ≤ 16777216 ∧ Q (.str (Txt.join a ys)) H) to te) := e0 ▸ pe_join ho he hs hbase hline
def sp_text_of (K : PySem.W.Frag) (n : Nat) : Sp := fun vs H Q _ => ∃ nv cv t p s, vs = [nv, cv, vI p] ∧ Tp K H nv (nodesD (nodes t)) ∧ Tp K H cv (.tuple ((ch 0 t).map intsD)) ∧ TmW t ∧ At t p s ∧ dep s ≤ n ∧ ∀ H', Same H H' → Q (.str (tx s)) H'
theorem ok_text_of (T : Ty K mg C) : ∀ n, Gf P w K mg base "text_of" (n + 1) (sp_text_of K n)
  | 0 => by
    refine T.d_text_of.ok sc_text_of (fun vs H Q E h => ?_) (fun f cdv A outer s H vs Q E hr h => ?_)
    · obtain ⟨nv, cv, t, p, s, rfl, _⟩ := h
      rfl
    · obtain ⟨nv, cv, t, p, s, rfl, _, _, _, _, hd, _⟩ := h
      have := dep_pos s
      omega
  | n + 1 => by
    have G_text_of := ok_text_of T n
    refine T.d_text_of.ok sc_text_of (fun vs H Q E h => ?_) (fun f cdv A outer s H vs Q E hr h => ?_)
    · obtain ⟨nv, cv, t, p, s, rfl, _⟩ := h
      rfl
    obtain ⟨nv, cv, t, p, ⟨wd, ts⟩, rfl, hn, hc, ht, hs, hd, k⟩ := h
    refine ⟨_, (pss_cons (ps_if (pt_cmpR (op_eqD hr.units) (pe_ix ix_tup (pv 1) (pv 2) (fun _ _ => rfl)) (pe_tup pa_nil) (nomark _)) (pss_one (ps_ret (pe_ix ix_tup (pe_ix ix_tup (pv 0) (pv 2) (fun _ _ => rfl)) pe_int (fun _ _ => rfl)))) pss_nil)
      (pss_one (ps_ret (pe_op o_addS (pe_op o_addS (pe_op o_addS (pe_ix ix_tup (pe_ix ix_tup (pv 0) (pv 2) (fun _ _ => rfl)) pe_int (fun _ _ => rfl)) pe_str) (pe_join pe_str (pe_lc (own := [("child", 3)]) rfl sc_text_of.nd (pi_tup (pe_ix ix_tup (pv 1) (pv 2) (fun _ _ => rfl))) (blkOk_by (own := [("child", 3)]) (N := ["nodes", "children", "at", "child"]) (sc := defScope s_text_of) (by decide +kernel)) (fun _ _ _ _ _ => (pg_name (i := 3) sc_text_of.nd rfl (Or.inl rfl))) (fun _ _ _ _ _ => pts_nil) (fun _ _ _ _ _ => (pe_g G_text_of (hr.mono (Nat.le_refl _)) (pa_cons (pv 0) (pa_cons (pv 1) (pa_cons (pv 3) pa_nil)))))))) pe_str)))), ?_⟩
    try dsimp only [nox_K]
    refine rd_st (σ' := [some nv, some cv, some (vI p), none]) rfl ?_
    obtain ⟨na, nxs, rfl, hna, hnx⟩ := hn.tupE
    obtain ⟨ca, cxs, rfl, hca, hcx⟩ := hc.tupE
    obtain ⟨ea, he1, he2⟩ : ∃ v, cxs[p]? = some v ∧ Tp K H v (intsD (pl (p + 1) ts)) := hcx.get (i := p) (by rw [List.getElem?_map, hs.chd]; rfl)
    obtain ⟨la, lxs, rfl, hla0, _⟩ := he2.tupE
    have hla := tp_intsE he2
    obtain ⟨nn, hn1, hn2⟩ : ∃ v, nxs[p]? = some v ∧ Tp K H v (ndD (wd, ts.length)) := hnx.get (i := p) (by rw [List.getElem?_map, hs.node]; rfl)
    obtain ⟨nda, rfl, hnd⟩ := tp_ndE hn2
    have h1w := ht.one
    have hwl : wd.length = 1 := h1w _ (List.mem_of_getElem? hs.node)
    walk_at "w"
    refine rd_ixT hca (atI_nat he1) ?_
    walk_at "w"
    refine ⟨small (by simp), fun q hq => ?_⟩
    have sq := same_new hq (.tup [])
    refine rd_eqIs (a := pl (p + 1) ts) (b := []) (he2.kp (kp_same sq)) (tp_ints (sqT_of upd_same)) ?_
    walk_at "w"
    by_cases hts : ts = []
    · subst hts
      refine rd_dT rfl ?_
      walk_at "w"
      refine rd_ixT (sqT_kp (kp_same sq) hna) (atI_nat hn1) ?_
      walk_at "w"
      refine rd_ixT (sqT_kp (kp_same sq) hnd) (v := .str wd) rfl ?_
      have := k _ sq
      rw [tx, if_pos (show ([] : List Tm).length = 0 from rfl)] at this
      exact this
    · have hne : ¬ pl (p + 1) ts = [] := by
        intro q0
        have := pl_length (p + 1) ts
        rw [q0] at this
        exact hts (List.length_eq_zero_iff.mp this.symm)
      refine rd_dF hne ?_
      walk_at "w"
      refine rd_ixT (sqT_kp (kp_same sq) hna) (atI_nat hn1) ?_
      walk_at "w"
      refine rd_ixT (sqT_kp (kp_same sq) hnd) (v := .str wd) rfl ?_
      walk_at "w"
      refine rd_addS (by rw [hwl]; decide) ?_
      walk_at "w"
      refine rd_ixT (sqT_kp (kp_same sq) hca) (atI_nat he1) ?_
      walk_at "w"
      have hla2 := sqT_kp (kp_same sq) hla
      refine rd_oneTup hla2 fun D hD => ?_
      have hz := ht.sz
      have hle := hs.size_le
      have hsz : sizes ts + 1 = size (Tm.mk wd ts) := by rw [size]
      have hlt := sizes_len ts
      refine lc_map walk_tup (fun i y _ => ∃ c, ts[i]? = some c ∧ y = .str (tx c)) (by rw [List.length_map, pl_length]; omega) hD (fun _ _ _ _ h _ => h) (fun H' s => sqT_kp (kp_same s) hla2) ?_ ?_
      · rintro i acc x H1 H2 hi hl s1 hD' r ⟨rfl, hx1⟩
        rw [List.length_map, pl_length] at hi
        have hci : ts[i]? = some ts[i] := List.getElem?_eq_getElem hi
        have hpi : ∃ pp, (pl (p + 1) ts)[i]? = some pp := ⟨_, List.getElem?_eq_getElem (by rw [pl_length]; exact hi)⟩
        obtain ⟨pp, hpp⟩ := hpi
        rw [List.getElem?_map, hpp] at hx1
        have hx2 : x = vI pp := by simpa using hx1.symm
        subst hx2
        walk_at "w"
        refine ⟨rfl, ?_⟩
        walk_at "w"
        have hat := hs.child hci hpp
        refine ⟨_, _, t, pp, ts[i], rfl, (hn.kp (kp_same sq)).kp (kp_same s1), (hc.kp (kp_same sq)).kp (kp_same s1), ht, hat, ?_, fun H3 s3 => ?_⟩
        · have := dep_mem (List.mem_of_getElem? hci)
          rw [dep] at hd; omega
        · exact lc_put (by omega) hl hD' hD s1 s3 (fun _ _ _ _ h _ => h) r ⟨_, hci, rfl⟩
      · intro acc H1 s1 hD' hl1 hf
        rw [List.length_map, pl_length] at hl1
        have eacc : acc = (txL ts).map V.str := by
          rw [txL_map, List.map_map]
          refine List.ext_getElem? fun j => ?_
          rw [List.getElem?_map]
          cases q : acc[j]? with
          | none =>
            have := List.getElem?_eq_none_iff.mp q
            rw [List.getElem?_eq_none (by omega)]; rfl
          | some y =>
            obtain ⟨c, hc1, rfl⟩ := hf j y q
            rw [hc1]; rfl
        rw [eacc] at hD'
        have htl := txL_len ts fun n hn => h1w n (hs.sub n (by rw [nodes]; exact List.mem_cons_of_mem _ hn))
        have e2 : (", " : Str).length = 2 := rfl
        have hj := join_len ", " (txL ts)
        rw [e2] at hj
        refine ⟨", ", D, txL ts, rfl, rfl, .inl (SqL.of hD'), by rw [e2]; omega, ?_⟩
        have e1 : (("(" : Str)).length = 1 := rfl
        have e9 : ((")" : Str)).length = 1 := rfl
        refine rd_addS (by rw [Str.length_append, hwl, e1]; exact small (by omega)) ?_
        walk_at "w"
        refine rd_addS (by rw [Str.length_append, Str.length_append, hwl, e1, e9]; exact small (by omega)) ?_
        have := k H1 (sq.trans s1)
        rw [tx, if_neg (fun z => hts (List.length_eq_zero_iff.mp z))] at this
        exact this
def sp_text (K : PySem.W.Frag) (C : Ad) : Sp := fun vs H Q _ => ∃ a t, vs = [.ref a] ∧ TermAt K C H a t ∧ TmW t ∧ ∀ H', Same H H' → Q (.str (tx t)) H'
theorem ok_text (T : Ty K mg C) : Ro P w K mg base (PrC K C.t "text") 42 (sp_text K C) := by
  have G_text_of := ok_text_of (P := P) (w := w) (base := base) T 40
  refine T.p_text.ok sc_Term_text (fun vs H Q E h => ?_) (fun f cdv A outer s H vs Q E hr h => ?_)
  · obtain ⟨a, t, rfl, _⟩ := h
    rfl
  obtain ⟨a, t, rfl, ⟨dx, n, c, e, sd, u, l, kvs, R⟩, ht, k⟩ := h
  refine ⟨_, (pss_one (ps_ret (pe_g G_text_of (hr.mono (by decide)) (pa_cons (pe_fld (pv 0) rfl) (pa_cons (pe_fld (pv 0) rfl) (pa_cons pe_int pa_nil)))))), ?_⟩
  try dsimp only [nox_K]
  refine rd_st (σ' := [some (.ref a)]) rfl ?_
  walk_at "w"
  refine rd_Fld R.ob T.cl_t T.na_t_own_nodes rfl ?_
  walk_at "w"
  refine rd_Fld R.ob T.cl_t T.na_t_own_children rfl ?_
  walk_at "w"
  exact ⟨_, _, t, 0, t, rfl, R.nd, R.cd, ht, .root t, Nat.le_trans (dep_size t) ht.sz, k⟩
theorem ok_str (T : Ty K mg C) : Ro P w K mg base (FmC K C.t) 42 (sp_text K C) := by
  have G_text_of := ok_text_of (P := P) (w := w) (base := base) T 40
  refine T.s_t.ok sc_Term___str__ (fun vs H Q E h => ?_) (fun f cdv A outer s H vs Q E hr h => ?_)
  · obtain ⟨a, t, rfl, _⟩ := h
    rfl
  obtain ⟨a, t, rfl, ⟨dx, n, c, e, sd, u, l, kvs, R⟩, ht, k⟩ := h
  refine ⟨_, (pss_one (ps_ret (pe_callTy SkE.call_str_str rfl T.f_str (by decide +kernel) (pa_cons (pe_g G_text_of (hr.mono (by decide)) (pa_cons (pe_fld (pv 0) rfl) (pa_cons (pe_fld (pv 0) rfl) (pa_cons pe_int pa_nil)))) pa_nil)))), ?_⟩
  try dsimp only [nox_K]
  refine rd_st (σ' := [some (.ref a)]) rfl ?_
  walk_at "w"
  refine rd_Fld R.ob T.cl_t T.na_t_own_nodes rfl ?_
  walk_at "w"
  refine rd_Fld R.ob T.cl_t T.na_t_own_children rfl ?_
  walk_at "w"
  exact ⟨_, _, t, 0, t, rfl, R.nd, R.cd, ht, .root t, Nat.le_trans (dep_size t) ht.sz, fun H' s' => ⟨_, rfl, k H' s'⟩⟩
/-- the leaves of a word -/
abbrev lv (w : Str) (t : Tm) : List Nat := plw w 0 (nodes t)
def gr (t : Tm) : Bool := decide (lv "_" t = [] ∧ lv "#" t = [])
def sp_is_ground (K : PySem.W.Frag) (C : Ad) : Sp := fun vs H Q _ => ∃ a t, vs = [.ref a] ∧ TermAt K C H a t ∧ ∀ H', Same H H' → Q (.bl (gr t)) H'
theorem ok_is_ground (T : Ty K mg C) : Ro P w K mg base (PrC K C.t "is_ground") 1 (sp_is_ground K C) := by
  refine T.p_is_ground.ok sc_Term_is_ground (fun vs H Q E h => ?_) (fun f cdv A outer s H vs Q E hr h => ?_)
  · obtain ⟨a, t, rfl, _⟩ := h
    rfl
  obtain ⟨a, t, rfl, ⟨dx, n, c, e, sd, u, l, kvs, R⟩, k⟩ := h
  refine ⟨_, (pss_one (ps_ret (pe_and (pe_cmpR (op_eqD hr.units) (pe_fld (pv 0) rfl) (pe_tup pa_nil) (nomark _)) (pe_one (pe_cmpR (op_eqD hr.units) (pe_fld (pv 0) rfl) (pe_tup pa_nil) (nomark _)))))), ?_⟩
  try dsimp only [nox_K]
  refine rd_st (σ' := [some (.ref a)]) rfl ?_
  walk_at "w"
  refine rd_Fld R.ob T.cl_t T.na_t_own_unknown rfl ?_
  walk_at "w"
  refine ⟨small (by simp), fun q hq => ?_⟩
  have sq := same_new hq (.tup [])
  refine rd_eqIs (a := lv "_" t) (b := []) (tp_ints (sqT_kp (kp_same sq) R.ud)) (tp_ints (sqT_of upd_same)) ?_
  walk_at "w"
  by_cases h1 : lv "_" t = []
  · refine rd_dT h1 ?_
    walk_at "w"
    refine rd_Fld (sq _ _ R.ob) T.cl_t T.na_t_own_lost rfl ?_
    walk_at "w"
    refine ⟨small (by simp), fun q2 hq2 => ?_⟩
    have sq2 := same_new hq2 (.tup [])
    refine rd_eqIs (a := lv "#" t) (b := []) (tp_ints (sqT_kp (kp_same (sq.trans sq2)) R.ld)) (tp_ints (sqT_of upd_same)) ?_
    have := k _ (sq.trans sq2)
    unfold gr at this
    rw [show decide (lv "_" t = [] ∧ lv "#" t = []) = decide (lv "#" t = []) by simp only [h1, true_and]] at this
    exact this
  · refine rd_dF h1 ?_
    have := k _ sq
    unfold gr at this
    rw [decide_eq_false (fun z => h1 z.1)] at this
    exact this
end
end FN
set_option maxHeartbeats 4000000
namespace FN
open PySem PySem.Spec PyProof.Rows L2
local macro_rules | `(tactic| walk_at "w") => `(tactic| repeat (with_reducible first
  | refine rd_seq ?_
  | refine rd_asg ?_
  | refine rd_name ?_
  | refine rd_ret ?_
  | refine rd_drop ?_
  | refine rd_if ?_
  | refine rd_next ?_
  | refine rd_var (by k_dflt rfl) ?_
  | refine rd_c ?_
  | refine rd_op ?_
  | refine rd_un ?_
  | refine rd_test ?_
  | refine rd_B ?_
  | refine rd_I0 ?_
  | refine rd_U ?_
  | refine rd_eqI ?_
  | refine rd_neI ?_
  | refine rd_eqS ?_
  | refine rd_neS ?_
  | refine rd_and ?_
  | refine rd_or ?_
  | refine rd_not ?_
  | refine rd_andV ?_
  | refine rd_orV ?_
  | refine rd_notV ?_
  | refine rd_ife ?_
  | refine rd_chain ?_
  | refine rd_exb ?_
  | refine rd_exi ?_
  | refine rd_nil ?_
  | refine rd_cons ?_
  | refine rd_CB ?_
  | refine rd_G ?_
  | refine rd_fld ?_
  | refine rd_sl ?_
  | refine rd_part ?_
  | refine rd_noPart ?_
  | refine rd_leaf ?_
  | refine rd_tup ?_
  | refine rd_lst ?_
  | refine rd_star ?_
  | refine rd_bm ?_
  | refine rd_bm0 ?_
  | refine rd_gsub ?_
  | refine rd_rev ?_
  | refine rd_gnil ?_
  | refine rd_gcons ?_
  | refine rd_yes ?_
  | refine rd_abs ?_
  | refine rd_max2 ?_
  | refine rd_min2 ?_
  | refine rd_int1 ?_
  | refine rd_int1b ?_
  | refine rd_inSign ?_
  | refine rd_niSign ?_
  | refine rd_isN ?_
  | refine rd_ntN ?_
  | refine rd_dcLst ?_
  | refine rd_dcTup ?_
  | refine rd_dcItems ?_
  | refine rd_lcTup ?_
  | refine rd_lcLst ?_
  | refine rd_lcStr ?_
  | refine rd_lcR1 ?_
  | refine rd_lcR2 ?_
  | refine rd_lcKeys ?_
  | refine rd_lcVals ?_
  | refine rd_lcItems ?_
  | refine rd_lcZip ?_
  | refine rd_forTup ?_
  | refine rd_forLst ?_
  | refine rd_forR1 ?_
  | refine rd_forR2 ?_
  | refine rd_forR3 ?_
  | refine rd_forZip ?_
  | refine rd_forItems ?_
  | refine rd_lcEnumT ?_
  | refine rd_forEnumT ?_
  | refine rd_oneStr ?_
  | refine rd_mkR ?_
  | refine rd_mk0 ?_
  | refine rd_mR ?_
  | refine rd_mN ?_
  | refine rd_pr ?_
  | refine rd_cmR ?_
  | refine rd_makeC ?_
  | refine rd_tM1 ?_
  | refine rd_fmtT ?_
  | refine ⟨rd_exs, ?_⟩
  | refine rd_listZip ?_
  | refine rd_lenSetS ?_
  | refine rd_sfld ?_
  | refine rd_jc ?_
  | refine rd_jn ?_
  | refine rd_par ?_
  | refine rd_par3 ?_
  | refine rd_dupd ?_
  | refine rd_disp ?_
  | refine rd_pc ?_
  | refine rd_pn ?_
  | refine rd_dni ?_
  | refine rd_dget ?_
  | refine rd_dget2 ?_
  | refine rd_dput ?_
  | refine rd_T ?_
  | refine rd_F ?_
  | refine rd_nT ?_
  | refine rd_nF ?_))
/-! ### list(zip(a, b)) -/
theorem zip_no_len : typeLookup (.type "zip") "__len__" = pure none := am_miss_of_fast (by decide +kernel)
theorem zip_no_hint : typeLookup (.type "zip") "__length_hint__" = pure none := am_miss_of_fast (by decide +kernel)
section
open PyProof.Rows PySem.W
variable {prog : Program} {w : World} {A : Around} {E : Value → Shared → Prop} {s : Shared}
theorem zipT_nextI {z TI TO T i1 i2 l1 l2 : Addr} {f : Bool} {oT : Obj} {k1 k2 : Nat} {xs ys : Array Value} {x y : Value} {Q : Value → Shared → Prop} (Z : ZipApart z TI TO i1 i2 l1 l2) (hz : IsZipHeld s.heap z TI TO T f) (hT : s.heap.get? T = some oT) (hTI : IsPair s.heap TI (.ref i1) (.ref i2))
    (h1 : s.heap.IsTupleIter i1 l1 k1) (h2 : s.heap.IsTupleIter i2 l2 k2) (hl1 : s.heap.IsTuple l1 xs) (hl2 : s.heap.IsTuple l2 ys) (hx : xs[k1]? = some x) (hy : ys[k2]? = some y)
    (hQ : ∀ h', IsZipHeld h' z TI TO T true → h'.IsTupleIter i1 l1 (k1 + 1) → h'.IsTupleIter i2 l2 (k2 + 1) → IsPair h' s.heap.objs.size x y → h'.objs.size = s.heap.objs.size + 1 → (∀ c o, c ≠ z → c ≠ i1 → c ≠ i2 → s.heap.get? c = some o → h'.get? c = some o) → Q (.ref s.heap.objs.size) { s with heap := h' }) :
    wpAny (model prog w) A (Builtin.«zip.__next__» ⟨[.ref z], []⟩) (fun fin s' => ∃ v, fin = .done (.ret v) ∧ Q v s') E s := by
  show wpAny _ _ (field (.ref z) 2 >>= _) _ _ _
  refine wpAny_bind (wpAny_field hz rfl (x := .bool false) rfl ?_)
  show wpAny _ _ (field (.ref z) 3 >>= _) _ _ _
  refine wpAny_bind (wpAny_field hz rfl (x := .ref TI) rfl ?_)
  refine wpAny_bind (wpAny_seqItems hTI rfl ?_)
  show wpAny _ _ (Builtin.SmallTypes.ownedTupleIsFree (.ref z) >>= _) _ _ _
  refine wpAny_bind (wpAny_tupleHeld_zip hz hT fun h₁ hz₁ hs₁ => ?_)
  simp only [Bool.false_eq_true, if_false]
  refine wpAny_bind ?_
  rw [← Array.forIn_toList]
  simp only [List.forIn_cons, List.forIn_nil]
  refine wpAny_bind (wpAny_bind (wpAny_holding ?_))
  show wpAny _ _ (Builtin.SmallTypes.nextOf (.ref i1) >>= _) _ _ _
  refine wpAny_bind (RZ.nextOf_tuple_item (s := { s with heap := h₁ }) (h1.extBut hs₁.extBut Z.i1z) (hl1.extBut hs₁.extBut Z.l1z) hx fun h₂ h1₂ hs₂ => wpAny_pure ?_)
  refine wpAny_pure ?_
  refine wpAny_bind (wpAny_bind (wpAny_holding ?_))
  show wpAny _ _ (Builtin.SmallTypes.nextOf (.ref i2) >>= _) _ _ _
  refine wpAny_bind (RZ.nextOf_tuple_item (s := { s with heap := h₂ }) ((h2.extBut hs₁.extBut Z.i2z).extBut hs₂.extBut Z.i12.symm) ((hl2.extBut hs₁.extBut Z.l2z).extBut hs₂.extBut Z.l2i1) hy fun h₃ h2₃ hs₃ => wpAny_pure ?_)
  refine wpAny_pure (wpAny_pure ?_)
  show wpAny _ _ (newTuple [x, y] >>= _) _ _ _
  refine wpAny_bind (wpAny_newTuple ?_)
  have hsz : h₃.objs.size = s.heap.objs.size := by rw [hs₃.1, hs₂.1, hs₁.1]
  have hz₃ : IsZipHeld h₃ z TI TO T true := hs₃.extBut _ _ Z.i2z.symm (hs₂.extBut _ _ Z.i1z.symm hz₁)
  have kp : ∀ c o, c ≠ z → c ≠ i1 → c ≠ i2 → s.heap.get? c = some o → h₃.get? c = some o := fun c o c1 c2 c3 e => hs₃.extBut _ _ c3 (hs₂.extBut _ _ c2 (hs₁.extBut _ _ c1 e))
  have h1₃ : h₃.IsTupleIter i1 l1 (k1 + 1) := h1₂.extBut hs₃.extBut Z.i12
  refine wpAny_pure ⟨_, rfl, ?_⟩
  show Q (.ref h₃.objs.size) _
  have hp : IsPair (h₃.push { cls := .type "tuple", data := .seq #[x, y] }) h₃.objs.size x y := Heap.get?_push_size _ rfl
  have hz4 : (h₃.push { cls := .type "tuple", data := .seq #[x, y] }).objs.size = h₃.objs.size + 1 := Heap.size_push ..
  rw [hsz] at hp hz4 ⊢
  exact hQ _ (Heap.get?_push_of_some _ hz₃) (h1₃.at fun o e => Heap.get?_push_of_some _ e) (h2₃.at fun o e => Heap.get?_push_of_some _ e) hp hz4 fun c o c1 c2 c3 e => Heap.get?_push_of_some _ (kp c o c1 c2 c3 e)
theorem zipT_nextE {z TI TO T i1 i2 l1 l2 : Addr} {f : Bool} {oT : Obj} {k1 k2 : Nat} {xs ys : Array Value} {Q : Fin → Shared → Prop} (hh : A.handled = none) (Z : ZipApart z TI TO i1 i2 l1 l2) (hz : IsZipHeld s.heap z TI TO T f) (hT : s.heap.get? T = some oT) (hTI : IsPair s.heap TI (.ref i1) (.ref i2))
    (h1 : s.heap.IsTupleIter i1 l1 k1) (h2 : s.heap.IsTupleIter i2 l2 k2) (hl1 : s.heap.IsTuple l1 xs) (hl2 : s.heap.IsTuple l2 ys) (hend : xs[k1]? = none ∨ ys[k2]? = none)
    (hE : ∀ h' e, (∀ c o, c ≠ z → c ≠ i1 → c ≠ i2 → s.heap.get? c = some o → h'.get? c = some o) → (∃ o, h'.get? e = some o ∧ o.cls = .type "StopIteration") → E (.ref e) { s with heap := h' }) :
    wpAny (model prog w) A (Builtin.«zip.__next__» ⟨[.ref z], []⟩) Q E s := by
  show wpAny _ _ (field (.ref z) 2 >>= _) _ _ _
  refine wpAny_bind (wpAny_field hz rfl (x := .bool false) rfl ?_)
  show wpAny _ _ (field (.ref z) 3 >>= _) _ _ _
  refine wpAny_bind (wpAny_field hz rfl (x := .ref TI) rfl ?_)
  refine wpAny_bind (wpAny_seqItems hTI rfl ?_)
  show wpAny _ _ (Builtin.SmallTypes.ownedTupleIsFree (.ref z) >>= _) _ _ _
  refine wpAny_bind (wpAny_tupleHeld_zip hz hT fun h₁ hz₁ hs₁ => ?_)
  simp only [Bool.false_eq_true, if_false]
  refine wpAny_bind ?_
  rw [← Array.forIn_toList]
  simp only [List.forIn_cons, List.forIn_nil]
  refine wpAny_bind (wpAny_bind (wpAny_holding ?_))
  show wpAny _ _ (Builtin.SmallTypes.nextOf (.ref i1) >>= _) _ _ _
  cases hx : xs[k1]? with
  | none =>
    refine wpAny_bind (RZ.nextOf_tuple_end (s := { s with heap := h₁ }) hh (h1.extBut hs₁.extBut Z.i1z) (hl1.extBut hs₁.extBut Z.l1z) hx fun h₂ e hs₂ he => ?_)
    exact hE h₂ e (fun c o c1 c2 _ x => hs₂ _ _ c2 (hs₁.extBut _ _ c1 x)) he
  | some x =>
    have hy : ys[k2]? = none := hend.resolve_left fun h => by rw [hx] at h; cases h
    refine wpAny_bind (RZ.nextOf_tuple_item (s := { s with heap := h₁ }) (h1.extBut hs₁.extBut Z.i1z) (hl1.extBut hs₁.extBut Z.l1z) hx fun h₂ h1₂ hs₂ => wpAny_pure ?_)
    refine wpAny_pure ?_
    refine wpAny_bind (wpAny_bind (wpAny_holding ?_))
    show wpAny _ _ (Builtin.SmallTypes.nextOf (.ref i2) >>= _) _ _ _
    refine wpAny_bind (RZ.nextOf_tuple_end (s := { s with heap := h₂ }) hh ((h2.extBut hs₁.extBut Z.i2z).extBut hs₂.extBut Z.i12.symm) ((hl2.extBut hs₁.extBut Z.l2z).extBut hs₂.extBut Z.l2i1) hy fun h₃ e hs₃ he => ?_)
    exact hE h₃ e (fun c o c1 c2 c3 x => hs₃ _ _ c3 (hs₂.extBut _ _ c2 (hs₁.extBut _ _ c1 x))) he
theorem zipT_pyI {z TI TO T i1 i2 l1 l2 : Addr} {f : Bool} {oT : Obj} {k1 k2 : Nat} {xs ys : Array Value} {x y : Value} {Q : Option Value → Shared → Prop} (Z : ZipApart z TI TO i1 i2 l1 l2) (hz : IsZipHeld s.heap z TI TO T f) (hT : s.heap.get? T = some oT) (hTI : IsPair s.heap TI (.ref i1) (.ref i2))
    (h1 : s.heap.IsTupleIter i1 l1 k1) (h2 : s.heap.IsTupleIter i2 l2 k2) (hl1 : s.heap.IsTuple l1 xs) (hl2 : s.heap.IsTuple l2 ys) (hx : xs[k1]? = some x) (hy : ys[k2]? = some y)
    (hQ : ∀ h', IsZipHeld h' z TI TO T true → h'.IsTupleIter i1 l1 (k1 + 1) → h'.IsTupleIter i2 l2 (k2 + 1) → IsPair h' s.heap.objs.size x y → h'.objs.size = s.heap.objs.size + 1 → (∀ c o, c ≠ z → c ≠ i1 → c ≠ i2 → s.heap.get? c = some o → h'.get? c = some o) → Q (some (.ref s.heap.objs.size)) { s with heap := h' }) :
    wpAny (model prog w) A (pyNext (.ref z)) Q E s := by
  have ty : s.TypeIs (.ref z) "zip" := ⟨_, hz, rfl⟩
  unfold pyNext
  exact wpAny_bind (wpAny_attempt (wpAny_callSpecial?_slot (name := Str.ofString "__next__") ty F.slot_zip_next
    (wpAny_call_entry F.slot_zip_next ty F.entry_zip_next (zipT_nextI Z hz hT hTI h1 h2 hl1 hl2 hx hy fun h' a1 a3 a4 a5 a6 a7 => wpAny_pure (hQ h' a1 a3 a4 a5 a6 a7)) (F.args_zip_next_1 _))))
theorem zipT_pyE {z TI TO T i1 i2 l1 l2 : Addr} {f : Bool} {oT : Obj} {k1 k2 : Nat} {xs ys : Array Value} {Q : Option Value → Shared → Prop} (hh : A.handled = none) (Z : ZipApart z TI TO i1 i2 l1 l2) (hz : IsZipHeld s.heap z TI TO T f) (hT : s.heap.get? T = some oT) (hTI : IsPair s.heap TI (.ref i1) (.ref i2))
    (h1 : s.heap.IsTupleIter i1 l1 k1) (h2 : s.heap.IsTupleIter i2 l2 k2) (hl1 : s.heap.IsTuple l1 xs) (hl2 : s.heap.IsTuple l2 ys) (hend : xs[k1]? = none ∨ ys[k2]? = none)
    (hQ : ∀ h', (∀ c o, c ≠ z → c ≠ i1 → c ≠ i2 → s.heap.get? c = some o → h'.get? c = some o) → Q none { s with heap := h' }) : wpAny (model prog w) A (pyNext (.ref z)) Q E s := by
  have ty : s.TypeIs (.ref z) "zip" := ⟨_, hz, rfl⟩
  unfold pyNext
  refine wpAny_bind (wpAny_attempt (wpAny_callSpecial?_slot (name := Str.ofString "__next__") ty F.slot_zip_next
    (wpAny_call_entry F.slot_zip_next ty F.entry_zip_next (zipT_nextE hh Z hz hT hTI h1 h2 hl1 hl2 hend fun h' e hk he => ?_) (F.args_zip_next_1 _))))
  obtain ⟨o, ho, hc⟩ := he
  refine wpAny_bind (wpAny_isInstance (T := "StopIteration") (b := true) ⟨o, ho, hc⟩ isSubtype_stop ?_)
  exact wpAny_pure (hQ _ hk)
end
/-- of one kind: how its walkers go side by side -/
structure ZKind (prog : Program) (w : World) (It : Heap → Addr → Addr → Nat → Prop) (Sq : Heap → Addr → Array Value → Prop) : Prop where
  itAt : ∀ {h h' : Heap} {i l : Addr} {k : Nat}, It h i l k → (∀ o, h.get? i = some o → h'.get? i = some o) → It h' i l k
  sqAt : ∀ {h h' : Heap} {l : Addr} {xs : Array Value}, Sq h l xs → (∀ o, h.get? l = some o → h'.get? l = some o) → Sq h' l xs
  i0 : ∀ {A : Around} {E : Value → Shared → Prop} {s : Shared} {z TI TO i1 i2 l1 l2 : Addr} {k1 k2 : Nat} {xs ys : Array Value} {x y a b : Value} {Q : Option Value → Shared → Prop}, ZipApart z TI TO i1 i2 l1 l2 → IsZip s.heap z TI TO .none → IsPair s.heap TI (.ref i1) (.ref i2) → IsPair s.heap TO a b →
    It s.heap i1 l1 k1 → It s.heap i2 l2 k2 → Sq s.heap l1 xs → Sq s.heap l2 ys → xs[k1]? = some x → ys[k2]? = some y →
    (∀ h', IsZip h' z TI TO (rawInt s.heap.objs.size) → IsPair h' TO x y → It h' i1 l1 (k1 + 1) → It h' i2 l2 (k2 + 1) → IsPair h' s.heap.objs.size x y → h'.objs.size = s.heap.objs.size + 1 → (∀ c o, c ≠ z → c ≠ TO → c ≠ i1 → c ≠ i2 → s.heap.get? c = some o → h'.get? c = some o) → Q (some (.ref s.heap.objs.size)) { s with heap := h' }) →
    wpAny (model prog w) A (pyNext (.ref z)) Q E s
  e0 : ∀ {A : Around} {E : Value → Shared → Prop} {s : Shared} {z TI TO i1 i2 l1 l2 : Addr} {k1 k2 : Nat} {xs ys : Array Value} {a b : Value} {Q : Option Value → Shared → Prop}, A.handled = none → ZipApart z TI TO i1 i2 l1 l2 → IsZip s.heap z TI TO .none → IsPair s.heap TI (.ref i1) (.ref i2) → IsPair s.heap TO a b →
    It s.heap i1 l1 k1 → It s.heap i2 l2 k2 → Sq s.heap l1 xs → Sq s.heap l2 ys → xs[k1]? = none ∨ ys[k2]? = none → (∀ h', (∀ c o, c ≠ z → c ≠ TO → c ≠ i1 → c ≠ i2 → s.heap.get? c = some o → h'.get? c = some o) → Q none { s with heap := h' }) → wpAny (model prog w) A (pyNext (.ref z)) Q E s
  i1 : ∀ {A : Around} {E : Value → Shared → Prop} {s : Shared} {z TI TO T i1 i2 l1 l2 : Addr} {f : Bool} {oT : Obj} {k1 k2 : Nat} {xs ys : Array Value} {x y : Value} {Q : Option Value → Shared → Prop}, ZipApart z TI TO i1 i2 l1 l2 → IsZipHeld s.heap z TI TO T f → s.heap.get? T = some oT → IsPair s.heap TI (.ref i1) (.ref i2) →
    It s.heap i1 l1 k1 → It s.heap i2 l2 k2 → Sq s.heap l1 xs → Sq s.heap l2 ys → xs[k1]? = some x → ys[k2]? = some y →
    (∀ h', IsZipHeld h' z TI TO T true → It h' i1 l1 (k1 + 1) → It h' i2 l2 (k2 + 1) → IsPair h' s.heap.objs.size x y → h'.objs.size = s.heap.objs.size + 1 → (∀ c o, c ≠ z → c ≠ i1 → c ≠ i2 → s.heap.get? c = some o → h'.get? c = some o) → Q (some (.ref s.heap.objs.size)) { s with heap := h' }) →
    wpAny (model prog w) A (pyNext (.ref z)) Q E s
  e1 : ∀ {A : Around} {E : Value → Shared → Prop} {s : Shared} {z TI TO T i1 i2 l1 l2 : Addr} {f : Bool} {oT : Obj} {k1 k2 : Nat} {xs ys : Array Value} {Q : Option Value → Shared → Prop}, A.handled = none → ZipApart z TI TO i1 i2 l1 l2 → IsZipHeld s.heap z TI TO T f → s.heap.get? T = some oT → IsPair s.heap TI (.ref i1) (.ref i2) →
    It s.heap i1 l1 k1 → It s.heap i2 l2 k2 → Sq s.heap l1 xs → Sq s.heap l2 ys → xs[k1]? = none ∨ ys[k2]? = none → (∀ h', (∀ c o, c ≠ z → c ≠ i1 → c ≠ i2 → s.heap.get? c = some o → h'.get? c = some o) → Q none { s with heap := h' }) → wpAny (model prog w) A (pyNext (.ref z)) Q E s
theorem zkindT {prog : Program} {w : World} : ZKind prog w Heap.IsTupleIter Heap.IsTuple where
  itAt := fun h k => h.at k
  sqAt := fun h k => let ⟨o, ho, r⟩ := h; ⟨o, k o ho, r⟩
  i0 := RZ.pyNext_zipT_item
  e0 := RZ.pyNext_zipT_end
  i1 := zipT_pyI
  e1 := zipT_pyE
theorem zkindL {prog : Program} {w : World} : ZKind prog w Heap.IsListIter Heap.IsList where
  itAt := fun h k => h.at k
  sqAt := fun h k => let ⟨o, ho, r⟩ := h; ⟨o, k o ho, r⟩
  i0 := wpAny_pyNext_zip_item
  e0 := wpAny_pyNext_zip_end
  i1 := wpAny_pyNext_zip_item_held
  e1 := wpAny_pyNext_zip_end_held
/-- the walk, the list being made at D -/
structure ZSt (It : Heap → Addr → Addr → Nat → Prop) (Sq : Heap → Addr → Array Value → Prop) (D z TI TO i1 i2 l1 l2 : Addr) (xs ys : Array Value) (i : Nat) (h : Heap) : Prop where
  ti : IsPair h TI (.ref i1) (.ref i2)
  a1 : It h i1 l1 i
  a2 : It h i2 l2 i
  s1 : Sq h l1 xs
  s2 : Sq h l2 ys
  zo : (IsZip h z TI TO .none ∧ ∃ a b, IsPair h TO a b) ∨ ∃ (T : Addr) (f : Bool) (oT : Obj), IsZipHeld h z TI TO T f ∧ h.get? T = some oT ∧ T ≠ z ∧ T ≠ i1 ∧ T ≠ i2 ∧ T ≠ D
section
open PyProof.Rows PySem.W
variable {prog : Program} {w : World} {A : Around} {E : Value → Shared → Prop} {s : Shared} {It : Heap → Addr → Addr → Nat → Prop} {Sq : Heap → Addr → Array Value → Prop} {D z TI TO i1 i2 l1 l2 : Addr} {xs ys : Array Value} {i : Nat}
theorem ZSt.keep (W : ZKind prog w It Sq) {h h' : Heap} (st : ZSt It Sq D z TI TO i1 i2 l1 l2 xs ys i h) (lo : z < D ∧ TI < D ∧ TO < D ∧ i1 < D ∧ i2 < D ∧ l1 < D ∧ l2 < D) (k : ∀ c o, c ≠ D → h.get? c = some o → h'.get? c = some o) : ZSt It Sq D z TI TO i1 i2 l1 l2 xs ys i h' := by
  obtain ⟨n1, n2, n3, n4, n5, n6, n7⟩ := lo
  refine ⟨k _ _ (Nat.ne_of_lt n2) st.ti, W.itAt st.a1 fun o => k _ o (Nat.ne_of_lt n4), W.itAt st.a2 fun o => k _ o (Nat.ne_of_lt n5), W.sqAt st.s1 fun o => k _ o (Nat.ne_of_lt n6), W.sqAt st.s2 fun o => k _ o (Nat.ne_of_lt n7), ?_⟩
  rcases st.zo with ⟨h1, a, b, h2⟩ | ⟨T, f, oT, h1, h2, h3, h4, h5, h6⟩
  · exact .inl ⟨k _ _ (Nat.ne_of_lt n1) h1, a, b, k _ _ (Nat.ne_of_lt n3) h2⟩
  · exact .inr ⟨T, f, oT, k _ _ (Nat.ne_of_lt n1) h1, k _ _ h6 h2, h3, h4, h5, h6⟩
theorem ZSt.next (W : ZKind prog w It Sq) (Z : ZipApart z TI TO i1 i2 l1 l2) (hD : D < s.heap.objs.size) (lo : z < D ∧ TI < D ∧ TO < D ∧ i1 < D ∧ i2 < D ∧ l1 < D ∧ l2 < D) (st : ZSt It Sq D z TI TO i1 i2 l1 l2 xs ys i s.heap) {x y : Value} (hx : xs[i]? = some x) (hy : ys[i]? = some y) {Q : Option Value → Shared → Prop}
    (hQ : ∀ h', ZSt It Sq D z TI TO i1 i2 l1 l2 xs ys (i + 1) h' → IsPair h' s.heap.objs.size x y → h'.objs.size = s.heap.objs.size + 1 → (∀ c o, c ≠ z → c ≠ TO → c ≠ i1 → c ≠ i2 → s.heap.get? c = some o → h'.get? c = some o) → Q (some (.ref s.heap.objs.size)) { s with heap := h' }) : wpAny (model prog w) A (pyNext (.ref z)) Q E s := by
  obtain ⟨n1, n2, n3, n4, n5, n6, n7⟩ := lo
  rcases st.zo with ⟨h1, a, b, h2⟩ | ⟨T, f, oT, h1, h2, h3, h4, h5, h6⟩
  · refine W.i0 Z h1 st.ti h2 st.a1 st.a2 st.s1 st.s2 hx hy fun h' z' p' b1 b2 hp hs k => hQ h' ⟨k _ _ Z.TIz Z.TITO Z.TIi1 Z.TIi2 st.ti, b1, b2, W.sqAt st.s1 fun o => k _ o Z.l1z Z.l1TO Z.l1i1 Z.l1i2, W.sqAt st.s2 fun o => k _ o Z.l2z Z.l2TO Z.l2i1 Z.l2i2, ?_⟩ hp hs k
    exact .inr ⟨_, false, _, z', hp, Nat.ne_of_gt (Nat.lt_trans n1 hD), Nat.ne_of_gt (Nat.lt_trans n4 hD), Nat.ne_of_gt (Nat.lt_trans n5 hD), Nat.ne_of_gt hD⟩
  · refine W.i1 Z h1 h2 st.ti st.a1 st.a2 st.s1 st.s2 hx hy fun h' z' b1 b2 hp hs k => hQ h' ⟨k _ _ Z.TIz Z.TIi1 Z.TIi2 st.ti, b1, b2, W.sqAt st.s1 fun o => k _ o Z.l1z Z.l1i1 Z.l1i2, W.sqAt st.s2 fun o => k _ o Z.l2z Z.l2i1 Z.l2i2, ?_⟩ hp hs fun c o c1 _ c3 c4 => k c o c1 c3 c4
    exact .inr ⟨T, true, oT, z', k _ _ h3 h4 h5 h2, h3, h4, h5, h6⟩
theorem ZSt.stop (W : ZKind prog w It Sq) (hh : A.handled = none) (Z : ZipApart z TI TO i1 i2 l1 l2) (st : ZSt It Sq D z TI TO i1 i2 l1 l2 xs ys i s.heap) (hend : xs[i]? = none ∨ ys[i]? = none) {Q : Option Value → Shared → Prop}
    (hQ : ∀ h', (∀ c o, c ≠ z → c ≠ TO → c ≠ i1 → c ≠ i2 → s.heap.get? c = some o → h'.get? c = some o) → Q none { s with heap := h' }) : wpAny (model prog w) A (pyNext (.ref z)) Q E s := by
  rcases st.zo with ⟨h1, a, b, h2⟩ | ⟨T, f, oT, h1, h2, h3, h4, h5, h6⟩
  · exact W.e0 hh Z h1 st.ti h2 st.a1 st.a2 st.s1 st.s2 hend hQ
  · exact W.e1 hh Z h1 h2 st.ti st.a1 st.a2 st.s1 st.s2 hend fun h' k => hQ h' fun c o c1 _ c3 c4 => k c o c1 c3 c4
end
section
open PyProof.Rows PySem.W
variable {prog : Program} {w : World} {A : Around} {s : Shared} {R : Result → Shared → Prop} {It : Heap → Addr → Addr → Nat → Prop} {Sq : Heap → Addr → Array Value → Prop} {D z TI TO i1 i2 l1 l2 : Addr} {xs ys : Array Value} {vs : List (Key × Value)}
theorem zip_loop (W : ZKind prog w It Sq) (hh : A.handled = none) (Z : ZipApart z TI TO i1 i2 l1 l2) (lo : z < D ∧ TI < D ∧ TO < D ∧ i1 < D ∧ i2 < D ∧ l1 < D ∧ l2 < D) (hn : vs.length ≤ sizeLine) (hv : ∀ (j : Nat) (k : Key) (x : Value), vs[j]? = some (k, x) → ∃ key, xs[j]? = some key ∧ ys[j]? = some x ∧ (mixKind prog w).is k key = true) (hend : xs[vs.length]? = none ∨ ys[vs.length]? = none) (res : Value) {h₁ : Heap}
    (hR : ∀ h' tk acc c as, (∀ b o, b ≠ D → b ≠ z → b ≠ TO → b ≠ i1 → b ≠ i2 → h₁.get? b = some o → h'.get? b = some o) → h'.get? D = some { cls := .type "list", dict := none, data := .seq acc c, slots := #[] } → as.length = vs.length → KdxG (mixKind prog w) vs D h' as → acc.toList = as.map Value.ref → R (.ok (.ret res)) { s with heap := h', toks := tk }) :
    ∀ (m i : Nat) (h : Heap) (tk c : Nat) (acc : Array Value) (as : List Addr), vs.length - i = m → i ≤ vs.length → ZSt It Sq D z TI TO i1 i2 l1 l2 xs ys i h → (∀ b o, b ≠ D → b ≠ z → b ≠ TO → b ≠ i1 → b ≠ i2 → h₁.get? b = some o → h.get? b = some o) → h.get? D = some { cls := .type "list", dict := none, data := .seq acc c, slots := #[] } → acc.toList = as.map Value.ref → as.length = i → KdxG (mixKind prog w) vs D h as →
      codeAny (model prog w) A (.builtin "list.extend.loop" ⟨[.ref D, .ref z, res], []⟩) R { s with heap := h, toks := tk } := by
  have lo' := lo
  obtain ⟨n1, n2, n3, n4, n5, n6, n7⟩ := lo'
  intro m
  induction m with
  | zero =>
    intro i h tk c acc as hm hi st kp hD hacc hal hG
    obtain rfl : i = vs.length := by omega
    refine codeAny_builtin PySem.F.entry_extend_loop ?_
    rw [Around.under_plainId PySem.F.plain_extend_loop _]
    show wpAny _ A.in1 (pyNext (.ref z) >>= _) _ _ _
    refine wpAny_bind (ZSt.stop (s := { s with heap := h, toks := tk }) (A := A.in1) W hh Z st hend fun h' k => ?_)
    refine wpAny_pure (hR h' tk acc c as (fun b o b1 b2 b3 b4 b5 e => k b o b2 b3 b4 b5 (kp b o b1 b2 b3 b4 b5 e)) (k D _ (Nat.ne_of_gt n1) (Nat.ne_of_gt n3) (Nat.ne_of_gt n4) (Nat.ne_of_gt n5) hD) hal ⟨hG.rise, hG.above, fun j a hj => ?_⟩ hacc)
    obtain ⟨key, kk, x, e1, e2, e3⟩ := hG.pairs j a hj
    have ha := hG.above a (List.mem_of_getElem? hj)
    exact ⟨key, kk, x, e1, e2, k a _ (Nat.ne_of_gt (Nat.lt_trans n1 ha)) (Nat.ne_of_gt (Nat.lt_trans n3 ha)) (Nat.ne_of_gt (Nat.lt_trans n4 ha)) (Nat.ne_of_gt (Nat.lt_trans n5 ha)) e3⟩
  | succ m again' =>
    intro i h tk c acc as hm hi st kp hD hacc hal hG
    have lt : i < vs.length := by omega
    obtain ⟨⟨kk, x⟩, hvi⟩ : ∃ p, vs[i]? = some p := ⟨_, List.getElem?_eq_getElem lt⟩
    obtain ⟨key, hx, hy, hk⟩ := hv i kk x hvi
    have hsz : acc.size = i := by rw [← Array.length_toList, hacc, List.length_map, hal]
    have Dl : D < h.objs.size := Heap.lt_size hD
    refine codeAny_builtin PySem.F.entry_extend_loop ?_
    rw [Around.under_plainId PySem.F.plain_extend_loop _]
    show wpAny _ A.in1 (pyNext (.ref z) >>= _) _ _ _
    refine wpAny_bind (ZSt.next (s := { s with heap := h, toks := tk }) (A := A.in1) W Z Dl lo st hx hy fun h' st' ht hz k => ?_)
    dsimp only at ht hz k ⊢
    have hD' := k D _ (Nat.ne_of_gt n1) (Nat.ne_of_gt n3) (Nat.ne_of_gt n4) (Nat.ne_of_gt n5) hD
    have up : ∀ b o, b ≠ D → h'.get? b = some o → (h'.update D (Obj.mapSeq (·.push (Value.ref h.objs.size)))).get? b = some o := fun b o hb e => (Heap.get?_update_other _ _ (Ne.symm hb)).trans e
    show wpAny _ A.in1 (updateSeq D (·.push (Value.ref h.objs.size)) >>= _) _ _ _
    refine wpAny_bind ?_
    refine wpAny_updateSeq hD' rfl (wpAny_pure ⟨plainId_quiet PySem.F.plain_extend_loop _, again' (i + 1) _ tk _ (acc.push (Value.ref h.objs.size)) (as ++ [h.objs.size]) (by omega) lt (st'.keep W lo fun b o hb e => up b o hb e)
      (fun b o b1 b2 b3 b4 b5 e => up b o b1 (k b o b2 b3 b4 b5 (kp b o b1 b2 b3 b4 b5 e))) (Heap.get?_update_self _ hD' rfl) (by rw [Array.toList_push, hacc, List.map_append]; rfl) (by rw [List.length_append, hal]; rfl) ⟨?_, ?_, ?_⟩⟩) (by rw [hsz]; omega) (by show (acc.push (Value.ref h.objs.size)).size ≤ sizeLine + 1; rw [Array.size_push, hsz]; omega)
    · refine List.pairwise_append.mpr ⟨hG.rise, List.pairwise_singleton _ _, fun a ha b hb => ?_⟩
      rw [List.mem_singleton.mp hb]
      exact hG.there ha
    · intro a ha
      rcases List.mem_append.mp ha with ha | ha
      · exact hG.above a ha
      · rw [List.mem_singleton.mp ha]; exact Dl
    · intro j b hj
      rcases Nat.lt_trichotomy j as.length with h1 | h1 | h1
      · rw [List.getElem?_append_left h1] at hj
        obtain ⟨key', k', x', e1, e2, e3⟩ := hG.pairs j b hj
        have hb := hG.above b (List.mem_of_getElem? hj)
        exact ⟨key', k', x', e1, e2, up b _ (Nat.ne_of_gt hb) (k b _ (Nat.ne_of_gt (Nat.lt_trans n1 hb)) (Nat.ne_of_gt (Nat.lt_trans n3 hb)) (Nat.ne_of_gt (Nat.lt_trans n4 hb)) (Nat.ne_of_gt (Nat.lt_trans n5 hb)) e3)⟩
      · subst h1
        have hb : h.objs.size = b := by simpa using hj
        subst hb
        exact ⟨key, kk, x, by rw [hal]; exact hvi, hk, up _ _ (Nat.ne_of_gt Dl) ht⟩
      · have hnone : (as ++ [h.objs.size])[j]? = none := List.getElem?_eq_none (by rw [List.length_append, List.length_singleton]; omega)
        rw [hnone] at hj; cases hj
theorem zip_extend (W : ZKind prog w It Sq) (hh : A.handled = none) (Z : ZipApart z TI TO i1 i2 l1 l2) (lo : z < D ∧ TI < D ∧ TO < D ∧ i1 < D ∧ i2 < D ∧ l1 < D ∧ l2 < D) (hn : vs.length ≤ sizeLine) (hv : ∀ (j : Nat) (k : Key) (x : Value), vs[j]? = some (k, x) → ∃ key, xs[j]? = some key ∧ ys[j]? = some x ∧ (mixKind prog w).is k key = true) (hend : xs[vs.length]? = none ∨ ys[vs.length]? = none) (res : Value) (c₀ : Nat)
    (hz : IsZip s.heap z TI TO .none) {a b : Value} (hTO : IsPair s.heap TO a b) (hTI : IsPair s.heap TI (.ref i1) (.ref i2)) (h1 : It s.heap i1 l1 0) (h2 : It s.heap i2 l2 0) (hs1 : Sq s.heap l1 xs) (hs2 : Sq s.heap l2 ys) (hD : s.heap.get? D = some { cls := .type "list", data := .seq #[] c₀ })
    (hR : ∀ h' tk acc c as, (∀ b o, b ≠ D → b ≠ z → b ≠ TO → b ≠ i1 → b ≠ i2 → s.heap.get? b = some o → h'.get? b = some o) → h'.get? D = some { cls := .type "list", dict := none, data := .seq acc c, slots := #[] } → as.length = vs.length → KdxG (mixKind prog w) vs D h' as → acc.toList = as.map Value.ref → R (.ok (.ret res)) { s with heap := h', toks := tk }) :
    wpAny (model prog w) A.in1 (Builtin.List.listExtendWith (.ref D) (.ref z) res)
      (fun fin s' => match fin with | .done f => R (.ok f) s' | .again c' => c'.quiet = true ∧ codeAny (model prog w) A c' R s') (fun e s' => R (.error e) s') s := by
  have ty : s.TypeIs (.ref z) "zip" := ⟨_, hz, rfl⟩
  have st0 : ZSt It Sq D z TI TO i1 i2 l1 l2 xs ys 0 s.heap := ⟨hTI, h1, h2, hs1, hs2, .inl ⟨hz, a, b, hTO⟩⟩
  unfold Builtin.List.listExtendWith
  refine wpAny_bind (wpAny_typeOf ty ?_)
  have b1 : Builtin.List.listSameRef (.ref D) (.ref z) = false := by simp [Builtin.List.listSameRef, Ne.symm (Nat.ne_of_lt lo.1)]
  have b2 : (Value.type "zip" == Value.type "list") = false := by decide
  have b3 : (Value.type "zip" == Value.type "tuple") = false := by decide
  simp only [b1, b2, b3, Bool.or_false, Bool.false_eq_true, if_false]
  refine wpAny_bind (wpAny_pyIter_zip hz ?_)
  refine wpAny_bind (wpAny_holding ?_)
  unfold Builtin.List.listLengthHint
  refine wpAny_bind (wpAny_specialOf ty zip_no_len ?_)
  show wpAny _ A.in1 (specialOf (Value.ref z) (Str.ofString "__length_hint__") >>= _) _ _ _
  refine wpAny_bind (wpAny_specialOf ty zip_no_hint ?_)
  refine wpAny_pure ?_
  show wpAny _ A.in1 (rule "list.extend.makes-room" >>= fun _ => Builtin.List.listTouch (.ref D) >>= fun _ =>
    again (.builtin "list.extend.loop" ⟨[.ref D, .ref z, res], []⟩)) _ _ _
  refine wpAny_bind (wpAny_rule ?_)
  refine wpAny_bind ?_
  show wpAny _ A.in1 (updateSeq D (·.push .none) >>= fun _ => updateSeq D (·.pop)) _ _ _
  refine wpAny_bind (wpAny_updateSeq hD rfl ?_)
  have hD₂ := Heap.get?_update_self (Obj.mapSeq (·.push Value.none)) hD rfl
  refine wpAny_updateSeq (hz := by seq_fits) hD₂ rfl ?_
  have hD₃ := Heap.get?_update_self (Obj.mapSeq (·.pop)) hD₂ rfl
  have oth : ∀ b o, b ≠ D → s.heap.get? b = some o → ((s.heap.update D (Obj.mapSeq (·.push Value.none))).update D (Obj.mapSeq (·.pop))).get? b = some o :=
    fun b o hb e => (Heap.get?_update_other _ _ (Ne.symm hb)).trans ((Heap.get?_update_other _ _ (Ne.symm hb)).trans e)
  exact wpAny_pure ⟨plainId_quiet PySem.F.plain_extend_loop _, zip_loop (s := s) (h₁ := s.heap) W hh Z lo hn hv hend res hR vs.length 0 _ s.toks _ #[] [] (Nat.sub_zero _) (Nat.zero_le _) (st0.keep W lo oth) (fun b o b1 _ _ _ _ e => oth b o b1 e) hD₃ rfl rfl ⟨List.Pairwise.nil, (fun _ ha => nomatch ha), (fun j a hj => by simp at hj)⟩⟩
end
section
open PyProof.Rows PySem.W
variable {prog : Program} {w : World} {A : Around} {E : Value → Shared → Prop} {s : Shared} {It : Heap → Addr → Addr → Nat → Prop} {Sq : Heap → Addr → Array Value → Prop} {z TI TO i1 i2 l1 l2 : Addr} {xs ys : Array Value} {vs : List (Key × Value)}
theorem call_listZip {Q : Value → Shared → Prop} (W : ZKind prog w It Sq) (hh : A.handled = none) (Z : ZipApart z TI TO i1 i2 l1 l2) (lo : z < s.heap.objs.size ∧ TI < s.heap.objs.size ∧ TO < s.heap.objs.size ∧ i1 < s.heap.objs.size ∧ i2 < s.heap.objs.size ∧ l1 < s.heap.objs.size ∧ l2 < s.heap.objs.size) (hn : vs.length ≤ sizeLine)
    (hv : ∀ (j : Nat) (k : Key) (x : Value), vs[j]? = some (k, x) → ∃ key, xs[j]? = some key ∧ ys[j]? = some x ∧ (mixKind prog w).is k key = true) (hend : xs[vs.length]? = none ∨ ys[vs.length]? = none)
    (hz : IsZip s.heap z TI TO .none) {a b : Value} (hTO : IsPair s.heap TO a b) (hTI : IsPair s.heap TI (.ref i1) (.ref i2)) (h1 : It s.heap i1 l1 0) (h2 : It s.heap i2 l2 0) (hs1 : Sq s.heap l1 xs) (hs2 : Sq s.heap l2 ys)
    (hQ : ∀ h' tk acc c as, (∀ b o, b ≠ z → b ≠ TO → b ≠ i1 → b ≠ i2 → s.heap.get? b = some o → h'.get? b = some o) → h'.get? s.heap.objs.size = some { cls := .type "list", dict := none, data := .seq acc c, slots := #[] } → as.length = vs.length → KdxG (mixKind prog w) vs s.heap.objs.size h' as →
      acc.toList = as.map Value.ref → Q (.ref s.heap.objs.size) { s with heap := h', toks := tk }) :
    wpAny (model prog w) A (call (.type "list") [.ref z]) Q E s := by
  refine callType_codes (Q₁ := fun obj s₁ => obj = .ref s.heap.objs.size ∧ s₁ = { s with heap := s.heap.push { cls := .type "list", data := .seq #[] } }) PySem.F.called_list (PySem.F.typeCall_list_1 _) PySem.F.entry_list_init
    (code_list_new _ ⟨rfl, rfl⟩) fun obj s₁ h₁ => ?_
  obtain ⟨rfl, rfl⟩ := h₁
  have hS : (s.heap.push { cls := .type "list", data := .seq #[] }).get? s.heap.objs.size = some { cls := .type "list", data := .seq #[] } := Heap.get?_push_size _ rfl
  refine ⟨⟨_, hS, rfl⟩, PySem.F.args_list_init_2 _ _, ?_⟩
  show wpAny _ _ (do let old ← Builtin.List.listItems (.ref s.heap.objs.size); Builtin.List.listUpdate (.ref s.heap.objs.size) (fun _ => #[]); letGo old.toList.reverse; Builtin.List.listExtendWith (.ref s.heap.objs.size) (.ref z) .none) _ _ _
  refine wpAny_bind ?_
  unfold Builtin.List.listItems
  refine wpAny_bind (wpAny_seqItems hS rfl (wpAny_pure ?_))
  show wpAny _ _ (updateSeq s.heap.objs.size (fun _ => #[]) >>= fun _ => letGo (#[] : Array Value).toList.reverse >>= fun _ => Builtin.List.listExtendWith (.ref s.heap.objs.size) (.ref z) .none) _ _ _
  refine wpAny_bind (wpAny_updateSeq hS rfl ?_)
  have hS₂ := Heap.get?_update_self (Obj.mapSeq (fun _ => (#[] : Array Value))) hS rfl
  have oth : ∀ b o, s.heap.get? b = some o → ((s.heap.push { cls := .type "list", data := .seq #[] }).update s.heap.objs.size (Obj.mapSeq (fun _ => (#[] : Array Value)))).get? b = some o :=
    fun b o e => (Heap.get?_update_other _ _ (Nat.ne_of_gt (Heap.lt_size e))).trans (Heap.get?_push_of_some _ e)
  refine wpAny_bind (wpAny_letGo ?_)
  refine zip_extend (a := a) (b := b) (A := A.in1) W hh Z lo hn hv hend .none _ (oth _ _ hz) (oth _ _ hTO) (oth _ _ hTI) (W.itAt h1 fun o => oth _ o) (W.itAt h2 fun o => oth _ o) (W.sqAt hs1 fun o => oth _ o) (W.sqAt hs2 fun o => oth _ o) hS₂ fun h' tk acc c as hk hS' hl hG hacc => ?_
  exact ⟨rfl, hQ h' tk acc c as (fun b o b2 b3 b4 b5 e => hk b o (Nat.ne_of_lt (Heap.lt_size e)) b2 b3 b4 b5 (oth b o e)) hS' hl hG hacc⟩
end
/-- what list(zip(a, b)) reads -/
def rListZip (K : PySem.W.Frag) : List V → Hp → VK → Prop := fun ws H Q => ∃ (a b : Addr) (ks : List Key) (ys : List V), ws = [.ref a, .ref b] ∧ ((SqT K H a (ks.map kV) ∧ SqT K H b ys) ∨ (SqL K H a (ks.map kV) ∧ SqL K H b ys)) ∧ ks.length ≤ 1000 ∧
  ∀ (p : Addr) (H' : Hp) (ts : List Addr), H p = none → Same H H' → H' p = some (.lst (ts.map V.ref)) → ts.length = min ks.length ys.length → (∀ (i : Nat) (t : Addr) (k : Key) (y : V), ts[i]? = some t → ks[i]? = some k → ys[i]? = some y → H' t = some (.tup [kV k, y])) → Q (.ref p) H'
def tListZip (K : PySem.W.Frag) (t : TA) : TE := fun σ H Q => t σ H fun ws H1 => rListZip K ws H1 Q
theorem rd_listZip {K : PySem.W.Frag} {t : TA} {σ : L2.St} {H : Hp} {Q : VK} (h : t σ H fun ws H1 => rListZip K ws H1 Q) : tListZip K t σ H Q := h
theorem paired_at {α β : Type} {F : α → β → Prop} : ∀ {xs : List α} {ys : List β}, Paired F xs ys → ∀ {i : Nat} {x : α} {y : β}, xs[i]? = some x → ys[i]? = some y → F x y
  | _, _, .nil, i, x, y, h, _ => by simp at h
  | _, _, .cons r t, 0, x, y, h, g => by cases h; cases g; exact r
  | _, _, .cons r t, i + 1, x, y, h, g => paired_at t (i := i) (by simpa using h) (by simpa using g)
theorem kv_zip : ∀ (ks : List Key) {ys : List V} {us : List Value}, Vals ys us → KV (ks.zip ys) (ks.zip us)
  | [], _, _, _ => .nil
  | _ :: _, _, _, .nil => .nil
  | k :: ks, _, _, .cons r t => .cons ⟨rfl, r⟩ (kv_zip ks t)
/-- the heap's first part -/
theorem cut_heap (h : Heap) {n : Nat} (hn : n ≤ h.objs.size) : ∃ g : Heap, g.objs.size = n ∧ (∀ b o, g.get? b = some o → h.get? b = some o) ∧ ∀ b, b < n → g.get? b = h.get? b := by
  have e1 : (h.objs.extract 0 n).size = n := by rw [Array.size_extract]; omega
  have e2 : ∀ b, b < n → (h.objs.extract 0 n)[b]? = h.objs[b]? := fun b hb => by rw [Array.getElem?_extract, if_pos (by omega), Nat.zero_add]
  refine ⟨{ h with objs := h.objs.extract 0 n }, e1, fun b o e => ?_, fun b hb => ?_⟩
  · have hb : b < n := by have := Heap.lt_size e; rw [e1] at this; exact this
    unfold Heap.get? at e ⊢
    rw [← e2 b hb]
    exact e
  · unfold Heap.get?
    rw [e2 b hb]
theorem pe_listZip {X : Cx} {e e2 : Expr} {ta : TA} {p p2 pos pos2 : Pos} (hg : Gl X "list") (hm : X.mg "list" = none) (hg2 : Gl X "zip") (hm2 : X.mg "zip" = none) (ha : PA X [e, e2] ta) (hc : X.calm = true := by rfl)
    (hs : starEach [e, e2] X.env = (false, eval e X.env) :: starEach [e2] X.env := by rfl) (hpl : (backTo pos2 (starEach [e2] X.env)).any (·.1) = false := by rfl)
    (hs2 : starEach [.Call (.Name "zip" p2) [e, e2] [] pos2] X.env = (false, eval (.Call (.Name "zip" p2) [e, e2] [] pos2) X.env) :: starEach [] X.env := by rfl) :
    PE X (.Call (.Name "list" p) [.Call (.Name "zip" p2) [e, e2] [] pos2] [] pos) (tListZip X.K ta) := by
  refine ⟨fun pins s σ H Q I h => ?_⟩
  refine Call_ (ld_blt I hg hm PyProof.Rows.boot_list ?_)
  refine PyProof.Rows.callWith_type1 (PyProof.Rows.args_cons ?_ hs2) hs2 rfl
  refine Call_ (ld_blt I hg2 hm2 PyProof.Rows.boot_zip (PyProof.Rows.callWith_type1 (thn (ha.run pos2 pins s σ H _ I h) fun us s1 ⟨vs, H1, I1, r1, q1⟩ => ?_) hs hpl))
  obtain ⟨a, b, ks, ys, ex, hq, hz, q⟩ := q1
  subst ex
  cases r1 with
  | cons r rr =>
    cases rr with
    | cons r' rr =>
      cases rr
      cases r
      cases r'
      have fin : ∀ (its its2 : List Value) (It : Heap → Addr → Addr → Nat → Prop) (Sq : Heap → Addr → Array Value → Prop), ZKind X.prog X.w It Sq → Vals (ks.map kV) its → Vals ys its2 → Sq s1.heap a its.toArray → Sq s1.heap b its2.toArray → a < s1.heap.objs.size → b < s1.heap.objs.size →
          ∀ h' : Heap, IsZip h' (s1.heap.objs.size + 4) (s1.heap.objs.size + 2) (s1.heap.objs.size + 3) .none → IsPair h' (s1.heap.objs.size + 2) (.ref s1.heap.objs.size) (.ref (s1.heap.objs.size + 1)) → IsPair h' (s1.heap.objs.size + 3) .none .none → It h' s1.heap.objs.size a 0 → It h' (s1.heap.objs.size + 1) b 0 → h'.objs.size = s1.heap.objs.size + 5 →
          (∀ c o, s1.heap.get? c = some o → h'.get? c = some o) → wpAny (model X.prog X.w) X.A (call (.type "list") [.ref (s1.heap.objs.size + 4)]) (EP X pins σ Q) X.xe { s1 with heap := h' } := by
        intro its its2 It Sq W rv rv2 hA hB la lb h' z' ti to a1 a2 hsz hk
        have la' : @LT.lt Nat instLTNat a s1.heap.objs.size := la
        have lb' : @LT.lt Nat instLTNat b s1.heap.objs.size := lb
        have hl1 := rv.length
        have hl2 := rv2.length
        rw [List.length_map] at hl1
        have hlv : (ks.zip its2).length = min ks.length ys.length := by rw [List.length_zip, ← hl2]
        have I2 : Inv X pins σ H1 { s1 with heap := h' } := I1.kept (t' := s1.toks) hk
        refine call_listZip (s := { s1 with heap := h' }) (vs := ks.zip its2) W (I1.ok.hd hc) (PySem.W.ktu_apart s1.heap.objs.size a b la lb) (by refine ⟨?_, ?_, ?_, ?_, ?_, ?_, ?_⟩ <;> show @LT.lt Nat instLTNat _ h'.objs.size <;> omega) (by rw [hlv]; unfold sizeLine; omega) (fun j k x hj => ?_) ?_ z' to ti a1 a2 (W.sqAt hA fun o => hk _ o) (W.sqAt hB fun o => hk _ o) fun h2 tk acc c as k2 hS hl hG hacc => ?_
        · obtain ⟨e1, e2⟩ := List.getElem?_zip_eq_some.mp hj
          obtain ⟨u, hu, ru⟩ := rv.get (i := j) (x := kV k) (by rw [List.getElem?_map, e1]; rfl)
          exact ⟨u, by simpa using hu, by simpa using e2, kV_is ru⟩
        · rw [hlv]
          rcases Nat.le_total ks.length ys.length with h | h
          · exact .inl (by simp; omega)
          · exact .inr (by simp; omega)
        · have hD : h'.objs.size < h2.objs.size := Heap.lt_size hS
          obtain ⟨g, g1, g2, g3⟩ := cut_heap h2 (Nat.le_of_lt hD)
          have I3 : Inv X pins σ H1 { s1 with heap := g } := I1.kept (t' := s1.toks) fun b o e => by
            have hb : @LT.lt Nat instLTNat b s1.heap.objs.size := Heap.lt_size e
            have ne : ∀ j : Nat, s1.heap.objs.size ≤ j → b ≠ j := fun j hj z => by
              have z' : @Eq Nat b j := z
              omega
            rw [g3 b (by show @LT.lt Nat instLTNat b h'.objs.size; omega)]
            exact k2 b o (ne _ (by omega)) (ne _ (by omega)) (ne _ (by omega)) (ne _ (by omega)) (hk b o e)
          have e0 : g.objs.size = h'.objs.size := g1
          dsimp only at hS hG ⊢
          rw [← e0] at hS hG ⊢
          obtain ⟨H', m1, m2, m3, m4, m5, m6, J⟩ := LiI.items_laid (s := { s1 with heap := g }) (tk := tk) (kvs := ks.zip ys) I3 (by rw [List.length_zip]; unfold sizeLine; omega) (kv_zip ks rv2) g2 hS hl hG hacc
          have lt : as.length = min ks.length ys.length := by rw [hl, hlv]
          refine ⟨.ref _, H', J, rfl, q _ H' as m2 m1 m5 lt fun i t k y ht hk' hy => ?_⟩
          exact paired_at m6 (i := i) (y := (k, y)) ht (by rw [List.getElem?_zip_eq_some]; exact ⟨hk', hy⟩)
      rcases hq with ⟨hqx, hqy⟩ | ⟨hqx, hqy⟩
      · obtain ⟨its, rv, p1, _⟩ := I1.tuple hqx
        obtain ⟨its2, rv2, p2', _⟩ := I1.tuple hqy
        obtain ⟨o1, ho1, _⟩ := id p1
        obtain ⟨o2, ho2, _⟩ := id p2'
        refine RZ.call_zipT (show s1.heap.IsTuple a its.toArray from p1) (show s1.heap.IsTuple b its2.toArray from p2') fun h' hz hTI hTO h1 h2 hsz hk => PyProof.Rows.args_nil ?_
        exact fin its its2 _ _ zkindT rv rv2 p1 p2' (Heap.lt_size ho1) (Heap.lt_size ho2) h' hz hTI hTO h1 h2 hsz hk
      · obtain ⟨its, rv, p1, _⟩ := I1.list hqx
        obtain ⟨its2, rv2, p2', _⟩ := I1.list hqy
        refine call_zip_2 p1.isList p2'.isList fun h' hz hTI hTO h1 h2 hsz hk => PyProof.Rows.args_nil ?_
        exact fin its its2 _ _ zkindL rv rv2 p1.isList p2'.isList p1.lt p2'.lt h' hz hTI hTO h1 h2 hsz hk
end FN
set_option maxHeartbeats 4000000
namespace FN
open PySem PySem.Spec PyProof.Rows L2
local macro_rules | `(tactic| walk_at "w") => `(tactic| repeat (with_reducible first
  | refine rd_seq ?_
  | refine rd_asg ?_
  | refine rd_name ?_
  | refine rd_ret ?_
  | refine rd_drop ?_
  | refine rd_if ?_
  | refine rd_next ?_
  | refine rd_var (by k_dflt rfl) ?_
  | refine rd_c ?_
  | refine rd_op ?_
  | refine rd_un ?_
  | refine rd_test ?_
  | refine rd_B ?_
  | refine rd_I0 ?_
  | refine rd_U ?_
  | refine rd_eqI ?_
  | refine rd_neI ?_
  | refine rd_eqS ?_
  | refine rd_neS ?_
  | refine rd_and ?_
  | refine rd_or ?_
  | refine rd_not ?_
  | refine rd_andV ?_
  | refine rd_orV ?_
  | refine rd_notV ?_
  | refine rd_ife ?_
  | refine rd_chain ?_
  | refine rd_exb ?_
  | refine rd_exi ?_
  | refine rd_nil ?_
  | refine rd_cons ?_
  | refine rd_CB ?_
  | refine rd_G ?_
  | refine rd_fld ?_
  | refine rd_sl ?_
  | refine rd_part ?_
  | refine rd_noPart ?_
  | refine rd_leaf ?_
  | refine rd_tup ?_
  | refine rd_lst ?_
  | refine rd_star ?_
  | refine rd_bm ?_
  | refine rd_bm0 ?_
  | refine rd_gsub ?_
  | refine rd_rev ?_
  | refine rd_gnil ?_
  | refine rd_gcons ?_
  | refine rd_yes ?_
  | refine rd_abs ?_
  | refine rd_max2 ?_
  | refine rd_min2 ?_
  | refine rd_int1 ?_
  | refine rd_int1b ?_
  | refine rd_inSign ?_
  | refine rd_niSign ?_
  | refine rd_isN ?_
  | refine rd_ntN ?_
  | refine rd_dcLst ?_
  | refine rd_dcTup ?_
  | refine rd_dcItems ?_
  | refine rd_lcTup ?_
  | refine rd_lcLst ?_
  | refine rd_lcStr ?_
  | refine rd_lcR1 ?_
  | refine rd_lcR2 ?_
  | refine rd_lcKeys ?_
  | refine rd_lcVals ?_
  | refine rd_lcItems ?_
  | refine rd_lcZip ?_
  | refine rd_forTup ?_
  | refine rd_forLst ?_
  | refine rd_forR1 ?_
  | refine rd_forR2 ?_
  | refine rd_forR3 ?_
  | refine rd_forZip ?_
  | refine rd_forItems ?_
  | refine rd_lcEnumT ?_
  | refine rd_forEnumT ?_
  | refine rd_oneStr ?_
  | refine rd_mkR ?_
  | refine rd_mk0 ?_
  | refine rd_mR ?_
  | refine rd_mN ?_
  | refine rd_pr ?_
  | refine rd_cmR ?_
  | refine rd_makeC ?_
  | refine rd_tM1 ?_
  | refine rd_fmtT ?_
  | refine ⟨rd_exs, ?_⟩
  | refine rd_listZip ?_
  | refine rd_lenSetS ?_
  | refine rd_sfld ?_
  | refine rd_jc ?_
  | refine rd_jn ?_
  | refine rd_par ?_
  | refine rd_par3 ?_
  | refine rd_dupd ?_
  | refine rd_disp ?_
  | refine rd_pc ?_
  | refine rd_pn ?_
  | refine rd_dni ?_
  | refine rd_dget ?_
  | refine rd_dget2 ?_
  | refine rd_dput ?_
  | refine rd_T ?_
  | refine rd_F ?_
  | refine rd_nT ?_
  | refine rd_nF ?_))
mutual
/-- does the pattern fit -/
def fits : Tm → Tm → Bool
  | t, .mk w ps => if w = "_" then true else decide (t.w = w ∧ t.ts.length = ps.length) && fitsL t.ts ps
def fitsL : List Tm → List Tm → Bool
  | t :: r, p :: q => fits t p && fitsL r q
  | _, [] => true
  | [], _ :: _ => true
end
mutual
/-- the places met by leaves of the pattern -/
def met : Nat → Tm → Tm → List Nat
  | at', t, .mk w ps => if w = "_" then [at'] else metL (at' + 1) t.ts ps
def metL : Nat → List Tm → List Tm → List Nat
  | at', t :: r, p :: q => met at' t p ++ metL (at' + size t) r q
  | _, _, [] => []
  | _, [], _ :: _ => []
end
mutual
def prs : Tm → Tm → List (Tm × Tm)
  | t, .mk w ps => if w = "_" then [(t, .mk w ps)] else prsL t.ts ps
def prsL : List Tm → List Tm → List (Tm × Tm)
  | t :: r, p :: q => prs t p ++ prsL r q
  | _, [] => []
  | [], _ :: _ => []
end
theorem fitsL_iff : ∀ (ts ps : List Tm), ts.length = ps.length → (fitsL ts ps = true ↔ ∀ (i : Nat) t p, ts[i]? = some t → ps[i]? = some p → fits t p = true)
  | [], [], _ => by simp [fitsL]
  | t :: r, p :: q, h => by
    rw [fitsL, Bool.and_eq_true, fitsL_iff r q (by simpa using h)]
    constructor
    · rintro ⟨h1, h2⟩ i t' p' e1 e2
      cases i with
      | zero => simp at e1 e2; subst e1; subst e2; exact h1
      | succ i => exact h2 i t' p' (by simpa using e1) (by simpa using e2)
    · intro h1
      exact ⟨h1 0 t p rfl rfl, fun i t' p' e1 e2 => h1 (i + 1) t' p' (by simpa using e1) (by simpa using e2)⟩
  | [], _ :: _, h => by simp at h
  | _ :: _, [], h => by simp at h
section
variable {P : Program} {w : World} {K : PySem.W.Frag} {mg : Str → Option Value} {base : Heap} {C : Ad}
theorem TermR.getNd {H : Hp} {a : Addr} {t : Tm} {dx n c e sd u l : Addr} {kvs : List (Key × V)} (R : TermR K C H a t dx n c e sd u l kvs) {p : Nat} {s : Tm} (hs : At t p s) : ∃ nxs nda, SqT K H n nxs ∧ nxs[p]? = some (.ref nda) ∧ SqT K H nda [.str s.w, vI s.ts.length] := by
  obtain ⟨nxs, hn, hx⟩ := R.nd.tupR
  obtain ⟨v, h1, h2⟩ : ∃ v, nxs[p]? = some v ∧ Tp K H v (ndD (s.w, s.ts.length)) := hx.get (i := p) (by rw [List.getElem?_map, hs.node]; rfl)
  obtain ⟨nda, rfl, h3⟩ := tp_ndE h2
  exact ⟨nxs, nda, hn, h1, h3⟩
theorem TermR.getCh {H : Hp} {a : Addr} {t : Tm} {dx n c e sd u l : Addr} {kvs : List (Key × V)} (R : TermR K C H a t dx n c e sd u l kvs) {p : Nat} {s : Tm} (hs : At t p s) : ∃ cxs ca, SqT K H c cxs ∧ cxs[p]? = some (.ref ca) ∧ SqT K H ca ((pl (p + 1) s.ts).map vI) := by
  obtain ⟨cxs, hn, hx⟩ := R.cd.tupR
  obtain ⟨v, h1, h2⟩ : ∃ v, cxs[p]? = some v ∧ Tp K H v (intsD (pl (p + 1) s.ts)) := hx.get (i := p) (by rw [List.getElem?_map, hs.chd]; rfl)
  obtain ⟨ca, xs, rfl, _, _⟩ := h2.tupE
  exact ⟨cxs, ca, hn, h1, tp_intsE h2⟩
theorem strOk_at {t : Tm} (h : TmW t) {p : Nat} {s : Tm} (hs : At t p s) : PyData.strOk s.w = true := h.wok _ (List.mem_of_getElem? hs.node)
def sp_matches (K : PySem.W.Frag) (C : Ad) (n : Nat) : Sp := fun vs H Q _ => ∃ a t i s b u j p, vs = [.ref a, vI i, .ref b, vI j] ∧ TermAt K C H a t ∧ TermAt K C H b u ∧ TmW t ∧ TmW u ∧ At t i s ∧ At u j p ∧ dep p ≤ n ∧ ∀ H', Same H H' → Q (.bl (fits s p)) H'
theorem ok_matches (T : Ty K mg C) : ∀ n, Gf P w K mg base "matches" (n + 1) (sp_matches K C n)
  | 0 => by
    refine T.d_matches.ok sc_matches (fun vs H Q E h => ?_) (fun f cdv A outer s H vs Q E hr h => ?_)
    · obtain ⟨a, t, i, s, b, u, j, p, rfl, _⟩ := h
      rfl
    · obtain ⟨a, t, i, s, b, u, j, p, rfl, _, _, _, _, _, _, hd, _⟩ := h
      have := dep_pos p
      omega
  | n + 1 => by
    have G_matches := ok_matches T n
    refine T.d_matches.ok sc_matches (fun vs H Q E h => ?_) (fun f cdv A outer s H vs Q E hr h => ?_)
    · obtain ⟨a, t, i, s, b, u, j, p, rfl, _⟩ := h
      rfl
    obtain ⟨a, t, i, ⟨sw, ss⟩, b, u, j, ⟨pw, ps⟩, rfl, TA, TB, ht, hu, hs, hp, hd, k⟩ := h
    have TA0 := TA
    have TB0 := TB
    obtain ⟨dx, n1, c1, e1, sd1, u1, l1, kvs1, R⟩ := TA
    obtain ⟨dy, n2, c2, e2, sd2, u2, l2, kvs2, S⟩ := TB
    refine ⟨_, (pss_cons (ps_if (pt_cmpR op_eq (pe_ix ix_tup (pe_ix ix_tup (pe_fld (pv 2) rfl) (pv 3) (fun _ _ => rfl)) pe_int (fun _ _ => rfl)) (pe_gS T.c_ANY) (nomark _)) (pss_one (ps_ret pe_bl)) pss_nil)
      (pss_cons (ps_if (pt_cmpR (op_neD hr.units) (pe_ix ix_tup (pe_fld (pv 0) rfl) (pv 1) (fun _ _ => rfl)) (pe_ix ix_tup (pe_fld (pv 2) rfl) (pv 3) (fun _ _ => rfl)) (nomark _)) (pss_one (ps_ret pe_bl)) pss_nil)
      (pss_cons (ps_set (i := 4) sc_matches.nd rfl (Or.inl rfl) (pe_listZip rfl T.f_list rfl T.f_zip (pa_cons (pe_ix ix_tup (pe_fld (pv 0) rfl) (pv 1) (fun _ _ => rfl)) (pa_cons (pe_ix ix_tup (pe_fld (pv 2) rfl) (pv 3) (fun _ _ => rfl)) pa_nil))))
      (pss_one (ps_ret (pe_callB (cr_all rfl) rfl T.f_all (by decide +kernel) (pa_cons (pe_lc (own := [("child", 5), ("under", 6)]) rfl sc_matches.nd (pi_list (pv 4)) (blkOk_by (own := [("child", 5), ("under", 6)]) (N := ["term", "at", "other", "to", "pairs", "child", "under"]) (sc := defScope s_matches) (by decide +kernel)) (fun _ _ _ _ _ => (tupG_k (K := K) (n := 2) rfl rfl (pgs_cons (pg_name (i := 5) sc_matches.nd rfl (Or.inl rfl)) (pgs_cons (pg_name (i := 6) sc_matches.nd rfl (Or.inl rfl)) pgs_nil)))) (fun _ _ _ _ _ => pts_nil) (fun _ _ _ _ _ => (pe_g G_matches (hr.mono (Nat.le_refl _)) (pa_cons (pv 0) (pa_cons (pv 5) (pa_cons (pv 2) (pa_cons (pv 6) pa_nil))))))) pa_nil))))))), ?_⟩
    try dsimp only [nox_K]
    refine rd_st (σ' := [some (.ref a), some (vI i), some (.ref b), some (vI j), none, none, none]) rfl ?_
    obtain ⟨nx2, nd2, hn2, hn2i, hnd2⟩ := S.getNd hp
    obtain ⟨nx1, nd1, hn1, hn1i, hnd1⟩ := R.getNd hs
    obtain ⟨cx1, ch1, hc1, hc1i, hch1⟩ := R.getCh hs
    obtain ⟨cx2, ch2, hc2, hc2i, hch2⟩ := S.getCh hp
    walk_at "w"
    refine rd_Fld S.ob T.cl_t T.na_t_own_nodes rfl ?_
    walk_at "w"
    refine rd_ixT hn2 (atI_nat hn2i) ?_
    walk_at "w"
    refine rd_ixT hnd2 (v := .str pw) rfl ?_
    walk_at "w"
    by_cases hw : pw = "_"
    · refine rd_dT hw ?_
      walk_at "w"
      have := k H (Same.refl H)
      rw [fits, if_pos hw] at this
      exact this
    refine rd_dF hw ?_
    walk_at "w"
    refine rd_Fld R.ob T.cl_t T.na_t_own_nodes rfl ?_
    walk_at "w"
    refine rd_ixT hn1 (atI_nat hn1i) ?_
    walk_at "w"
    refine rd_Fld S.ob T.cl_t T.na_t_own_nodes rfl ?_
    walk_at "w"
    refine rd_ixT hn2 (atI_nat hn2i) ?_
    walk_at "w"
    refine rd_neNd (a := (sw, ss.length)) (b := (pw, ps.length)) (tp_nd hnd1) (tp_nd hnd2) (strOk_at ht hs) (strOk_at hu hp) ?_
    walk_at "w"
    rw [fits, if_neg hw] at k
    by_cases he : ((sw, ss.length) : Nd) = (pw, ps.length)
    · refine rd_ndT he ?_
      walk_at "w"
      have he1 : sw = pw := congrArg Prod.fst he
      have he2 : ss.length = ps.length := congrArg Prod.snd he
      rw [decide_eq_true (show (Tm.mk sw ss).w = pw ∧ (Tm.mk sw ss).ts.length = ps.length from ⟨he1, he2⟩), Bool.true_and] at k
      refine rd_Fld R.ob T.cl_t T.na_t_own_children rfl ?_
      walk_at "w"
      refine rd_ixT hc1 (atI_nat hc1i) ?_
      walk_at "w"
      refine rd_Fld S.ob T.cl_t T.na_t_own_children rfl ?_
      walk_at "w"
      refine rd_ixT hc2 (atI_nat hc2i) ?_
      walk_at "w"
      have hssz : ss.length ≤ 40 := by
        have := hs.size_le; have := ht.sz; have := sizes_len ss; rw [size] at *; omega
      refine ⟨_, _, (pl (i + 1) ss).map (fun n : Nat => (.inl (n : Int) : Key)), _, rfl, .inl ⟨by rw [List.map_map]; exact hch1, hch2⟩, by rw [List.length_map, pl_length]; show ss.length ≤ 1000; omega, fun q H1 tt _ s1 hq htl hti => ?_⟩
      have htl' : tt.length = ss.length := by
        rw [htl, List.length_map, List.length_map, pl_length, pl_length]
        show min ss.length ps.length = _
        omega
      walk_at "w"
      refine rd_oneLst (SqL.of hq) fun D hD => ?_
      refine lc_map (walk_list (xs := tt.map V.ref)) (fun i y _ => ∃ c d, ss[i]? = some c ∧ ps[i]? = some d ∧ y = .bl (fits c d)) (by rw [List.length_map]; omega) hD (fun _ _ _ _ h _ => h) (fun H' s => SqL.of (s _ _ hq)) ?_ ?_
      · rintro m acc x H2 H3 hi hl s2 hD' r ⟨rfl, hx1⟩
        rw [List.length_map] at hi
        have hii : m < ss.length := by omega
        have hti' : tt[m]? = some tt[m] := List.getElem?_eq_getElem hi
        rw [List.getElem?_map, hti'] at hx1
        have hxe : x = .ref tt[m] := by simpa using hx1.symm
        subst hxe
        have c1 : ss[m]? = some ss[m] := List.getElem?_eq_getElem hii
        have c2 : ps[m]? = some (ps[m]'(by omega)) := List.getElem?_eq_getElem (by omega)
        obtain ⟨p1, hp1⟩ : ∃ pp, (pl (i + 1) ss)[m]? = some pp := ⟨_, List.getElem?_eq_getElem (by rw [pl_length]; exact hii)⟩
        obtain ⟨p2, hp2⟩ : ∃ pp, (pl (j + 1) ps)[m]? = some pp := ⟨_, List.getElem?_eq_getElem (by rw [pl_length]; omega)⟩
        have htup := s2 _ _ (hti m _ (.inl (p1 : Int)) (vI p2) hti' (by rw [List.getElem?_map]; show (pl (i + 1) ss)[m]?.map _ = _; rw [hp1]; rfl) (by rw [List.getElem?_map]; show (pl (j + 1) ps)[m]?.map vI = _; rw [hp2]; rfl))
        refine rd_gtup (sqT_of htup) rfl ?_
        walk_at "w"
        refine ⟨rfl, ?_⟩
        walk_at "w"
        have sA := s1.trans s2
        refine ⟨a, t, p1, ss[m], b, u, p2, ps[m]'(by omega), rfl, TA0.kp (kp_same sA), TB0.kp (kp_same sA), ht, hu, hs.child c1 hp1, hp.child c2 hp2, ?_, fun H4 s4 => ?_⟩
        · have := dep_mem (List.mem_of_getElem? c2)
          rw [dep] at hd; omega
        · exact lc_put (by omega) hl hD' hD s2 s4 (fun _ _ _ _ h _ => h) r ⟨_, _, c1, c2, rfl⟩
      · intro acc H2 s2 hD' hl1 hf
        rw [List.length_map] at hl1
        walk_at "w"
        refine rd_allB (fun m => match ss[m]?, ps[m]? with | some c, some d => fits c d | _, _ => true) (SqL.of hD') (fun m y hy => ?_) ?_
        · obtain ⟨c, d, h1, h2, h3⟩ := hf m y hy
          rw [h3]; simp only [h1, h2]
        · have := k H2 (s1.trans s2)
          rw [show decide (∀ m, m < acc.length → (match ss[m]?, ps[m]? with | some c, some d => fits c d | _, _ => true) = true) = fitsL ss ps by
            rw [Bool.eq_iff_iff, decide_eq_true_iff, fitsL_iff ss ps he2]
            constructor
            · intro q m c d h1 h2
              have hm := (List.getElem?_eq_some_iff.mp h1).1
              have := q m (by omega)
              rw [h1, h2] at this
              exact this
            · intro q m hm
              have h1 : ss[m]? = some (ss[m]'(by omega)) := List.getElem?_eq_getElem (by omega)
              have h2 : ps[m]? = some (ps[m]'(by omega)) := List.getElem?_eq_getElem (by omega)
              rw [h1, h2]
              exact q m _ _ h1 h2]
          exact this
    · refine rd_ndF he ?_
      walk_at "w"
      have := k H (Same.refl H)
      rw [decide_eq_false (show ¬ ((Tm.mk sw ss).w = pw ∧ (Tm.mk sw ss).ts.length = ps.length) from fun z => he (Prod.ext z.1 z.2)), Bool.false_and] at this
      exact this
end
end FN
set_option maxHeartbeats 4000000
namespace FN
open PySem PySem.Spec PyProof.Rows L2
local macro_rules | `(tactic| walk_at "w") => `(tactic| repeat (with_reducible first
  | refine rd_seq ?_
  | refine rd_asg ?_
  | refine rd_name ?_
  | refine rd_ret ?_
  | refine rd_drop ?_
  | refine rd_if ?_
  | refine rd_next ?_
  | refine rd_var (by k_dflt rfl) ?_
  | refine rd_c ?_
  | refine rd_op ?_
  | refine rd_un ?_
  | refine rd_test ?_
  | refine rd_B ?_
  | refine rd_I0 ?_
  | refine rd_U ?_
  | refine rd_eqI ?_
  | refine rd_neI ?_
  | refine rd_eqS ?_
  | refine rd_neS ?_
  | refine rd_and ?_
  | refine rd_or ?_
  | refine rd_not ?_
  | refine rd_andV ?_
  | refine rd_orV ?_
  | refine rd_notV ?_
  | refine rd_ife ?_
  | refine rd_chain ?_
  | refine rd_exb ?_
  | refine rd_exi ?_
  | refine rd_nil ?_
  | refine rd_cons ?_
  | refine rd_CB ?_
  | refine rd_G ?_
  | refine rd_fld ?_
  | refine rd_sl ?_
  | refine rd_part ?_
  | refine rd_noPart ?_
  | refine rd_leaf ?_
  | refine rd_tup ?_
  | refine rd_lst ?_
  | refine rd_star ?_
  | refine rd_bm ?_
  | refine rd_bm0 ?_
  | refine rd_gsub ?_
  | refine rd_rev ?_
  | refine rd_gnil ?_
  | refine rd_gcons ?_
  | refine rd_yes ?_
  | refine rd_abs ?_
  | refine rd_max2 ?_
  | refine rd_min2 ?_
  | refine rd_int1 ?_
  | refine rd_int1b ?_
  | refine rd_inSign ?_
  | refine rd_niSign ?_
  | refine rd_isN ?_
  | refine rd_ntN ?_
  | refine rd_dcLst ?_
  | refine rd_dcTup ?_
  | refine rd_dcItems ?_
  | refine rd_lcTup ?_
  | refine rd_lcLst ?_
  | refine rd_lcStr ?_
  | refine rd_lcR1 ?_
  | refine rd_lcR2 ?_
  | refine rd_lcKeys ?_
  | refine rd_lcVals ?_
  | refine rd_lcItems ?_
  | refine rd_lcZip ?_
  | refine rd_forTup ?_
  | refine rd_forLst ?_
  | refine rd_forR1 ?_
  | refine rd_forR2 ?_
  | refine rd_forR3 ?_
  | refine rd_forZip ?_
  | refine rd_forItems ?_
  | refine rd_lcEnumT ?_
  | refine rd_forEnumT ?_
  | refine rd_oneStr ?_
  | refine rd_mkR ?_
  | refine rd_mk0 ?_
  | refine rd_mR ?_
  | refine rd_mN ?_
  | refine rd_pr ?_
  | refine rd_cmR ?_
  | refine rd_makeC ?_
  | refine rd_tM1 ?_
  | refine rd_fmtT ?_
  | refine ⟨rd_exs, ?_⟩
  | refine rd_listZip ?_
  | refine rd_lenSetS ?_
  | refine rd_sfld ?_
  | refine rd_jc ?_
  | refine rd_jn ?_
  | refine rd_par ?_
  | refine rd_par3 ?_
  | refine rd_dupd ?_
  | refine rd_disp ?_
  | refine rd_pc ?_
  | refine rd_pn ?_
  | refine rd_dni ?_
  | refine rd_dget ?_
  | refine rd_dget2 ?_
  | refine rd_dput ?_
  | refine rd_T ?_
  | refine rd_F ?_
  | refine rd_nT ?_
  | refine rd_nF ?_))
theorem walk_zipT {K : PySem.W.Frag} {a b : Addr} {xs ys : List V} {n : Nat} (hn : n = min xs.length ys.length) : Walk (RZ.ItzT K a b) n (fun H => SqT K H a xs ∧ SqT K H b ys) (YPair (fun i => xs[i]?) (fun i => ys[i]?)) := by
  subst hn
  refine ⟨fun i _ hi q => ?_, fun _ q => ⟨xs, ys, q.1, q.2, by omega⟩, fun i H v H' _ q y => ?_⟩
  · have h1 : i < xs.length := by omega
    have h2 : i < ys.length := by omega
    exact ⟨xs, ys, xs[i], ys[i], q.1, q.2, by simp [h1], by simp [h2]⟩
  · obtain ⟨T, x, z, h1, h2, h3, h4, h5⟩ := y
    exact ⟨T, x, z, h1, h2, h3, h4 xs q.1, h5 ys q.2⟩
theorem pl_get : ∀ (q : Nat) (ts : List Tm) (m : Nat), m < ts.length → (pl q ts)[m]? = some (q + sizes (ts.take m))
  | q, [], m, h => by simp at h
  | q, t :: r, 0, _ => by rw [pl, List.take_zero, sizes]; simp
  | q, t :: r, m + 1, h => by
    rw [pl, List.getElem?_cons_succ, pl_get (q + size t) r m (by simpa using h), List.take_succ_cons, sizes, Nat.add_assoc]
theorem metL_app : ∀ (q : Nat) (A B : List Tm) (c d : Tm), A.length = B.length → metL q (A ++ [c]) (B ++ [d]) = metL q A B ++ met (q + sizes A) c d
  | q, [], [], c, d, _ => by rw [List.nil_append, List.nil_append, metL, metL, metL, sizes]; simp
  | q, a :: A, b :: B, c, d, h => by
    rw [List.cons_append, List.cons_append, metL, metL, metL_app (q + size a) A B c d (by simpa using h), List.append_assoc, sizes, Nat.add_assoc]
  | q, [], _ :: _, c, d, h => by simp at h
  | q, _ :: _, [], c, d, h => by simp at h
theorem metL_take : ∀ (q : Nat) (A B : List Tm), metL q (A.take (min A.length B.length)) (B.take (min A.length B.length)) = metL q A B
  | q, [], [] => by simp
  | q, [], b :: B => by simp [metL]
  | q, a :: A, [] => by simp [metL]
  | q, a :: A, b :: B => by
    rw [List.length_cons, List.length_cons, Nat.succ_min_succ, List.take_succ_cons, List.take_succ_cons, metL, metL, metL_take (q + size a) A B]
mutual
theorem met_len : ∀ (q : Nat) (t p : Tm), (met q t p).length ≤ size p
  | q, t, .mk w ps => by
    rw [met, size]
    split
    · simp
    · have := metL_len (q + 1) t.ts ps; omega
theorem metL_len : ∀ (q : Nat) (ts ps : List Tm), (metL q ts ps).length ≤ sizes ps
  | q, t :: r, p :: ps => by
    rw [metL, sizes, List.length_append]
    have := met_len q t p
    have := metL_len (q + size t) r ps
    omega
  | q, [], _ :: _ => by rw [metL, List.length_nil]; omega
  | q, [], [] => by rw [metL, List.length_nil]; omega
  | q, _ :: _, [] => by rw [metL, List.length_nil]; omega
end
theorem sizes_take : ∀ (ts : List Tm) (m : Nat), sizes (ts.take m) ≤ sizes ts
  | [], m => by simp
  | t :: r, 0 => by rw [List.take_zero, sizes]; omega
  | t :: r, m + 1 => by rw [List.take_succ_cons, sizes, sizes]; have := sizes_take r m; omega
section
variable {P : Program} {w : World} {K : PySem.W.Frag} {mg : Str → Option Value} {base : Heap} {C : Ad}
def sp_met (K : PySem.W.Frag) (C : Ad) (n : Nat) : Sp := fun vs H Q _ => ∃ a t i s b u j p, vs = [.ref a, vI i, .ref b, vI j] ∧ TermAt K C H a t ∧ TermAt K C H b u ∧ TmW t ∧ TmW u ∧ At t i s ∧ At u j p ∧ dep p ≤ n ∧ ∀ q H', Same H H' → H' q = some (.lst ((met i s p).map vI)) → Q (.ref q) H'
theorem ok_met (T : Ty K mg C) : ∀ n, Gf P w K mg base "met_places" (n + 1) (sp_met K C n)
  | 0 => by
    refine T.d_met_places.ok sc_met_places (fun vs H Q E h => ?_) (fun f cdv A outer s H vs Q E hr h => ?_)
    · obtain ⟨a, t, i, s, b, u, j, p, rfl, _⟩ := h
      rfl
    · obtain ⟨a, t, i, s, b, u, j, p, rfl, _, _, _, _, _, _, hd, _⟩ := h
      have := dep_pos p
      omega
  | n + 1 => by
    have G_met_places := ok_met T n
    refine T.d_met_places.ok sc_met_places (fun vs H Q E h => ?_) (fun f cdv A outer s H vs Q E hr h => ?_)
    · obtain ⟨a, t, i, s, b, u, j, p, rfl, _⟩ := h
      rfl
    obtain ⟨a, t, i, ⟨sw, ss⟩, b, u, j, ⟨pw, ps⟩, rfl, TA, TB, ht, hu, hs, hp, hd, k⟩ := h
    have TA0 := TA
    have TB0 := TB
    obtain ⟨dx, n1, c1, e1, sd1, u1, l1, kvs1, R⟩ := TA
    obtain ⟨dy, n2, c2, e2, sd2, u2, l2, kvs2, S⟩ := TB
    refine ⟨_, (pss_cons (ps_if (pt_cmpR op_eq (pe_ix ix_tup (pe_ix ix_tup (pe_fld (pv 2) rfl) (pv 3) (fun _ _ => rfl)) pe_int (fun _ _ => rfl)) (pe_gS T.c_ANY) (nomark _)) (pss_one (ps_ret (pe_lst (pa_cons (pv 1) pa_nil)))) pss_nil)
      (pss_cons (ps_set (i := 4) sc_met_places.nd rfl (Or.inl rfl) (pe_lst pa_nil))
      (pss_cons (ps_for PassesOwn.never rfl (RZ.pi_zipA rfl T.f_zip (pa_cons (pe_ix ix_tup (pe_fld (pv 0) rfl) (pv 1) (fun _ _ => rfl)) (pa_cons (pe_ix ix_tup (pe_fld (pv 2) rfl) (pv 3) (fun _ _ => rfl)) pa_nil))) (pg_tup (n := 2) rfl (pgs_cons (pg_name (i := 5) sc_met_places.nd rfl (Or.inl rfl)) (pgs_cons (pg_name (i := 6) sc_met_places.nd rfl (Or.inl rfl)) pgs_nil))) (pss_one (ps_expr (pe_bm PySem.F.plainAttrs_list PySem.F.slot_list_extend PySem.F.type_list_extend mt_extend (pv 4) (pa_cons (pe_g G_met_places (hr.mono (Nat.le_refl _)) (pa_cons (pv 0) (pa_cons (pv 5) (pa_cons (pv 2) (pa_cons (pv 6) pa_nil))))) pa_nil)))))
      (pss_one (ps_ret (pv 4)))))), ?_⟩
    try dsimp only [nox_K]
    refine rd_st (σ' := [some (.ref a), some (vI i), some (.ref b), some (vI j), none, none, none]) rfl ?_
    obtain ⟨nx2, nd2, hn2, hn2i, hnd2⟩ := S.getNd hp
    obtain ⟨cx1, ch1, hc1, hc1i, hch1⟩ := R.getCh hs
    obtain ⟨cx2, ch2, hc2, hc2i, hch2⟩ := S.getCh hp
    walk_at "w"
    refine rd_Fld S.ob T.cl_t T.na_t_own_nodes rfl ?_
    walk_at "w"
    refine rd_ixT hn2 (atI_nat hn2i) ?_
    walk_at "w"
    refine rd_ixT hnd2 (v := .str pw) rfl ?_
    walk_at "w"
    by_cases hw : pw = "_"
    · refine rd_dT hw ?_
      walk_at "w"
      refine ⟨small (by simp), fun q hq => ?_⟩
      refine k q _ (same_new hq _) ?_
      rw [upd_same, met, if_pos hw]; rfl
    refine rd_dF hw ?_
    walk_at "w"
    refine ⟨small (by simp), fun d hd0 => ?_⟩
    walk_at "w"
    have sd := same_new hd0 (.lst [])
    refine rd_Fld (sd _ _ R.ob) T.cl_t T.na_t_own_children rfl ?_
    walk_at "w"
    refine rd_ixT (sqT_kp (kp_same sd) hc1) (atI_nat hc1i) ?_
    walk_at "w"
    refine rd_Fld (sd _ _ S.ob) T.cl_t T.na_t_own_children rfl ?_
    walk_at "w"
    refine rd_ixT (sqT_kp (kp_same sd) hc2) (atI_nat hc2i) ?_
    walk_at "w"
    refine ⟨_, _, _, _, rfl, .inr ⟨sqT_kp (kp_same sd) hch1, sqT_kp (kp_same sd) hch2, ?_⟩⟩
    have hps : sizes ps ≤ 40 := by have := hp.size_le; have := hu.sz; rw [size] at *; omega
    refine fo_it (walk_zipT (xs := (pl (i + 1) ss).map vI) (ys := (pl (j + 1) ps).map vI) (n := min ss.length ps.length) (by rw [List.length_map, List.length_map, pl_length, pl_length])) (fun m σ H' => ∃ cv uv, σ = [some (.ref a), some (vI i), some (.ref b), some (vI j), some (.ref d), cv, uv] ∧ Same H H' ∧ H' d = some (.lst ((metL (i + 1) (ss.take m) (ps.take m)).map vI))) ?_ ?_ ?_ ?_
    · refine ⟨none, none, rfl, sd, ?_⟩
      rw [upd_same, List.take_zero, List.take_zero, metL]; rfl
    · rintro m σ H' _ ⟨cv, uv, _, s, _⟩
      exact ⟨sqT_kp (kp_same s) hch1, sqT_kp (kp_same s) hch2⟩
    · rintro m x σ H1 H2 hm ⟨cv, uv, rfl, s1, hF⟩ ⟨Ta, x1, y1, rfl, hTa, rfl, hx1, hy1⟩
      have st := same_new hTa (.tup [x1, y1])
      have m1 : m < ss.length := by omega
      have m2 : m < ps.length := by omega
      have g1 : ss[m]? = some ss[m] := List.getElem?_eq_getElem m1
      have g2 : ps[m]? = some ps[m] := List.getElem?_eq_getElem m2
      have hp1 := pl_get (i + 1) ss m m1
      have hp2 := pl_get (j + 1) ps m m2
      have ex : x1 = vI (i + 1 + sizes (ss.take m)) := by
        simp only [List.getElem?_map, hp1] at hx1; simpa using hx1.symm
      have ey : y1 = vI (j + 1 + sizes (ps.take m)) := by
        simp only [List.getElem?_map, hp2] at hy1; simpa using hy1.symm
      subst ex; subst ey
      refine rd_gtup (sqT_of upd_same) rfl ?_
      walk_at "w"
      refine ⟨tyV_l (SqL.of (st _ _ hF)), ?_⟩
      walk_at "w"
      have sA := s1.trans st
      refine ⟨a, t, _, ss[m], b, u, _, ps[m], rfl, TA0.kp (kp_same sA), TB0.kp (kp_same sA), ht, hu, hs.child g1 hp1, hp.child g2 hp2, ?_, fun q H3 s3 hq => ?_⟩
      · have := dep_mem (List.mem_of_getElem? g2)
        rw [dep] at hd; omega
      · walk_at "w"
        have hF3 := (st.trans s3) _ _ hF
        refine ⟨d, q, _, _, rfl, rfl, hF3, hq, ?_, ?_⟩
        · rw [List.length_map, List.length_map]
          have := metL_len (i + 1) (ss.take m) (ps.take m)
          have := sizes_take ps m
          have := met_len (i + 1 + sizes (ss.take m)) ss[m] ps[m]
          have : size ps[m] ≤ 40 := by
            have := (hp.child g2 hp2).size_le; have := hu.sz; omega
          exact small (by omega)
        · walk_at "w"
          refine ⟨_, _, rfl, same_mut (sA.trans s3) hd0, ?_⟩
          rw [upd_same, ← List.map_append, take_succ_get g1, take_succ_get g2, metL_app]
          rw [List.length_take, List.length_take]; omega
    · rintro σ H1 ⟨cv, uv, rfl, s1, hF⟩
      walk_at "w"
      rw [metL_take] at hF
      refine k d H1 s1 ?_
      rw [met, if_neg hw]; exact hF
end
end FN
set_option maxHeartbeats 4000000
namespace FN
open PySem PySem.Spec PyProof.Rows L2
local macro_rules | `(tactic| walk_at "w") => `(tactic| repeat (with_reducible first
  | refine rd_seq ?_
  | refine rd_asg ?_
  | refine rd_name ?_
  | refine rd_ret ?_
  | refine rd_drop ?_
  | refine rd_if ?_
  | refine rd_next ?_
  | refine rd_var (by k_dflt rfl) ?_
  | refine rd_c ?_
  | refine rd_op ?_
  | refine rd_un ?_
  | refine rd_test ?_
  | refine rd_B ?_
  | refine rd_I0 ?_
  | refine rd_U ?_
  | refine rd_eqI ?_
  | refine rd_neI ?_
  | refine rd_eqS ?_
  | refine rd_neS ?_
  | refine rd_and ?_
  | refine rd_or ?_
  | refine rd_not ?_
  | refine rd_andV ?_
  | refine rd_orV ?_
  | refine rd_notV ?_
  | refine rd_ife ?_
  | refine rd_chain ?_
  | refine rd_exb ?_
  | refine rd_exi ?_
  | refine rd_nil ?_
  | refine rd_cons ?_
  | refine rd_CB ?_
  | refine rd_G ?_
  | refine rd_fld ?_
  | refine rd_sl ?_
  | refine rd_part ?_
  | refine rd_noPart ?_
  | refine rd_leaf ?_
  | refine rd_tup ?_
  | refine rd_lst ?_
  | refine rd_star ?_
  | refine rd_bm ?_
  | refine rd_bm0 ?_
  | refine rd_gsub ?_
  | refine rd_rev ?_
  | refine rd_gnil ?_
  | refine rd_gcons ?_
  | refine rd_yes ?_
  | refine rd_abs ?_
  | refine rd_max2 ?_
  | refine rd_min2 ?_
  | refine rd_int1 ?_
  | refine rd_int1b ?_
  | refine rd_inSign ?_
  | refine rd_niSign ?_
  | refine rd_isN ?_
  | refine rd_ntN ?_
  | refine rd_dcLst ?_
  | refine rd_dcTup ?_
  | refine rd_dcItems ?_
  | refine rd_lcTup ?_
  | refine rd_lcLst ?_
  | refine rd_lcStr ?_
  | refine rd_lcR1 ?_
  | refine rd_lcR2 ?_
  | refine rd_lcKeys ?_
  | refine rd_lcVals ?_
  | refine rd_lcItems ?_
  | refine rd_lcZip ?_
  | refine rd_forTup ?_
  | refine rd_forLst ?_
  | refine rd_forR1 ?_
  | refine rd_forR2 ?_
  | refine rd_forR3 ?_
  | refine rd_forZip ?_
  | refine rd_forItems ?_
  | refine rd_lcEnumT ?_
  | refine rd_forEnumT ?_
  | refine rd_oneStr ?_
  | refine rd_mkR ?_
  | refine rd_mk0 ?_
  | refine rd_mR ?_
  | refine rd_mN ?_
  | refine rd_pr ?_
  | refine rd_cmR ?_
  | refine rd_makeC ?_
  | refine rd_tM1 ?_
  | refine rd_fmtT ?_
  | refine ⟨rd_exs, ?_⟩
  | refine rd_listZip ?_
  | refine rd_lenSetS ?_
  | refine rd_sfld ?_
  | refine rd_jc ?_
  | refine rd_jn ?_
  | refine rd_par ?_
  | refine rd_par3 ?_
  | refine rd_dupd ?_
  | refine rd_disp ?_
  | refine rd_pc ?_
  | refine rd_pn ?_
  | refine rd_dni ?_
  | refine rd_dget ?_
  | refine rd_dget2 ?_
  | refine rd_dput ?_
  | refine rd_T ?_
  | refine rd_F ?_
  | refine rd_nT ?_
  | refine rd_nF ?_))
theorem sf_part {t c : Tm} {q : Nat} {G : List Tm} (h : sf q [t] = c :: G) : At t q c ∧ sf (q + size c) [t] = G := by
  refine ⟨⟨G, h⟩, ?_⟩
  rw [sf_add, h]
  have := sf_app [c] G
  rw [sizes_one] at this
  exact this
mutual
theorem met_parts {t : Tm} : ∀ (u : Tm) (i : Nat) (s : Tm), At t i s → (met i s u).map (fun p => (parts t)[p]?) = (prs s u).map (fun x => some x.1)
  | .mk w ps, i, s, h => by
    rw [met, prs]
    split
    · rw [List.map_cons, List.map_nil, List.map_cons, List.map_nil, h.part]
    · obtain ⟨G, e⟩ := h
      refine metL_parts ps (i + 1) s.ts ⟨G, ?_⟩
      cases s with | mk sw ss => rw [sf_add, e]; rfl
theorem metL_parts {t : Tm} : ∀ (ps : List Tm) (q : Nat) (ts : List Tm), (∃ G, sf q [t] = ts ++ G) → (metL q ts ps).map (fun p => (parts t)[p]?) = (prsL ts ps).map (fun x => some x.1)
  | [], q, ts, _ => by cases ts <;> simp [metL, prsL]
  | p :: ps, q, [], _ => by simp [metL, prsL]
  | p :: ps, q, c :: r, ⟨G, e⟩ => by
    obtain ⟨h1, h2⟩ := sf_part (G := r ++ G) (by rw [e]; rfl)
    rw [metL, prsL, List.map_append, List.map_append, met_parts p q c h1, metL_parts ps (q + size c) r ⟨G, h2⟩]
end
theorem met_at {t u : Tm} {m p : Nat} (h : (met 0 t u)[m]? = some p) : ∃ s q, At t p s ∧ (prs t u)[m]? = some (s, q) := by
  have e := congrArg (fun l => l[m]?) (met_parts u 0 t (.root t))
  simp only [List.getElem?_map, h, Option.map_some] at e
  cases q : (prs t u)[m]? with
  | none => rw [q] at e; cases e
  | some x =>
    rw [q] at e
    have : (parts t)[p]? = some x.1 := by simpa using e
    exact ⟨x.1, x.2, at_of_part this, rfl⟩
theorem met_length (t u : Tm) : (met 0 t u).length = (prs t u).length := by
  have e := congrArg List.length (met_parts u 0 t (.root t))
  rwa [List.length_map, List.length_map] at e
section
variable {P : Program} {w : World} {K : PySem.W.Frag} {mg : Str → Option Value} {base : Heap} {C : Ad}
def sp_require_place (K : PySem.W.Frag) (C : Ad) : Sp := fun vs H Q _ => ∃ a t p, vs = [.ref a, vI p] ∧ TermAt K C H a t ∧ size t ≤ 40 ∧ p < size t ∧ Q .non H
theorem ok_require_place (T : Ty K mg C) : Ro P w K mg base (Meth K C.t "require_place") 3 (sp_require_place K C) := by
  have G_is_within := ok_is_within (P := P) (w := w) (base := base) T.toTx
  refine T.m_t_require_place.ok sc_Term_require_place (fun vs H Q E h => ?_) (fun f cdv A outer s H vs Q E hr h => ?_)
  · obtain ⟨a, t, p, rfl, _⟩ := h
    rfl
  obtain ⟨a, t, p, rfl, ⟨dx, n, c, e, sd, u, l, kvs, R⟩, hz, hp, k⟩ := h
  refine ⟨_, (pss_one (ps_if (pt_not (pt_val (pe_g G_is_within (hr.mono (by decide)) (pa_cons (pv 1) (pa_cons pe_int (pa_cons (pe_op op_sub (pe_callB c_lenS rfl T.f_len PySem.boot_len (pa_cons (pe_fld (pv 0) rfl) pa_nil)) pe_int) pa_nil)))))) (pss_one ps_never) pss_nil)), ?_⟩
  try dsimp only [nox_K]
  refine rd_st (σ' := [some (.ref a), some (vI p)]) rfl ?_
  obtain ⟨xs, hn, hx⟩ := R.nd.tupR
  have hl : xs.length = size t := by rw [hx.len, List.length_map, nodes_length]
  walk_at "w"
  refine rd_Fld R.ob T.cl_t T.na_t_own_nodes rfl ?_
  walk_at "w"
  refine rd_len (.inr hn) ?_
  walk_at "w"
  refine ⟨_, _, _, rfl, by omega, by omega, ?_⟩
  walk_at "w"
  refine rd_ndT (by omega) ?_
  walk_at "w"
  exact k
def sp_require_term (K : PySem.W.Frag) (C : Ad) : Sp := fun vs H Q _ => ∃ a t, vs = [.ref a] ∧ TermAt K C H a t ∧ Q .non H
theorem ok_require_term (T : Ty K mg C) : Gf P w K mg base "require_term" 1 (sp_require_term K C) := by
  refine T.d_require_term.ok sc_require_term (fun vs H Q E h => ?_) (fun f cdv A outer s H vs Q E hr h => ?_)
  · obtain ⟨a, t, rfl, _⟩ := h
    rfl
  obtain ⟨a, t, rfl, ⟨dx, n, c, e, sd, u, l, kvs, R⟩, k⟩ := h
  refine ⟨_, (pss_one (ps_if (pt_not (pt_val (pe_callB call_isi rfl T.f_isinstance (by decide +kernel) (pa_cons (pv 0) (pa_cons (pe_glob (v := .ref C.t) rfl T.g_Term rfl) pa_nil))))) (pss_one ps_never) pss_nil)), ?_⟩
  try dsimp only [nox_K]
  refine rd_st (σ' := [some (.ref a)]) rfl ?_
  walk_at "w"
  refine rd_isi_x (tyX_ins R.ob T.cl_t T.isi_t) T.kb_tt ?_
  walk_at "w"
  exact k
def sp_Teq (K : PySem.W.Frag) (C : Ad) : Sp := fun vs H Q _ => ∃ a t, TermAt K C H a t ∧ TmW t ∧ ((∃ b u, vs = [.ref a, .ref b] ∧ TermAt K C H b u ∧ TmW u ∧ Q (.bl (decide (nodes t = nodes u))) H) ∨ (vs = [.ref a, .non] ∧ Q (.bl false) H))
theorem ok_Teq (T : Ty K mg C) : Ro P w K mg base (NeC K C.t) 1 (sp_Teq K C) := by
  refine T.e_t.ok sc_Term___eq__ (fun vs H Q E h => ?_) (fun f cdv A outer s H vs Q E hr h => ?_)
  · obtain ⟨a, t, _, _, ⟨b, u, rfl, _⟩ | ⟨rfl, _⟩⟩ := h <;> rfl
  obtain ⟨a, t, ⟨dx, n, c, e, sd, u', l, kvs, R⟩, ht, h⟩ := h
  refine ⟨_, (pss_one (ps_ret (pe_and (pe_callB call_isi rfl T.f_isinstance (by decide +kernel) (pa_cons (pv 1) (pa_cons (pe_glob (v := .ref C.t) rfl T.g_Term rfl) pa_nil))) (pe_one (pe_cmpR (op_eqD hr.units) (pe_fld (pv 0) rfl) (pe_fld (pv 1) rfl) (nomark _)))))), ?_⟩
  try dsimp only [nox_K]
  rcases h with ⟨b, u, rfl, ⟨dy, n2, c2, e2, sd2, u2, l2, kvs2, S⟩, hu, k⟩ | ⟨rfl, k⟩
  · refine rd_st (σ' := [some (.ref a), some (.ref b)]) rfl ?_
    walk_at "w"
    refine rd_isi_x (tyX_ins S.ob T.cl_t T.isi_t) T.kb_tt ?_
    walk_at "w"
    refine rd_Fld R.ob T.cl_t T.na_t_own_nodes rfl ?_
    walk_at "w"
    refine rd_Fld S.ob T.cl_t T.na_t_own_nodes rfl ?_
    walk_at "w"
    exact rd_eqNs R.nd S.nd ht.wok hu.wok k
  · refine rd_st (σ' := [some (.ref a), some .non]) rfl ?_
    walk_at "w"
    refine rd_isi_x (.base .non) T.kb_0t ?_
    walk_at "w"
    exact k
def sp_fillings (K : PySem.W.Frag) (C : Ad) : Sp := fun vs H Q _ => ∃ a t b u, vs = [.ref a, .ref b] ∧ TermAt K C H a t ∧ TermAt K C H b u ∧ TmW t ∧ TmW u ∧
  if fits t u = true then ∀ q H' xs, Same H H' → SqT K H' q xs → xs.length = (prs t u).length → (∀ (i : Nat) x s p, xs[i]? = some x → (prs t u)[i]? = some (s, p) → ∃ d, x = .ref d ∧ TermAt K C H' d s) → Q (.ref q) H' else ∀ H', Same H H' → Q .non H'
theorem ok_fillings (T : Ty K mg C) : Ro P w K mg base (Meth K C.t "fillings") 42 (sp_fillings K C) := by
  have G_require_term := ok_require_term (P := P) (w := w) (base := base) T
  have G_matches := ok_matches (P := P) (w := w) (base := base) T 40
  have G_met_places := ok_met (P := P) (w := w) (base := base) T 40
  have G_part_in := ok_part_in (P := P) (w := w) (base := base) T
  refine T.m_t_fillings.ok sc_Term_fillings (fun vs H Q E h => ?_) (fun f cdv A outer s H vs Q E hr h => ?_)
  · obtain ⟨a, t, b, u, rfl, _⟩ := h
    rfl
  obtain ⟨a, t, b, u, rfl, TA, TB, ht, hu, k⟩ := h
  refine ⟨_, (pss_cons (ps_expr (pe_g G_require_term (hr.mono (by decide)) (pa_cons (pv 1) pa_nil)))
    (pss_cons (ps_if (pt_not (pt_val (pe_g G_matches (hr.mono (by decide)) (pa_cons (pv 0) (pa_cons pe_int (pa_cons (pv 1) (pa_cons pe_int pa_nil))))))) (pss_one (ps_ret pe_non)) pss_nil)
    (pss_one (ps_ret (pe_callTy c_tupS rfl T.f_tuple (by decide +kernel) (pa_cons (pe_lc (own := [("place", 2)]) rfl sc_Term_fillings.nd (pi_list (pe_g G_met_places (hr.mono (by decide)) (pa_cons (pv 0) (pa_cons pe_int (pa_cons (pv 1) (pa_cons pe_int pa_nil)))))) (blkOk_by (own := [("place", 2)]) (N := ["self", "other", "place"]) (sc := defScope s_Term_fillings) (by decide +kernel)) (fun _ _ _ _ _ => (pg_name (i := 2) sc_Term_fillings.nd rfl (Or.inl rfl))) (fun _ _ _ _ _ => pts_nil) (fun _ _ _ _ _ => (pe_g G_part_in (hr.mono (by decide)) (pa_cons (pv 0) (pa_cons (pv 2) pa_nil))))) pa_nil)))))), ?_⟩
  try dsimp only [nox_K]
  refine rd_st (σ' := [some (.ref a), some (.ref b), none]) rfl ?_
  have hdu : dep u ≤ 40 := Nat.le_trans (dep_size u) hu.sz
  walk_at "w"
  refine ⟨b, u, rfl, TB, ?_⟩
  walk_at "w"
  refine ⟨a, t, 0, t, b, u, 0, u, rfl, TA, TB, ht, hu, .root t, .root u, hdu, fun H1 s1 => ?_⟩
  walk_at "w"
  cases hf : fits t u with
  | false =>
    rw [hf, if_neg (by decide)] at k
    walk_at "w"
    exact k H1 s1
  | true =>
    rw [hf, if_pos rfl] at k
    walk_at "w"
    refine ⟨a, t, 0, t, b, u, 0, u, rfl, TA.kp (kp_same s1), TB.kp (kp_same s1), ht, hu, .root t, .root u, hdu, fun q H2 s2 hq => ?_⟩
    walk_at "w"
    refine rd_oneLst (SqL.of hq) fun D hD => ?_
    have hlm := met_len 0 t u
    have := hu.sz
    refine lc_map (walk_list (xs := (met 0 t u).map vI)) (fun m y H => ∃ d p s, y = .ref d ∧ (met 0 t u)[m]? = some p ∧ At t p s ∧ TermAt K C H d s) (by rw [List.length_map]; omega) hD (fun i y H H' r k => ?_) (fun H' s => SqL.of (s _ _ hq)) ?_ ?_
    · obtain ⟨d, p, s, h1, h2, h3, h4⟩ := r
      exact ⟨d, p, s, h1, h2, h3, h4.kp k⟩
    · rintro m acc x H3 H4 hi hl s3 hD' r ⟨rfl, hx1⟩
      rw [List.length_map] at hi
      have hm : (met 0 t u)[m]? = some (met 0 t u)[m] := List.getElem?_eq_getElem hi
      obtain ⟨s, p, hat, _⟩ := met_at hm
      rw [List.getElem?_map, hm] at hx1
      have hx2 : x = vI (met 0 t u)[m] := by simpa using hx1.symm
      subst hx2
      walk_at "w"
      refine ⟨rfl, ?_⟩
      walk_at "w"
      refine ⟨a, t, _, s, rfl, TA.kp (kp_same ((s1.trans s2).trans s3)), ht, hat, fun d H5 s5 hd => ?_⟩
      exact lc_put (by omega) hl hD' hD s3 s5 (fun i y H H' r k => by
        obtain ⟨d, p, s, h1, h2, h3, h4⟩ := r
        exact ⟨d, p, s, h1, h2, h3, h4.kp k⟩) r ⟨d, _, s, rfl, hm, hat, hd⟩
    · intro acc H3 s3 hD' hl1 hf1
      rw [List.length_map] at hl1
      walk_at "w"
      refine rd_tupS (SqL.of hD') fun q2 hq2 => ?_
      refine k q2 _ acc ((s1.trans s2).trans (s3.trans (same_new hq2 _))) (sqT_of upd_same) (by rw [hl1, met_length]) fun i x s p h1 h2 => ?_
      obtain ⟨d, pp, s', e1, e2, e3, e4⟩ := hf1 i x h1
      obtain ⟨s2', q', h4, h5⟩ := met_at e2
      rw [h2] at h5
      have e6 : s = s2' := by cases h5; rfl
      have e7 := e3.uniq h4
      subst e7; subst e6
      exact ⟨d, e1, e4.kp (kp_new hq2)⟩
end
end FN
set_option maxHeartbeats 4000000
namespace FN
open PySem PySem.Spec PyProof.Rows L2
local macro_rules | `(tactic| walk_at "w") => `(tactic| repeat (with_reducible first
  | refine rd_seq ?_
  | refine rd_asg ?_
  | refine rd_name ?_
  | refine rd_ret ?_
  | refine rd_drop ?_
  | refine rd_if ?_
  | refine rd_next ?_
  | refine rd_var (by k_dflt rfl) ?_
  | refine rd_c ?_
  | refine rd_op ?_
  | refine rd_un ?_
  | refine rd_test ?_
  | refine rd_B ?_
  | refine rd_I0 ?_
  | refine rd_U ?_
  | refine rd_eqI ?_
  | refine rd_neI ?_
  | refine rd_eqS ?_
  | refine rd_neS ?_
  | refine rd_and ?_
  | refine rd_or ?_
  | refine rd_not ?_
  | refine rd_andV ?_
  | refine rd_orV ?_
  | refine rd_notV ?_
  | refine rd_ife ?_
  | refine rd_chain ?_
  | refine rd_exb ?_
  | refine rd_exi ?_
  | refine rd_nil ?_
  | refine rd_cons ?_
  | refine rd_CB ?_
  | refine rd_G ?_
  | refine rd_fld ?_
  | refine rd_sl ?_
  | refine rd_part ?_
  | refine rd_noPart ?_
  | refine rd_leaf ?_
  | refine rd_tup ?_
  | refine rd_lst ?_
  | refine rd_star ?_
  | refine rd_bm ?_
  | refine rd_bm0 ?_
  | refine rd_gsub ?_
  | refine rd_rev ?_
  | refine rd_gnil ?_
  | refine rd_gcons ?_
  | refine rd_yes ?_
  | refine rd_abs ?_
  | refine rd_max2 ?_
  | refine rd_min2 ?_
  | refine rd_int1 ?_
  | refine rd_int1b ?_
  | refine rd_inSign ?_
  | refine rd_niSign ?_
  | refine rd_isN ?_
  | refine rd_ntN ?_
  | refine rd_dcLst ?_
  | refine rd_dcTup ?_
  | refine rd_dcItems ?_
  | refine rd_lcTup ?_
  | refine rd_lcLst ?_
  | refine rd_lcStr ?_
  | refine rd_lcR1 ?_
  | refine rd_lcR2 ?_
  | refine rd_lcKeys ?_
  | refine rd_lcVals ?_
  | refine rd_lcItems ?_
  | refine rd_lcZip ?_
  | refine rd_forTup ?_
  | refine rd_forLst ?_
  | refine rd_forR1 ?_
  | refine rd_forR2 ?_
  | refine rd_forR3 ?_
  | refine rd_forZip ?_
  | refine rd_forItems ?_
  | refine rd_lcEnumT ?_
  | refine rd_forEnumT ?_
  | refine rd_oneStr ?_
  | refine rd_mkR ?_
  | refine rd_mk0 ?_
  | refine rd_mR ?_
  | refine rd_mN ?_
  | refine rd_pr ?_
  | refine rd_cmR ?_
  | refine rd_makeC ?_
  | refine rd_tM1 ?_
  | refine rd_fmtT ?_
  | refine ⟨rd_exs, ?_⟩
  | refine rd_listZip ?_
  | refine rd_lenSetS ?_
  | refine rd_sfld ?_
  | refine rd_jc ?_
  | refine rd_jn ?_
  | refine rd_par ?_
  | refine rd_par3 ?_
  | refine rd_dupd ?_
  | refine rd_disp ?_
  | refine rd_pc ?_
  | refine rd_pn ?_
  | refine rd_dni ?_
  | refine rd_dget ?_
  | refine rd_dget2 ?_
  | refine rd_dput ?_
  | refine rd_T ?_
  | refine rd_F ?_
  | refine rd_nT ?_
  | refine rd_nF ?_))
/-- leaves of "_" in a row of nodes -/
def cntU : List Nd → Nat
  | [] => 0
  | n :: r => if n.1 = "_" then cntU r + 1 else cntU r
def hdN : List Tm → List Nd
  | f :: _ => nodes f
  | [] => []
/-- nodes, the leaves "_" exchanged -/
def nfill : List Nd → List Tm → List Nd
  | [], _ => []
  | n :: r, fs => if n.1 = "_" then hdN fs ++ nfill r fs.tail else n :: nfill r fs
theorem nfill_app : ∀ (A B : List Nd) (fs : List Tm), nfill (A ++ B) fs = nfill A fs ++ nfill B (fs.drop (cntU A))
  | [], B, fs => by rw [List.nil_append, nfill, cntU]; rfl
  | n :: A, B, fs => by
    rw [List.cons_append, nfill, nfill, cntU]
    by_cases h : n.1 = "_"
    · rw [if_pos h, if_pos h, if_pos h, nfill_app A B fs.tail, List.append_assoc, List.drop_tail]
    · rw [if_neg h, if_neg h, if_neg h, nfill_app A B fs, List.cons_append]
theorem cntU_app : ∀ A B : List Nd, cntU (A ++ B) = cntU A + cntU B
  | [], B => by rw [List.nil_append, cntU]; omega
  | n :: A, B => by
    rw [List.cons_append, cntU, cntU, cntU_app A B]
    split <;> omega
theorem cntU_plw : ∀ (p : Nat) (A : List Nd), (plw "_" p A).length = cntU A
  | p, [] => by rw [plw, cntU]; rfl
  | p, n :: A => by
    rw [plw, cntU]
    have := cntU_plw (p + 1) A
    split
    · rw [List.length_cons, this]
    · exact this
theorem nfill_len : ∀ (A : List Nd) (fs : List Tm), (nfill A fs).length ≤ A.length + sizes fs
  | [], fs => by rw [nfill, List.length_nil]; omega
  | n :: A, fs => by
    rw [nfill, List.length_cons]
    split
    · rw [List.length_append]
      have h := nfill_len A fs.tail
      cases fs with
      | nil => rw [hdN, List.length_nil]; rw [List.tail_nil] at h ⊢; omega
      | cons f g => rw [hdN, nodes_length, sizes]; rw [List.tail_cons] at h ⊢; omega
    · rw [List.length_cons]; have := nfill_len A fs; omega
section
variable {P : Program} {w : World} {K : PySem.W.Frag} {mg : Str → Option Value} {base : Heap} {C : Ad}
/-- Terms in a row -/
def TmAll (K : PySem.W.Frag) (C : Ad) (H : Hp) (xs : List V) (ts : List Tm) : Prop := xs.length = ts.length ∧ ∀ (i : Nat) x t, xs[i]? = some x → ts[i]? = some t → ∃ a, x = .ref a ∧ TermAt K C H a t
theorem TmAll.kp {H H' : Hp} {xs : List V} {ts : List Tm} (h : TmAll K C H xs ts) (k : Kp H H') : TmAll K C H' xs ts := ⟨h.1, fun i x t h1 h2 => by
  obtain ⟨a, e, ta⟩ := h.2 i x t h1 h2
  exact ⟨a, e, ta.kp k⟩⟩
def sp_nodes_filled (K : PySem.W.Frag) (C : Ad) : Sp := fun vs H Q _ => ∃ a t v fs xs, vs = [.ref a, .ref v] ∧ TermAt K C H a t ∧ TmW t ∧ SqT K H v xs ∧ TmAll K C H xs fs ∧ fs.length = cntU (nodes t) ∧ sizes fs ≤ 1000 ∧
  ∀ q H', Same H H' → Tp K H' (.ref q) (nodesD (nfill (nodes t) fs)) → Q (.ref q) H'
theorem ok_nodes_filled (T : Ty K mg C) : Gf P w K mg base "nodes_filled" 1 (sp_nodes_filled K C) := by
  refine T.d_nodes_filled.ok sc_nodes_filled (fun vs H Q E h => ?_) (fun f cdv A outer s H vs Q E hr h => ?_)
  · obtain ⟨a, t, v, fs, xs, rfl, _⟩ := h
    rfl
  obtain ⟨a, t, v, fs, xs, rfl, TA, ht, hv, hfs, hcn, hsz, k⟩ := h
  have TA0 := TA
  obtain ⟨dx, n, c, e, sd, u, l, kvs, R⟩ := TA
  refine ⟨_, (pss_cons (ps_set (i := 2) sc_nodes_filled.nd rfl (Or.inl rfl) (pe_lst pa_nil))
    (pss_cons (ps_set (i := 3) sc_nodes_filled.nd rfl (Or.inl rfl) (pe_revL (pe_callTy c_listS rfl T.f_list (by decide +kernel) (pa_cons (pv 1) pa_nil))))
    (pss_cons (ps_for PassesOwn.never rfl (pi_tup (pe_fld (pv 0) rfl)) (pg_name (i := 4) sc_nodes_filled.nd rfl (Or.inl rfl)) (pss_one (ps_expr (pe_bm PySem.F.plainAttrs_list PySem.F.slot_list_extend PySem.F.type_list_extend mt_extend (pv 2) (pa_cons (pe_ifExp (pt_cmpR op_eq (pe_ix ix_tup (pv 4) pe_int (fun _ _ => rfl)) (pe_gS T.c_ANY) (nomark _)) (pe_callTy c_listS rfl T.f_list (by decide +kernel) (pa_cons (pe_fld (pe_bm0 PySem.F.plainAttrs_list PySem.F.slot_list_pop PySem.F.type_list_pop mt_pop (pv 3)) rfl) pa_nil)) (pe_lst (pa_cons (pv 4) pa_nil))) pa_nil)))))
    (pss_one (ps_ret (pe_callTy c_tupS rfl T.f_tuple (by decide +kernel) (pa_cons (pv 2) pa_nil))))))), ?_⟩
  try dsimp only [nox_K]
  refine rd_st (σ' := [some (.ref a), some (.ref v), none, none, none]) rfl ?_
  obtain ⟨nxs, hn, hx⟩ := R.nd.tupR
  have hl : nxs.length = size t := by rw [hx.len, List.length_map, nodes_length]
  have hz := ht.sz
  walk_at "w"
  refine ⟨small (by simp), fun d hd => ?_⟩
  walk_at "w"
  have sd' := same_new hd (.lst [])
  refine rd_listS (.inr (sqT_kp (kp_same sd') hv)) fun b hb => ?_
  refine ⟨b, _, rfl, SqL.of upd_same, fun g hg => ?_⟩
  walk_at "w"
  have sb := same_new hb (.lst xs)
  have sg := same_new hg (.lst xs.reverse)
  have s3 := (sd'.trans sb).trans sg
  have hg0 : H g = none := (sd'.trans sb).free hg
  have hgd : g ≠ d := (ne_of_none (sb _ _ upd_same) hg).symm
  refine rd_Fld (s3 _ _ R.ob) T.cl_t T.na_t_own_nodes rfl ?_
  refine rd_oneTup (sqT_kp (kp_same s3) hn) ?_
  refine fo_it (walk_tup (xs := nxs)) (fun i σ H' => ∃ nv ys, σ = [some (.ref a), some (.ref v), some (.ref d), some (.ref g), nv] ∧ Same H H' ∧ H' d = some (.lst ys) ∧ Tps K H' ys ((nfill ((nodes t).take i) fs).map ndD) ∧ H' g = some (.lst (xs.drop (cntU ((nodes t).take i))).reverse)) ?_ ?_ ?_ ?_
  · refine ⟨none, [], rfl, s3, (sb.trans sg) _ _ upd_same, ?_, ?_⟩
    · rw [List.take_zero, nfill]; exact .nil
    · rw [List.take_zero, cntU, List.drop_zero, upd_same]
  · rintro i σ H' _ ⟨nv, ys, _, s, _⟩
    exact sqT_kp (kp_same s) hn
  · rintro i x σ H2 H1 hi ⟨nv, ys, rfl, s1, hD, hT, hG⟩ ⟨rfl, hx1⟩
    obtain ⟨nn, na, hnn, rfl, hna⟩ := tps_get_nd (hx.kp (kp_same s1)) hx1
    have htk := take_succ_get hnn
    have hcu : cntU ((nodes t).take (i + 1)) ≤ cntU (nodes t) := by
      have := cntU_app ((nodes t).take (i + 1)) ((nodes t).drop (i + 1))
      rw [List.take_append_drop] at this
      omega
    have hyl : ys.length ≤ 1100 := by
      have := hT.len
      rw [List.length_map] at this
      have h2 := nfill_len ((nodes t).take i) fs
      rw [List.length_take, nodes_length] at h2
      omega
    walk_at "w"
    refine ⟨tyV_l (SqL.of hD), ?_⟩
    walk_at "w"
    refine rd_ixT hna (v := .str nn.1) rfl ?_
    walk_at "w"
    by_cases hw : nn.1 = "_"
    · refine rd_dT hw ?_
      walk_at "w"
      have hc1 : cntU ((nodes t).take (i + 1)) = cntU ((nodes t).take i) + 1 := by rw [htk, cntU_app, cntU, if_pos hw, cntU]
      have hxl := hfs.1
      have hix : cntU ((nodes t).take i) < xs.length := by omega
      have hxg : xs[cntU ((nodes t).take i)]? = some (xs[cntU ((nodes t).take i)]) := List.getElem?_eq_getElem hix
      have hfg : fs[cntU ((nodes t).take i)]? = some (fs[cntU ((nodes t).take i)]'(by omega)) := List.getElem?_eq_getElem (by omega)
      obtain ⟨ta, hta, TT⟩ := hfs.2 _ _ _ hxg hfg
      refine ⟨tyV_l (SqL.of hG), ?_⟩
      have hdr : xs.drop (cntU ((nodes t).take i)) = V.ref ta :: xs.drop (cntU ((nodes t).take i) + 1) := by
        rw [List.drop_eq_getElem_cons hix, hta]
      refine ⟨g, _, .ref ta, rfl, rfl, hG, ?_, ?_⟩
      · rw [hdr, List.reverse_cons]; simp
      · have hdl : ((xs.drop (cntU ((nodes t).take i))).reverse).dropLast = (xs.drop (cntU ((nodes t).take i) + 1)).reverse := by
          rw [hdr, List.reverse_cons, List.dropLast_concat]
        rw [hdl]
        have s5 : Same H (upd H1 g (.lst (xs.drop (cntU ((nodes t).take i) + 1)).reverse)) := same_mut s1 hg0
        obtain ⟨dx', n', c', e', sd'', u', l', kvs', R'⟩ := TT.kp (kp_same s5)
        refine rd_Fld R'.ob T.cl_t T.na_t_own_nodes rfl ?_
        walk_at "w"
        obtain ⟨zs, hzs, hzt⟩ := R'.nd.tupR
        refine rd_listS (.inr hzs) fun p hp => ?_
        walk_at "w"
        have sp := same_new hp (.lst zs)
        have hzl : zs.length ≤ 1000 := by
          have q1 := hzt.len
          rw [List.length_map, nodes_length] at q1
          have : ∀ (ts : List Tm) (m : Nat) (h : m < ts.length), size (ts[m]) ≤ sizes ts := by
            intro ts
            induction ts with
            | nil => intro m h; simp at h
            | cons t r ih =>
              intro m h
              rw [sizes]
              cases m with
              | zero => simp
              | succ m => have := ih m (by simpa using h); simp; omega
          have := this fs (cntU ((nodes t).take i)) (by omega)
          omega
        have hD5 : upd H1 g (.lst (xs.drop (cntU ((nodes t).take i) + 1)).reverse) d = some (.lst ys) := by rw [upd_ne hgd.symm]; exact hD
        refine ⟨d, p, ys, zs, rfl, rfl, sp _ _ hD5, upd_same, small (by omega), ?_⟩
        walk_at "w"
        have sAll := s5.trans sp
        have kt : Kp H1 (upd (upd (upd H1 g (.lst (xs.drop (cntU ((nodes t).take i) + 1)).reverse)) p (.lst zs)) d (.lst (ys ++ zs))) := ((kp_lst hG).trans (kp_new hp)).trans (kp_lst (sp _ _ hD5))
        refine ⟨_, ys ++ zs, rfl, same_mut sAll hd, upd_same, ?_, ?_⟩
        · rw [htk, nfill_app, List.map_append]
          refine (hT.kp kt).app ?_
          have hdf : fs.drop (cntU ((nodes t).take i)) = (fs[cntU ((nodes t).take i)]'(by omega)) :: fs.drop (cntU ((nodes t).take i) + 1) := List.drop_eq_getElem_cons (by omega)
          rw [hdf, nfill, if_pos hw, nfill, hdN, List.append_nil]
          exact (hzt.kp (kp_new hp)).kp (kp_lst (sp _ _ hD5))
        · rw [upd_ne hgd, hc1]; exact sp _ _ upd_same
    · refine rd_dF hw ?_
      walk_at "w"
      have hc1 : cntU ((nodes t).take (i + 1)) = cntU ((nodes t).take i) := by rw [htk, cntU_app, cntU, if_neg hw, cntU]; omega
      refine ⟨small (by simp), fun p hp => ?_⟩
      have sp := same_new hp (.lst [.ref na])
      refine ⟨d, p, ys, [.ref na], rfl, rfl, sp _ _ hD, upd_same, small (by simp; omega), ?_⟩
      walk_at "w"
      have kt : Kp H1 (upd (upd H1 p (.lst [.ref na])) d (.lst (ys ++ [.ref na]))) := (kp_new hp).trans (kp_lst (sp _ _ hD))
      refine ⟨_, ys ++ [.ref na], rfl, same_mut (s1.trans sp) hd, upd_same, ?_, ?_⟩
      · rw [htk, nfill_app, List.map_append]
        refine (hT.kp kt).app ?_
        rw [nfill, if_neg hw, nfill]
        exact .cons ((tp_nd hna).kp kt) .nil
      · rw [upd_ne hgd, hc1]; exact sp _ _ hG
  · rintro σ H1 ⟨nv, ys, rfl, s1, hD, hT, hG⟩
    rw [hl, show (nodes t).take (size t) = nodes t by rw [← nodes_length, List.take_length]] at hT
    walk_at "w"
    refine rd_tupS (SqL.of hD) fun q hq => ?_
    exact k q _ (s1.trans (same_new hq _)) (.tup (sqT_of upd_same) (hT.kp (kp_new hq)))
def sp_nodes_put (K : PySem.W.Frag) (C : Ad) : Sp := fun vs H Q _ => ∃ a t p s v ns, vs = [.ref a, vI p, v] ∧ TermAt K C H a t ∧ TmW t ∧ At t p s ∧ Tp K H v (nodesD ns) ∧ ns.length ≤ 2000 ∧
  ∀ q H', Same H H' → Tp K H' (.ref q) (nodesD ((nodes t).take p ++ (ns ++ (nodes t).drop (p + size s)))) → Q (.ref q) H'
theorem ok_nodes_put (T : Ty K mg C) : Gf P w K mg base "nodes_put" 1 (sp_nodes_put K C) := by
  refine T.d_nodes_put.ok sc_nodes_put (fun vs H Q E h => ?_) (fun f cdv A outer s H vs Q E hr h => ?_)
  · obtain ⟨a, t, p, s, v, ns, rfl, _⟩ := h
    rfl
  obtain ⟨a, t, p, s, v, ns, rfl, ⟨dx, n, c, e, sd, u, l, kvs, R⟩, ht, hs, hv, hns, k⟩ := h
  refine ⟨_, (pss_one (ps_ret (pe_tup (StX.pa_star (pe_slice sl_tupA (pe_fld (pv 0) rfl) po_none (po_some (pv 1))) (StX.pa_star (pv 2) (StX.pa_star (pe_slice sl_tupA (pe_fld (pv 0) rfl) (po_some (pe_ix ix_tup (pe_fld (pv 0) rfl) (pv 1) (fun _ _ => rfl))) po_none) pa_nil)))))), ?_⟩
  try dsimp only [nox_K]
  refine rd_st (σ' := [some (.ref a), some (vI p), some v]) rfl ?_
  obtain ⟨nxs, hn, hx⟩ := R.nd.tupR
  have hl : nxs.length = size t := by rw [hx.len, List.length_map, nodes_length]
  obtain ⟨va, vxs, rfl, hva, hvx⟩ := hv.tupE
  have hvl : vxs.length = ns.length := by rw [hvx.len, List.length_map]
  have hle := hs.size_le
  have hz := ht.sz
  walk_at "w"
  refine rd_Fld R.ob T.cl_t T.na_t_own_nodes rfl ?_
  walk_at "w"
  refine rd_slA hn fun q1 H1 s1 hq1 => ?_
  rw [cut_toN nxs p (by omega)] at hq1
  refine ⟨q1, _, rfl, .inl hq1, ?_⟩
  walk_at "w"
  refine ⟨va, _, rfl, .inl (sqT_kp (kp_same s1) hva), ?_⟩
  walk_at "w"
  refine rd_Fld (s1 _ _ R.ob) T.cl_t T.na_t_own_nodes rfl ?_
  walk_at "w"
  refine rd_Fld (s1 _ _ R.ob) T.cl_t T.na_t_own_ends rfl ?_
  walk_at "w"
  refine rd_ixT (sqT_kp (kp_same s1) R.ed) (v := vI (p + size s)) (atI_nat (by rw [List.getElem?_map, hs.end_]; rfl)) ?_
  walk_at "w"
  refine rd_slA (sqT_kp (kp_same s1) hn) fun q2 H2 s2 hq2 => ?_
  rw [cut_fromN nxs (p + size s) (by omega)] at hq2
  refine ⟨q2, _, rfl, .inl hq2, ?_⟩
  walk_at "w"
  refine ⟨?_, fun q hq => ?_⟩
  · rw [List.append_nil, List.length_append, List.length_append, List.length_take, List.length_drop]
    exact small (by omega)
  · have sq := same_new hq (.tup (nxs.take p ++ (vxs ++ (nxs.drop (p + size s) ++ []))))
    refine k q _ ((s1.trans s2).trans sq) (.tup (sqT_of upd_same) ?_)
    rw [List.append_nil, List.map_append, List.map_append, List.map_take, List.map_drop]
    have kk := kp_same ((s1.trans s2).trans sq)
    rw [List.append_nil] at kk
    exact ((hx.take p).kp kk).app ((hvx.kp kk).app ((hx.drop (p + size s)).kp kk))
end
end FN
set_option maxHeartbeats 4000000
namespace FN
open PySem PySem.Spec PyProof.Rows L2
local macro_rules | `(tactic| walk_at "w") => `(tactic| repeat (with_reducible first
  | refine rd_seq ?_
  | refine rd_asg ?_
  | refine rd_name ?_
  | refine rd_ret ?_
  | refine rd_drop ?_
  | refine rd_if ?_
  | refine rd_next ?_
  | refine rd_var (by k_dflt rfl) ?_
  | refine rd_c ?_
  | refine rd_op ?_
  | refine rd_un ?_
  | refine rd_test ?_
  | refine rd_B ?_
  | refine rd_I0 ?_
  | refine rd_U ?_
  | refine rd_eqI ?_
  | refine rd_neI ?_
  | refine rd_eqS ?_
  | refine rd_neS ?_
  | refine rd_and ?_
  | refine rd_or ?_
  | refine rd_not ?_
  | refine rd_andV ?_
  | refine rd_orV ?_
  | refine rd_notV ?_
  | refine rd_ife ?_
  | refine rd_chain ?_
  | refine rd_exb ?_
  | refine rd_exi ?_
  | refine rd_nil ?_
  | refine rd_cons ?_
  | refine rd_CB ?_
  | refine rd_G ?_
  | refine rd_fld ?_
  | refine rd_sl ?_
  | refine rd_part ?_
  | refine rd_noPart ?_
  | refine rd_leaf ?_
  | refine rd_tup ?_
  | refine rd_lst ?_
  | refine rd_star ?_
  | refine rd_bm ?_
  | refine rd_bm0 ?_
  | refine rd_gsub ?_
  | refine rd_rev ?_
  | refine rd_gnil ?_
  | refine rd_gcons ?_
  | refine rd_yes ?_
  | refine rd_abs ?_
  | refine rd_max2 ?_
  | refine rd_min2 ?_
  | refine rd_int1 ?_
  | refine rd_int1b ?_
  | refine rd_inSign ?_
  | refine rd_niSign ?_
  | refine rd_isN ?_
  | refine rd_ntN ?_
  | refine rd_dcLst ?_
  | refine rd_dcTup ?_
  | refine rd_dcItems ?_
  | refine rd_lcTup ?_
  | refine rd_lcLst ?_
  | refine rd_lcStr ?_
  | refine rd_lcR1 ?_
  | refine rd_lcR2 ?_
  | refine rd_lcKeys ?_
  | refine rd_lcVals ?_
  | refine rd_lcItems ?_
  | refine rd_lcZip ?_
  | refine rd_forTup ?_
  | refine rd_forLst ?_
  | refine rd_forR1 ?_
  | refine rd_forR2 ?_
  | refine rd_forR3 ?_
  | refine rd_forZip ?_
  | refine rd_forItems ?_
  | refine rd_lcEnumT ?_
  | refine rd_forEnumT ?_
  | refine rd_oneStr ?_
  | refine rd_mkR ?_
  | refine rd_mk0 ?_
  | refine rd_mR ?_
  | refine rd_mN ?_
  | refine rd_pr ?_
  | refine rd_cmR ?_
  | refine rd_makeC ?_
  | refine rd_tM1 ?_
  | refine rd_fmtT ?_
  | refine ⟨rd_exs, ?_⟩
  | refine rd_listZip ?_
  | refine rd_lenSetS ?_
  | refine rd_sfld ?_
  | refine rd_jc ?_
  | refine rd_jn ?_
  | refine rd_par ?_
  | refine rd_par3 ?_
  | refine rd_dupd ?_
  | refine rd_disp ?_
  | refine rd_pc ?_
  | refine rd_pn ?_
  | refine rd_dni ?_
  | refine rd_dget ?_
  | refine rd_dget2 ?_
  | refine rd_dput ?_
  | refine rd_T ?_
  | refine rd_F ?_
  | refine rd_nT ?_
  | refine rd_nF ?_))
/-- a term over the symbols S -/
def TmS (S : List Nd) (t : Tm) : Prop := ∀ n ∈ nodes t, n.1 ∉ [("_" : Str), ("#" : Str)] → n ∈ S
theorem dget_lock {H : Hp} {d e : Addr} {A B : List (Key × V)} {od : Obj} {z : Str} {o : Option V} (h1 : H d = some (.dK A)) (h2 : H e = some (.dK B)) {H' : Hp} (s : Same (upd H e (.frz od (.dK B))) H') (q : valV A (.inr z) = o) : DGet H' d (.str z) o := by
  by_cases hde : d = e
  · subst hde
    rw [h1] at h2; cases h2
    exact .inl ⟨A, .inr z, .inr ⟨od, s _ _ upd_same⟩, rfl, q.symm⟩
  · exact dgetS (s _ _ (by rw [upd_ne hde]; exact h1)) q
theorem isD_lock {H : Hp} {d e : Addr} {A B : List (Key × V)} {od : Obj} (h1 : H d = some (.dK A)) (h2 : H e = some (.dK B)) {H' : Hp} (s : Same (upd H e (.frz od (.dK B))) H') : IsD H' d := by
  by_cases hde : d = e
  · subst hde
    rw [h1] at h2; cases h2
    exact .inl ⟨A, .inr ⟨od, s _ _ upd_same⟩⟩
  · exact .inl ⟨A, .inl (s _ _ (by rw [upd_ne hde]; exact h1))⟩
section
variable {P : Program} {w : World} {K : PySem.W.Frag} {mg : Str → Option Value} {base : Heap} {C : Ad}
def sp_is_term_of (K : PySem.W.Frag) (C : Ad) : Sp := fun vs H Q _ => ∃ (d a : Addr) (S : List Nd) (t : Tm), vs = [.ref d, .ref a] ∧ H d = some (.dK (S.map kvN)) ∧ NodK S ∧ TermAt K C H a t ∧ size t ≤ 40 ∧ TmS S t ∧ ∀ H', Same H H' → Q (.bl true) H'
theorem ok_is_term_of (T : Ty K mg C) : Gf P w K mg base "is_term_of" 1 (sp_is_term_of K C) := by
  refine T.d_is_term_of.ok sc_is_term_of (fun vs H Q E h => ?_) (fun f cdv A outer s H vs Q E hr h => ?_)
  · obtain ⟨d, a, S, t, rfl, _⟩ := h
    rfl
  obtain ⟨d, a, S, t, rfl, hd, hS, ⟨dx, n, c, e, sd, u, l, kvs, R⟩, hz, hts, k⟩ := h
  refine ⟨_, (pss_cons (ps_if (pt_not (pt_val (pe_callB call_isi rfl T.f_isinstance (by decide +kernel) (pa_cons (pv 1) (pa_cons (pe_glob (v := .ref C.t) rfl T.g_Term rfl) pa_nil))))) (pss_one (ps_ret pe_bl)) pss_nil)
    (pss_one (ps_ret (pe_callB (cr_all rfl) rfl T.f_all (by decide +kernel) (pa_cons (pe_lock (pe_lc (own := [("word", 2), ("arity", 3)]) rfl sc_is_term_of.nd (pi_items (pe_fld (pv 1) rfl)) (blkOk_by (own := [("word", 2), ("arity", 3)]) (N := ["symbols", "value", "word", "arity"]) (sc := defScope s_is_term_of) (by decide +kernel)) (fun _ _ _ _ _ => (tupG_k (K := K) (n := 2) rfl rfl (pgs_cons (pg_name (i := 2) sc_is_term_of.nd rfl (Or.inl rfl)) (pgs_cons (pg_name (i := 3) sc_is_term_of.nd rfl (Or.inl rfl)) pgs_nil)))) (fun _ _ _ _ _ => pts_nil) (fun _ _ _ _ _ => (pe_cmpR op_eq (pe_dget2 (hu1 hr) (pv 0) (pv 2) (pe_un un_neg pe_int) ⟨rfl, rfl, rfl, rfl⟩) (pv 3) (nomark _))))) pa_nil))))), ?_⟩
  try dsimp only [nox_K]
  refine rd_st (σ' := [some (.ref d), some (.ref a), none, none]) rfl ?_
  walk_at "w"
  refine rd_isi_x (tyX_ins R.ob T.cl_t T.isi_t) T.kb_tt ?_
  walk_at "w"
  obtain ⟨F, hF, hFl, hFm⟩ := R.sy
  have hsd := R.sd
  refine rd_lockE hsd fun od => ?_
  have hasd : a ≠ sd := fun z => by subst z; have := R.ob; rw [hsd] at this; cases this
  walk_at "w"
  refine rd_Fld (by rw [upd_ne hasd]; exact R.ob) T.cl_t T.na_t_own_symbols rfl ?_
  refine ⟨sd, od, kvs, rfl, upd_same, fun D hD => ?_⟩
  have hkl : kvs.length ≤ 40 := by rw [hF, List.length_map]; rw [nodes_length] at hFl; omega
  have hDsd : D ≠ sd := fun z => by subst z; rw [upd_same] at hD; cases hD
  refine lc_map walk_items (fun _ y _ => y = .bl true) (by omega) hD nok (fun H' s => s _ _ upd_same) ?_ ?_
  · rintro i acc x H1 H2 hi hl s1 hD' r ⟨Ta, k1, v1, rfl, hTa, rfl, hk, hv1⟩
    obtain ⟨m, hm⟩ : ∃ m, F[i]? = some m := by
      rw [hF, List.length_map] at hi
      exact ⟨F[i], List.getElem?_eq_getElem hi⟩
    have hkm : kvs[i]? = some (kvN m) := by rw [hF, List.getElem?_map, hm]; rfl
    have e1 : k1 = .str m.1 := by simp only [hkm] at hk; exact (Option.some.inj hk).symm
    have e2 : v1 = vI m.2 := by simp only [hkm] at hv1; exact (Option.some.inj hv1).symm
    subst e1; subst e2
    have st := same_new hTa (.tup [.str m.1, vI m.2])
    refine rd_gtup (sqT_of upd_same) rfl ?_
    walk_at "w"
    refine ⟨rfl, ?_⟩
    walk_at "w"
    obtain ⟨hmn, hmw⟩ := hFm m (List.mem_of_getElem? hm)
    have hmS := hts m hmn hmw
    refine ⟨d, rfl, isD_lock hd hsd (s1.trans st), ?_⟩
    walk_at "w"
    refine ⟨_, dget_lock hd hsd (s1.trans st) (valV_in hS hmS), ?_⟩
    dsimp only [Option.getD_some]
    walk_at "w"
    rw [decide_eq_true (Eq.refl ((m.2 : Nat) : Int))]
    exact lc_put (by omega) hl hD' hD s1 st nok r rfl
  · intro acc H1 s1 hD' hl1 hf
    refine ⟨s1 _ _ upd_same, ?_⟩
    walk_at "w"
    refine rd_allT (SqL.of (show upd H1 sd (.dK kvs) D = some (.lst acc) by rw [upd_ne hDsd]; exact hD')) hf ?_
    exact k _ (lock_same hsd s1)
def sp_is_side (K : PySem.W.Frag) (C : Ad) : Sp := fun vs H Q _ => ∃ (d a : Addr) (S : List Nd) (t : Tm), vs = [.ref d, .ref a] ∧ H d = some (.dK (S.map kvN)) ∧ NodK S ∧ TermAt K C H a t ∧ size t ≤ 7 ∧ TmS S t ∧ lv "#" t = [] ∧ ∀ H', Same H H' → Q (.bl true) H'
theorem ok_is_side (T : Ty K mg C) : Gf P w K mg base "is_side" 2 (sp_is_side K C) := by
  have G_is_term_of := ok_is_term_of (P := P) (w := w) (base := base) T
  refine T.d_is_side.ok sc_is_side (fun vs H Q E h => ?_) (fun f cdv A outer s H vs Q E hr h => ?_)
  · obtain ⟨d, a, S, t, rfl, _⟩ := h
    rfl
  obtain ⟨d, a, S, t, rfl, hd, hS, TA, hz, hts, hlo, k⟩ := h
  refine ⟨_, (pss_one (ps_ret (pe_and (pe_g G_is_term_of (hr.mono (by decide)) (pa_cons (pv 0) (pa_cons (pv 1) pa_nil))) (pe_and (pe_cmpR (op_eqD hr.units) (pe_fld (pv 1) rfl) (pe_tup pa_nil) (nomark _)) (pe_one (pe_cmpR op_le (pe_callB c_lenS rfl T.f_len PySem.boot_len (pa_cons (pe_fld (pv 1) rfl) pa_nil)) (pe_gI T.c_MAX_RULE_NODES) (nomark _))))))), ?_⟩
  try dsimp only [nox_K]
  refine rd_st (σ' := [some (.ref d), some (.ref a)]) rfl ?_
  walk_at "w"
  refine ⟨d, a, S, t, rfl, hd, hS, TA, by omega, hts, fun H1 s1 => ?_⟩
  walk_at "w"
  obtain ⟨dx, n, c, e, sd, u, l, kvs, R⟩ := TA.kp (kp_same s1)
  refine rd_Fld R.ob T.cl_t T.na_t_own_lost rfl ?_
  walk_at "w"
  refine ⟨small (by simp), fun q hq => ?_⟩
  have sq := same_new hq (.tup [])
  refine rd_eqIs (a := lv "#" t) (b := []) (tp_ints (sqT_kp (kp_same sq) R.ld)) (tp_ints (sqT_of upd_same)) ?_
  walk_at "w"
  refine rd_dT hlo ?_
  walk_at "w"
  refine rd_Fld (sq _ _ R.ob) T.cl_t T.na_t_own_nodes rfl ?_
  walk_at "w"
  obtain ⟨xs, hn, hx⟩ := R.nd.tupR
  have hl : xs.length = size t := by rw [hx.len, List.length_map, nodes_length]
  refine rd_len (.inr (sqT_kp (kp_same sq) hn)) ?_
  walk_at "w"
  rw [decide_eq_true (by omega)]
  exact k _ (s1.trans sq)
/-- a rule as the law makes them -/
structure RuleOk (S : List Nd) (r : Tm × Tm) : Prop where
  w1 : TmW r.1
  w2 : TmW r.2
  s1 : TmS S r.1
  s2 : TmS S r.2
  l1 : lv "#" r.1 = []
  l2 : lv "#" r.2 = []
  z1 : size r.1 ≤ 7
  z2 : size r.2 ≤ 7
  hd : r.1.w ≠ "_"
/-- a pair of Terms -/
def PairAt (K : PySem.W.Frag) (C : Ad) (H : Hp) (x : V) (r : Tm × Tm) : Prop := ∃ pa a b, x = .ref pa ∧ SqT K H pa [.ref a, .ref b] ∧ TermAt K C H a r.1 ∧ TermAt K C H b r.2
theorem PairAt.kp {H H' : Hp} {x : V} {r : Tm × Tm} (h : PairAt K C H x r) (k : Kp H H') : PairAt K C H' x r := by
  obtain ⟨pa, a, b, e, h1, h2, h3⟩ := h
  exact ⟨pa, a, b, e, sqT_kp k h1, h2.kp k, h3.kp k⟩
def sp_is_rule (K : PySem.W.Frag) (C : Ad) : Sp := fun vs H Q _ => ∃ (d : Addr) (x : V) (S : List Nd) (r : Tm × Tm), vs = [.ref d, x] ∧ H d = some (.dK (S.map kvN)) ∧ NodK S ∧ PairAt K C H x r ∧ RuleOk S r ∧ ∀ H', Same H H' → Q (.bl true) H'
theorem ok_is_rule (T : Ty K mg C) : Gf P w K mg base "is_rule" 3 (sp_is_rule K C) := by
  have G_is_side := ok_is_side (P := P) (w := w) (base := base) T
  refine T.d_is_rule.ok sc_is_rule (fun vs H Q E h => ?_) (fun f cdv A outer s H vs Q E hr h => ?_)
  · obtain ⟨d, a, S, t, rfl, _⟩ := h
    rfl
  obtain ⟨d, x, S, r, rfl, hd, hS, ⟨pa, a, b, rfl, hp, TA, TB⟩, hr0, k⟩ := h
  refine ⟨_, (pss_cons (ps_if (PW.pt (pw_or (pt_not (pt_val (pe_callB call_isi rfl T.f_isinstance (by decide +kernel) (pa_cons (pv 1) (pa_cons (pe_bltn (v := .ty "tuple") rfl T.f_tuple (by decide +kernel) rfl) pa_nil))))) (pw_or (pt_cmpR op_ne (pe_callB c_lenS rfl T.f_len PySem.boot_len (pa_cons (pv 1) pa_nil)) pe_int (nomark _)) (pw_or1 (pt_not (pt_val (pe_callB (cr_all rfl) rfl T.f_all (by decide +kernel) (pa_cons (pe_lc (own := [("side", 2)]) rfl sc_is_rule.nd (pi_tup (pv 1)) (blkOk_by (own := [("side", 2)]) (N := ["symbols", "value", "side"]) (sc := defScope s_is_rule) (by decide +kernel)) (fun _ _ _ _ _ => (pg_name (i := 2) sc_is_rule.nd rfl (Or.inl rfl))) (fun _ _ _ _ _ => pts_nil) (fun _ _ _ _ _ => (pe_g G_is_side (hr.mono (by decide)) (pa_cons (pv 0) (pa_cons (pv 2) pa_nil))))) pa_nil)))))))) (pss_one (ps_ret pe_bl)) pss_nil)
    (pss_one (ps_ret (pe_cmpR op_ne (pe_ix ix_tup (pe_ix ix_tup (pe_fld (pe_ix ix_tup (pv 1) pe_int (fun _ _ => rfl)) rfl) pe_int (fun _ _ => rfl)) pe_int (fun _ _ => rfl)) (pe_gS T.c_ANY) (nomark _))))), ?_⟩
  try dsimp only [nox_K]
  refine rd_st (σ' := [some (.ref d), some (.ref pa), none]) rfl ?_
  walk_at "w"
  refine rd_isi_sqT hp (b := true) (by decide +kernel) ?_
  walk_at "w"
  refine rd_len (.inr hp) ?_
  walk_at "w"
  refine rd_ndT rfl ?_
  walk_at "w"
  refine rd_oneTup hp fun D hD => ?_
  refine lc_map (walk_tup (xs := [.ref a, .ref b])) (fun _ y _ => y = .bl true) (show (2 : Nat) ≤ 50000 by decide) hD nok (fun H' s => sqT_kp (kp_same s) hp) ?_ ?_
  · rintro i acc x H2 H1 hi hl s1 hD' rr ⟨rfl, hx1⟩
    walk_at "w"
    refine ⟨rfl, ?_⟩
    walk_at "w"
    have hx2 : x = .ref a ∧ i = 0 ∨ x = .ref b ∧ i = 1 := by
      match i, hx1, hi with
      | 0, hx1, _ => exact .inl ⟨by simpa using hx1.symm, rfl⟩
      | 1, hx1, _ => exact .inr ⟨by simpa using hx1.symm, rfl⟩
      | i + 2, _, hi => exact absurd hi (by simp)
    rcases hx2 with ⟨rfl, rfl⟩ | ⟨rfl, rfl⟩
    · exact ⟨d, a, S, r.1, rfl, s1 _ _ hd, hS, TA.kp (kp_same s1), hr0.z1, hr0.s1, hr0.l1, fun H3 s3 => lc_put (by decide) hl hD' hD s1 s3 nok rr rfl⟩
    · exact ⟨d, b, S, r.2, rfl, s1 _ _ hd, hS, TB.kp (kp_same s1), hr0.z2, hr0.s2, hr0.l2, fun H3 s3 => lc_put (by decide) hl hD' hD s1 s3 nok rr rfl⟩
  · intro acc H1 s1 hD' hl1 hf
    walk_at "w"
    refine rd_allT (SqL.of hD') hf ?_
    walk_at "w"
    refine rd_ixT (sqT_kp (kp_same s1) hp) (v := .ref a) rfl ?_
    walk_at "w"
    obtain ⟨dx, n, c, e, sd, u, l, kvs, R⟩ := TA.kp (kp_same s1)
    refine rd_Fld R.ob T.cl_t T.na_t_own_nodes rfl ?_
    walk_at "w"
    obtain ⟨nxs, nda, hn, hni, hnd⟩ := R.getNd (.root r.1)
    refine rd_ixT hn (atI_nat (j := 0) hni) ?_
    walk_at "w"
    refine rd_ixT hnd (v := .str r.1.w) rfl ?_
    walk_at "w"
    rw [decide_eq_false hr0.hd]
    exact k H1 s1
end
end FN
set_option maxHeartbeats 4000000
namespace FN
open PySem PySem.Spec PyProof.Rows L2
local macro_rules | `(tactic| walk_at "w") => `(tactic| repeat (with_reducible first
  | refine rd_seq ?_
  | refine rd_asg ?_
  | refine rd_name ?_
  | refine rd_ret ?_
  | refine rd_drop ?_
  | refine rd_if ?_
  | refine rd_next ?_
  | refine rd_var (by k_dflt rfl) ?_
  | refine rd_c ?_
  | refine rd_op ?_
  | refine rd_un ?_
  | refine rd_test ?_
  | refine rd_B ?_
  | refine rd_I0 ?_
  | refine rd_U ?_
  | refine rd_eqI ?_
  | refine rd_neI ?_
  | refine rd_eqS ?_
  | refine rd_neS ?_
  | refine rd_and ?_
  | refine rd_or ?_
  | refine rd_not ?_
  | refine rd_andV ?_
  | refine rd_orV ?_
  | refine rd_notV ?_
  | refine rd_ife ?_
  | refine rd_chain ?_
  | refine rd_exb ?_
  | refine rd_exi ?_
  | refine rd_nil ?_
  | refine rd_cons ?_
  | refine rd_CB ?_
  | refine rd_G ?_
  | refine rd_fld ?_
  | refine rd_sl ?_
  | refine rd_part ?_
  | refine rd_noPart ?_
  | refine rd_leaf ?_
  | refine rd_tup ?_
  | refine rd_lst ?_
  | refine rd_star ?_
  | refine rd_bm ?_
  | refine rd_bm0 ?_
  | refine rd_gsub ?_
  | refine rd_rev ?_
  | refine rd_gnil ?_
  | refine rd_gcons ?_
  | refine rd_yes ?_
  | refine rd_abs ?_
  | refine rd_max2 ?_
  | refine rd_min2 ?_
  | refine rd_int1 ?_
  | refine rd_int1b ?_
  | refine rd_inSign ?_
  | refine rd_niSign ?_
  | refine rd_isN ?_
  | refine rd_ntN ?_
  | refine rd_dcLst ?_
  | refine rd_dcTup ?_
  | refine rd_dcItems ?_
  | refine rd_lcTup ?_
  | refine rd_lcLst ?_
  | refine rd_lcStr ?_
  | refine rd_lcR1 ?_
  | refine rd_lcR2 ?_
  | refine rd_lcKeys ?_
  | refine rd_lcVals ?_
  | refine rd_lcItems ?_
  | refine rd_lcZip ?_
  | refine rd_forTup ?_
  | refine rd_forLst ?_
  | refine rd_forR1 ?_
  | refine rd_forR2 ?_
  | refine rd_forR3 ?_
  | refine rd_forZip ?_
  | refine rd_forItems ?_
  | refine rd_lcEnumT ?_
  | refine rd_forEnumT ?_
  | refine rd_oneStr ?_
  | refine rd_mkR ?_
  | refine rd_mk0 ?_
  | refine rd_mR ?_
  | refine rd_mN ?_
  | refine rd_pr ?_
  | refine rd_cmR ?_
  | refine rd_makeC ?_
  | refine rd_tM1 ?_
  | refine rd_fmtT ?_
  | refine ⟨rd_exs, ?_⟩
  | refine rd_listZip ?_
  | refine rd_lenSetS ?_
  | refine rd_sfld ?_
  | refine rd_jc ?_
  | refine rd_jn ?_
  | refine rd_par ?_
  | refine rd_par3 ?_
  | refine rd_dupd ?_
  | refine rd_disp ?_
  | refine rd_pc ?_
  | refine rd_pn ?_
  | refine rd_dni ?_
  | refine rd_dget ?_
  | refine rd_dget2 ?_
  | refine rd_dput ?_
  | refine rd_T ?_
  | refine rd_F ?_
  | refine rd_nT ?_
  | refine rd_nF ?_))
abbrev kvT (z : Str) : Key × V := (.inr z, .bl true)
theorem putK_true (zs : List Str) (z : Str) (hn : zs.Nodup) : ∃ zs' : List Str, putK (zs.map kvT) (.inr z) (.bl true) = zs'.map kvT ∧ zs'.Nodup ∧ ∀ y ∈ zs', y ∈ zs ∨ y = z := by
  by_cases h : z ∈ zs
  · refine ⟨zs, ?_, hn, fun y hy => .inl hy⟩
    unfold putK
    rw [if_pos, List.map_map]
    · refine List.map_congr_left fun m _ => ?_
      show (if (Sum.inr m : Key) = .inr z then ((Sum.inr m : Key), V.bl true) else kvT m) = kvT m
      split <;> rfl
    · exact List.any_eq_true.mpr ⟨kvT z, List.mem_map.mpr ⟨z, h, rfl⟩, decide_eq_true rfl⟩
  · refine ⟨zs ++ [z], ?_, List.nodup_append.mpr ⟨hn, by simp, by
      rintro a ha b hb rfl
      rw [List.mem_singleton] at hb
      subst hb
      exact h ha⟩, fun y hy => by simpa using hy⟩
    unfold putK
    rw [if_neg, List.map_append]
    · rfl
    · intro q
      obtain ⟨kv, hkv, e⟩ := List.any_eq_true.mp q
      obtain ⟨m, hm, rfl⟩ := List.mem_map.mp hkv
      have := inr_inj (of_decide_eq_true e)
      subst this
      exact h hm
theorem nodup_sub_len {α : Type} [DecidableEq α] : ∀ {A B : List α}, A.Nodup → (∀ a ∈ A, a ∈ B) → A.length ≤ B.length
  | [], B, _, _ => Nat.zero_le _
  | a :: A, B, hn, hs => by
    have hn' := List.nodup_cons.mp hn
    have ha := hs a List.mem_cons_self
    have := nodup_sub_len (A := A) (B := B.erase a) hn'.2 fun b hb => (List.mem_erase_of_ne (fun z => by subst z; exact hn'.1 hb)).mpr (hs b (List.mem_cons_of_mem _ hb))
    rw [List.length_erase_of_mem ha] at this
    have h1 : 0 < B.length := List.length_pos_of_mem ha
    rw [List.length_cons]; omega
/-- the parts of patterns, by texts of a short list -/
def PartsIn (L : List Str) (p : Tm) : Prop := ∀ k s, At p (k + 1) s → s.w ≠ "_" → tx s ∈ L
section
variable {P : Program} {w : World} {K : PySem.W.Frag} {mg : Str → Option Value} {base : Heap} {C : Ad}
def sp_parts_in (K : PySem.W.Frag) (C : Ad) : Sp := fun vs H Q _ => ∃ (l : Addr) (xs : List V) (ps : List Tm) (L : List Str), vs = [.ref l] ∧ H l = some (.lst xs) ∧ TmAll K C H xs ps ∧ (∀ p ∈ ps, TmW p) ∧ ps.length ≤ 10 ∧ L.length ≤ 10 ∧ (∀ p ∈ ps, PartsIn L p) ∧
  ∀ q H' (ys : List Str), Same H H' → H' q = some (.lst (ys.map V.str)) → ys.length ≤ 10 → Q (.ref q) H'
theorem ok_parts_in (T : Ty K mg C) : Gf P w K mg base "parts_in" 44 (sp_parts_in K C) := by
  have G_part_in := ok_part_in (P := P) (w := w) (base := base) T
  have G_Term_text := ok_text (P := P) (w := w) (base := base) T
  refine T.d_parts_in.ok sc_parts_in (fun vs H Q E h => ?_) (fun f cdv A outer s H vs Q E hr h => ?_)
  · obtain ⟨l, xs, ps, L, rfl, _⟩ := h
    rfl
  obtain ⟨l, xs, ps, L, rfl, hl, hps, hw, hpl, hL, hpa, k⟩ := h
  refine ⟨_, (pss_cons (ps_set (i := 1) sc_parts_in.nd rfl (Or.inl rfl) pe_dnewK)
    (pss_cons (ps_for PassesOwn.never rfl (pi_list (pv 0)) (pg_name (i := 2) sc_parts_in.nd rfl (Or.inl rfl)) (pss_one (ps_for PassesOwn.never rfl (pi_range2 rfl T.f_range (pa_cons pe_int (pa_cons (pe_callB c_lenS rfl T.f_len PySem.boot_len (pa_cons (pe_fld (pv 2) rfl) pa_nil)) pa_nil))) (pg_name (i := 3) sc_parts_in.nd rfl (Or.inl rfl)) (pss_one (ps_if (pt_cmpR op_ne (pe_ix ix_tup (pe_ix ix_tup (pe_fld (pv 2) rfl) (pv 3) (fun _ _ => rfl)) pe_int (fun _ _ => rfl)) (pe_gS T.c_ANY) (nomark _)) (pss_one (ps_dput (hu1 hr) (pv 1) (pe_p G_Term_text T.cl_t (pe_g G_part_in (hr.mono (by decide)) (pa_cons (pv 2) (pa_cons (pv 3) pa_nil))) (hr.mono (by decide))) pe_bl rfl)) pss_nil)))))
    (pss_one (ps_ret (pe_callB cr_sortedS rfl T.f_sorted (by decide +kernel) (pa_cons (pe_callTy (call_list_dK rfl) rfl T.f_list (by decide +kernel) (pa_cons (pv 1) pa_nil)) pa_nil)))))), ?_⟩
  try dsimp only [nox_K]
  refine rd_st (σ' := [some (.ref l), none, none, none]) rfl ?_
  walk_at "w"
  intro d hd
  walk_at "w"
  have sd := same_new hd (.dK [])
  refine rd_oneLst (SqL.of (sd _ _ hl)) ?_
  have hxl := hps.1
  refine fo_it (walk_list (xs := xs)) (fun i σ H' => ∃ pv av zs, σ = [some (.ref l), some (.ref d), pv, av] ∧ Same H H' ∧ H' d = some (.dK (zs.map kvT)) ∧ zs.Nodup ∧ ∀ z ∈ zs, z ∈ L) ⟨none, none, [], rfl, sd, upd_same, List.nodup_nil, fun z hz => by cases hz⟩ (fun i σ H' _ ⟨_, _, _, _, s, _⟩ => SqL.of (s _ _ hl)) ?_ ?_
  · rintro i x σ H2 H1 hi ⟨pv0, av0, zs, rfl, s1, hd1, hzn, hzL⟩ ⟨rfl, hx1⟩
    have hpi : ps[i]? = some (ps[i]'(by omega)) := List.getElem?_eq_getElem (by omega)
    obtain ⟨pa, rfl, TP⟩ := hps.2 i x _ hx1 hpi
    have hpm := List.mem_of_getElem? hpi
    generalize ps[i]'(by omega) = p at *
    have hpw := hw p hpm
    walk_at "w"
    obtain ⟨dx, n, c, e, sd2, u, l2, kvs, R⟩ := TP.kp (kp_same s1)
    refine rd_Fld R.ob T.cl_t T.na_t_own_nodes rfl ?_
    walk_at "w"
    obtain ⟨nxs, hn, hx⟩ := R.nd.tupR
    have hnl : nxs.length = size p := by rw [hx.len, List.length_map, nodes_length]
    refine rd_len (.inr hn) ?_
    have hz := hpw.sz
    refine ⟨_, _, rfl, by omega, ?_⟩
    refine fo_it (walk_range (lo := 1) (n := (((nxs.length : Nat) : Int) - 1).toNat)) (fun m σ H' => ∃ av zs, σ = [some (.ref l), some (.ref d), some (.ref pa), av] ∧ Same H H' ∧ H' d = some (.dK (zs.map kvT)) ∧ zs.Nodup ∧ ∀ z ∈ zs, z ∈ L) ⟨_, zs, rfl, s1, hd1, hzn, hzL⟩ (fun _ _ _ _ _ => trivial) ?_ ?_
    · rintro m x σ H3 H4 hm ⟨av, zs, rfl, s3, hd3, hzn, hzL⟩ ⟨rfl, rfl⟩
      have hmz : m + 1 < size p := by omega
      obtain ⟨sx, hsx⟩ := at_of (t := p) (k := m + 1) hmz
      have em : (1 : Int) + (m : Nat) = ((m + 1 : Nat) : Int) := by omega
      dsimp only
      rw [em]
      have TP3 := TP.kp (kp_same s3)
      have TP3' := TP3
      obtain ⟨dx, n, c, e, sd2, u, l2, kvs, R⟩ := TP3'
      obtain ⟨nxs3, nda, hn3, hni, hnd⟩ := R.getNd hsx
      walk_at "w"
      refine rd_Fld R.ob T.cl_t T.na_t_own_nodes rfl ?_
      walk_at "w"
      refine rd_ixT hn3 (atI_nat hni) ?_
      walk_at "w"
      refine rd_ixT hnd (v := .str sx.w) rfl ?_
      walk_at "w"
      by_cases hw0 : sx.w = "_"
      · refine rd_ndT hw0 ?_
        walk_at "w"
        exact ⟨_, zs, rfl, s3, hd3, hzn, hzL⟩
      · refine rd_ndF hw0 ?_
        walk_at "w"
        refine ⟨pa, p, m + 1, sx, rfl, TP3, hpw, hsx, fun y H5 s5 TY => ?_⟩
        have TY' := TY
        obtain ⟨dx', n', c', e', sd', u', l', kvs', R'⟩ := TY'
        refine ⟨y, dx', _, rfl, R'.ob, y, sx, rfl, TY, hpw.at hsx, fun H6 s6 => ?_⟩
        have sA := s3.trans (s5.trans s6)
        have hd6 := (s5.trans s6) _ _ hd3
        obtain ⟨zs', e1, e2, e3⟩ := putK_true zs (tx sx) hzn
        have hzl : zs.length ≤ 10 := Nat.le_trans (nodup_sub_len hzn hzL) hL
        refine ⟨d, _, rfl, dputS hd6 (smallL (by rw [List.length_map]; omega)), ?_⟩
        refine ⟨_, zs', rfl, same_mut sA hd, by rw [upd_same, e1], e2, fun z hz => ?_⟩
        rcases e3 z hz with h | rfl
        · exact hzL z h
        · exact hpa p hpm m sx hsx hw0
    · rintro σ H3 ⟨av, zs, rfl, s3, hd3, hzn, hzL⟩
      exact ⟨_, _, zs, rfl, s3, hd3, hzn, hzL⟩
  · rintro σ H1 ⟨pv0, av0, zs, rfl, s1, hd1, hzn, hzL⟩
    walk_at "w"
    refine rd_listD hd1 fun q hq => ?_
    walk_at "w"
    have hS : (zs.map kvT).map (fun kv => kV kv.1) = zs.map V.str := by rw [List.map_map]; rfl
    rw [hS]
    have hzl : zs.length ≤ 10 := Nat.le_trans (nodup_sub_len hzn hzL) hL
    refine sorted_r (SqL.of upd_same) (by omega) fun ys p hp _ hp2 => ?_
    exact k p _ ys (s1.trans ((same_new hq _).trans (same_new hp2 _))) upd_same (by rw [hp.length_eq]; omega)
end
end FN
set_option maxHeartbeats 4000000
namespace FN
open PySem PySem.Spec PyProof.Rows L2
local macro_rules | `(tactic| walk_at "w") => `(tactic| repeat (with_reducible first
  | refine rd_seq ?_
  | refine rd_asg ?_
  | refine rd_name ?_
  | refine rd_ret ?_
  | refine rd_drop ?_
  | refine rd_if ?_
  | refine rd_next ?_
  | refine rd_var (by k_dflt rfl) ?_
  | refine rd_c ?_
  | refine rd_op ?_
  | refine rd_un ?_
  | refine rd_test ?_
  | refine rd_B ?_
  | refine rd_I0 ?_
  | refine rd_U ?_
  | refine rd_eqI ?_
  | refine rd_neI ?_
  | refine rd_eqS ?_
  | refine rd_neS ?_
  | refine rd_and ?_
  | refine rd_or ?_
  | refine rd_not ?_
  | refine rd_andV ?_
  | refine rd_orV ?_
  | refine rd_notV ?_
  | refine rd_ife ?_
  | refine rd_chain ?_
  | refine rd_exb ?_
  | refine rd_exi ?_
  | refine rd_nil ?_
  | refine rd_cons ?_
  | refine rd_CB ?_
  | refine rd_G ?_
  | refine rd_fld ?_
  | refine rd_sl ?_
  | refine rd_part ?_
  | refine rd_noPart ?_
  | refine rd_leaf ?_
  | refine rd_tup ?_
  | refine rd_lst ?_
  | refine rd_star ?_
  | refine rd_bm ?_
  | refine rd_bm0 ?_
  | refine rd_gsub ?_
  | refine rd_rev ?_
  | refine rd_gnil ?_
  | refine rd_gcons ?_
  | refine rd_yes ?_
  | refine rd_abs ?_
  | refine rd_max2 ?_
  | refine rd_min2 ?_
  | refine rd_int1 ?_
  | refine rd_int1b ?_
  | refine rd_inSign ?_
  | refine rd_niSign ?_
  | refine rd_isN ?_
  | refine rd_ntN ?_
  | refine rd_dcLst ?_
  | refine rd_dcTup ?_
  | refine rd_dcItems ?_
  | refine rd_lcTup ?_
  | refine rd_lcLst ?_
  | refine rd_lcStr ?_
  | refine rd_lcR1 ?_
  | refine rd_lcR2 ?_
  | refine rd_lcKeys ?_
  | refine rd_lcVals ?_
  | refine rd_lcItems ?_
  | refine rd_lcZip ?_
  | refine rd_forTup ?_
  | refine rd_forLst ?_
  | refine rd_forR1 ?_
  | refine rd_forR2 ?_
  | refine rd_forR3 ?_
  | refine rd_forZip ?_
  | refine rd_forItems ?_
  | refine rd_lcEnumT ?_
  | refine rd_forEnumT ?_
  | refine rd_oneStr ?_
  | refine rd_mkR ?_
  | refine rd_mk0 ?_
  | refine rd_mR ?_
  | refine rd_mN ?_
  | refine rd_pr ?_
  | refine rd_cmR ?_
  | refine rd_makeC ?_
  | refine rd_tM1 ?_
  | refine rd_fmtT ?_
  | refine ⟨rd_exs, ?_⟩
  | refine rd_listZip ?_
  | refine rd_lenSetS ?_
  | refine rd_sfld ?_
  | refine rd_jc ?_
  | refine rd_jn ?_
  | refine rd_par ?_
  | refine rd_par3 ?_
  | refine rd_dupd ?_
  | refine rd_disp ?_
  | refine rd_pc ?_
  | refine rd_pn ?_
  | refine rd_dni ?_
  | refine rd_dget ?_
  | refine rd_dget2 ?_
  | refine rd_dput ?_
  | refine rd_T ?_
  | refine rd_F ?_
  | refine rd_nT ?_
  | refine rd_nF ?_))
theorem rd_jn {Q : Str → Hp → Prop} {acc : Str} {σ : L2.St} {H : Hp} (h : Q acc H) : tJs [] acc σ H Q := h
theorem rd_jc {Q : Str → Hp → Prop} {t : TE} {ts : List TE} {acc : Str} {σ : L2.St} {H : Hp} (h : t σ H fun x H1 => ∃ y : Str, x = .str y ∧ (acc ++ y).length ≤ sizeLine ∧ tJs ts (acc ++ y) σ H1 Q) : tJs (t :: ts) acc σ H Q := h
/-! ### the set of distinct texts -/
section
open PyProof.Rows
theorem fresh_text {zs : List Str} (nd : zs.Nodup) {i : Nat} (hi : i < zs.length) : ((zs.take i).any fun z => z == zs.getD i Str.empty) = false ∧ ∀ k : Str, (((zs.take i).any fun z => z == k) || decide (k = zs.getD i Str.empty)) = (zs.take (i + 1)).any fun z => z == k := by
  have e1 : zs.getD i Str.empty = zs[i] := by rw [List.getD_eq_getElem?_getD, List.getElem?_eq_getElem hi]; rfl
  have e2 : zs.take (i + 1) = zs.take i ++ [zs[i]] := by rw [List.take_add_one, List.getElem?_eq_getElem hi]; rfl
  refine ⟨?_, fun k => ?_⟩
  · rw [e1, Bool.eq_false_iff]
    intro h
    obtain ⟨y, hy, ey⟩ := List.any_eq_true.mp h
    have ey' : y = zs[i] := eq_of_beq ey
    obtain ⟨j, hj⟩ := List.mem_iff_getElem?.mp hy
    rw [List.getElem?_take] at hj
    split at hj
    · rename_i hji
      obtain ⟨hl, hz⟩ := List.getElem?_eq_some_iff.mp hj
      exact List.pairwise_iff_getElem.mp nd j i hl hi hji (hz.trans ey')
    · cases hj
  · rw [e2, List.any_append, e1]
    congr 1
    rw [List.any_cons, List.any_nil, Bool.or_false, Bool.eq_iff_iff, decide_eq_true_iff, beq_iff_eq]
    exact ⟨Eq.symm, Eq.symm⟩
variable {prog : Program} {w : World} {A : Around} {R : Result → Shared → Prop} {I : Addr} {fp wr : List Addr} {G : Array GenState → Array GenState → Prop} {n : Nat} {P : Nat → Value → Prop} {St : Nat → Shared → Prop}
theorem set_texts_loop (wk : WalksS prog w A.in1 I fp wr G n P St) (D : Addr) (hD : D ∉ fp) (zs : List Str) (nd : zs.Nodup) (hl : zs.length = n) (hb : n + 1 < scanBound) (hP : ∀ i v, P i v → ∃ t, v = .str (zs.getD i Str.empty) t) :
    ∀ (m i : Nat) (s : Shared), n - i = m → i ≤ n → St i s → s.heap.SetOf (PySem.strKind prog w) D (fun k => (zs.take i).any fun z => z == k) i →
      (∀ s', Moved (D :: wr) G s s' → s'.heap.SetOf (PySem.strKind prog w) D (fun k => (zs.take n).any fun z => z == k) n → R (.ok (.ret .none)) s') → codeAny (model prog w) A (.builtin "set.update.loop" ⟨[.ref D, .ref I], []⟩) R s := by
  have nw : D ∉ wr := fun h => hD (wk.sub _ h)
  have sub : ∀ b ∈ wr, b ∈ D :: wr := fun b hb => List.mem_cons_of_mem _ hb
  have keepSet : ∀ {s s' : Shared} {S : Str → Bool} {c : Nat}, Moved wr G s s' → s.heap.SetOf (PySem.strKind prog w) D S c → s'.heap.SetOf (PySem.strKind prog w) D S c := fun mv hS => by
    obtain ⟨o, es, ep, t, ho, rest⟩ := hS
    exact ⟨o, es, ep, t, mv.heap D _ nw ho, rest⟩
  intro m
  induction m with
  | zero =>
    intro i s hm hi st hS done
    obtain rfl : i = n := by omega
    refine codeAny_builtin PyProof.Rows.F.entry_set_update_loop ?_
    rw [Around.under_plainId PyProof.Rows.F.plain_set_update_loop _]
    show wpAny _ A.in1 (pyNext (.ref I) >>= _) _ _ s
    refine wpAny_bind (wk.done s _ _ st fun s' mv => ?_)
    show wpAny _ A.in1 (ret Value.none) _ _ s'
    exact wpAny_pure (done s' (mv.mono sub) (keepSet mv hS))
  | succ m again' =>
    intro i s hm hi st hS done
    have lt : i < n := by omega
    obtain ⟨f1, f2⟩ := fresh_text nd (i := i) (by omega)
    refine codeAny_builtin PyProof.Rows.F.entry_set_update_loop ?_
    rw [Around.under_plainId PyProof.Rows.F.plain_set_update_loop _]
    show wpAny _ A.in1 (pyNext (.ref I) >>= _) _ _ s
    refine wpAny_bind (wk.item i s _ _ lt st fun v s' hv st' mv => ?_)
    obtain ⟨t, rfl⟩ := hP i v hv
    have hS' := keepSet mv hS
    generalize hz : zs.getD i Str.empty = z at *
    show wpAny _ A.in1 (holding [Value.str z t] (setAdd D (.str z t)) >>= _) _ _ s'
    refine wpAny_bind (wpAny_holding ?_)
    unfold setAdd
    refine wpAny_holding ?_
    refine wpAny_bind ((PySem.strKind prog w).pyHash (k := z) (strKind_is _ _ _ _) ?_)
    refine wpAny_setAddHashed_of (knd := PySem.strKind prog w) (s := { s' with toks := s'.toks + 1 }) (strKind_is _ _ _ _) rfl hS' (by omega) fun h' same hS2 => ?_
    have hS3 : h'.SetOf (PySem.strKind prog w) D (fun k => (zs.take (i + 1)).any fun z => z == k) (i + 1) := SetOf_congr hS2 f2 (by rw [f1]; rfl)
    refine wpAny_pure ⟨plainId_quiet PyProof.Rows.F.plain_set_update_loop _, again' (i + 1) _ (by omega) lt (wk.frame _ s' _ _ st' (Nat.le_succ _) fun b hb o e => ?_) hS3 fun s2 mv2 hS4 => ?_⟩
    · rw [same.2 b (fun q : b = D => hD (by rw [← q]; exact hb))]
      exact e
    · refine done s2 (Moved.trans wk.gtrans ((mv.mono sub).then_heap (Nat.le_succ _) fun b o hb e => ?_) mv2) hS4
      rw [same.2 b (fun q : b = D => hb (by rw [q]; exact List.mem_cons_self))]
      exact e
end
section
open PyProof.Rows
variable {prog : Program} {w : World} {A : Around} {E : Value → Shared → Prop} {s : Shared}
set_option maxHeartbeats 3200000 in
theorem call_set_texts {l : Addr} {its : Array Value} {zs : List Str} {Q : Value → Shared → Prop} (hh : A.handled = none) (hl : s.heap.IsList l its) (hi : PyProof.Rows.StrsAre its.toList zs) (nd : zs.Nodup) (hb : zs.length + 1 < scanBound)
    (k : ∀ (h' : Heap) (tk : Nat), h'.SetOf (PySem.strKind prog w) s.heap.objs.size (fun k' => (zs.take its.size).any fun z => z == k') its.size → (∀ b o, b < s.heap.objs.size → s.heap.get? b = some o → h'.get? b = some o) → Q (.ref s.heap.objs.size) { s with heap := h', toks := tk }) :
    wpAny (model prog w) A (call (.type "set") [.ref l]) Q E s := by
  obtain ⟨cc, cl, hmro⟩ := PySem.F.called_set.mro
  have hmade := PySem.F.called_set.made
  have hsub := PySem.F.called_set.sub
  refine wpAny_call (codeAny_of_tree ?_)
  show wpAny _ _ (callAny (.type "set") _) _ _ _
  refine wpAny_pure ⟨Code.quiet_builtin _ (by decide +kernel), codeAny_builtin PySem.F.entry_type_call ?_⟩
  rw [Around.under_plain (weight_type_call_type "set" [.ref l] []) rfl]
  have h1 := PySem.F.called_set.notType
  have h2 := PySem.F.called_set.canCreate
  have hct := PySem.F.typeCall_set_1 (.ref l)
  repeat (any_goals (first | assumption | wp_step))
  refine codeAny_mono (code_set_new_1 (.ref l) (E := E) (Q₁ := fun obj s₁ => ∃ led : Bool, obj = .ref s.heap.objs.size ∧ s₁ = { s with heap := s.heap.push { cls := .type "set", dict := none, data := .set #[] 0 (.fresh 0 0 led) } }) fun led => ⟨led, rfl, rfl⟩) fun r s₁ hr => ?_
  cases r with
  | error e => exact hr
  | ok fl =>
    cases fl with
    | next => exact hr.elim
    | brk => exact hr.elim
    | cont => exact hr.elim
    | ret obj =>
      obtain ⟨led, rfl, rfl⟩ := hr
      have hS : (s.heap.push { cls := .type "set", dict := none, data := .set #[] 0 (.fresh 0 0 led) }).get? s.heap.objs.size = some { cls := .type "set", dict := none, data := .set #[] 0 (.fresh 0 0 led) } := Heap.get?_push_size _ rfl
      have hT : Shared.TypeIs { s with heap := s.heap.push { cls := .type "set", dict := none, data := .set #[] 0 (.fresh 0 0 led) } } (.ref s.heap.objs.size) "set" := ⟨_, hS, rfl⟩
      have hli := PySem.F.called_set.init.lookup
      have hbi := PySem.F.called_set.init.bind (.ref s.heap.objs.size)
      repeat (any_goals (first | assumption | wp_step))
      refine codeAny_mono (codeAny_call_builtin (R := wants (fun r s₂ => r = .none ∧ ∃ h' tk, s₂ = { s with heap := h', toks := tk } ∧
          h'.SetOf (PySem.strKind prog w) s.heap.objs.size (fun k' => (zs.take its.size).any fun z => z == k') its.size ∧ (∀ b o, b < s.heap.objs.size → s.heap.get? b = some o → h'.get? b = some o)) E) PySem.F.called_set.init.plain PySem.F.entry_set_init (check_set_init_1 hT ?_)) fun r₂ s₂ hr₂ => ?_
      · obtain ⟨ol, hol, hcl, nl, hdl⟩ := hl
        obtain ⟨oc, od, oda, osl⟩ := ol
        simp only at hcl hdl
        subst hcl; subst hdl
        have up : (s.heap.push { cls := .type "set", dict := none, data := .set #[] 0 (.fresh 0 0 led) }).get? l = some { cls := .type "list", dict := od, data := .seq its nl, slots := osl } := Heap.get?_push_of_some _ hol
        have hsls := PySem.F.sub_list_set
        have hslf := PySem.F.sub_list_frozenset
        have hne : (Value.type "list" == Value.type "dict") = false := by decide
        have hl1 : (s.heap.push { cls := .type "set", dict := none, data := .set #[] 0 (.fresh 0 0 led) }).IsList l its := ⟨_, up, rfl, nl, rfl⟩
        unfold Builtin.«set.__init__» noKeywords Builtin.Frozenset.updateFrom
        generalize hPI : pyIter = PI
        wp_walk
        subst hPI
        refine wpAny_pyIter_list hl1 ?_
        refine wpAny_bind (wpAny_runValue ?_)
        have hlS : l < s.heap.objs.size := Heap.lt_size hol
        have hh3 : A.in1.in1.in1.handled = none := by simp [hh]
        have sz1 : (s.heap.push { cls := .type "set", dict := none, data := .set #[] 0 (.fresh 0 0 led) }).objs.size = s.heap.objs.size + 1 := Heap.size_push ..
        have lI : l ≠ (s.heap.push { cls := .type "set", dict := none, data := .set #[] 0 (.fresh 0 0 led) }).objs.size := by rw [sz1]; exact Nat.ne_of_lt (Nat.lt_succ_of_lt hlS)
        have hSf : s.heap.objs.size ∉ [(s.heap.push { cls := .type "set", dict := none, data := .set #[] 0 (.fresh 0 0 led) }).objs.size, l] := by
          rw [sz1]
          simp only [List.mem_cons, List.not_mem_nil, or_false, not_or]
          exact ⟨Nat.ne_of_lt (Nat.lt_succ_self _), Nat.ne_of_gt hlS⟩
        have hsz : zs.length = its.size := by rw [← StrsAre.len_eq hi, Array.length_toList]
        have hval : ∀ (i : Nat) (v : Value), its[i]? = some v → ∃ t, v = .str (zs.getD i Str.empty) t := fun i v hv => SS.strs_at hi i v (by rw [Array.getElem?_toList]; exact hv)
        refine set_texts_loop ((Walks.list hh3 _ l lI its).toS) s.heap.objs.size hSf zs nd hsz (by omega) hval (its.size - 0) 0 _ (by omega) (Nat.zero_le _) ⟨⟨_, Heap.get?_push_size _ rfl, rfl, rfl⟩, (hl1.push _)⟩ ?hS0 ?hR
        case hS0 =>
          have hget : ((s.heap.push { cls := .type "set", dict := none, data := .set #[] 0 (.fresh 0 0 led) }).push { cls := .type "list_iterator", data := .fields #[.ref l, .int 0 0] }).get? s.heap.objs.size = some { cls := .type "set", dict := none, data := .set #[] 0 (.fresh 0 0 led) } := Heap.get?_push_of_some _ hS
          exact PyProof.Rows.SetOf_congr ((PyProof.Rows.setObjOf_fresh (knd := PySem.strKind prog w) led).setOf hget (by unfold scanBound; omega)) (fun _ => rfl) rfl
        case hR =>
          intro s' mv hS'
          obtain ⟨h', g', d', tk', os'⟩ := s'
          have eg : g' = s.gens := mv.gens
          have ed : d' = s.drawn := mv.drawn
          have eo : os' = s.os := mv.os
          subst eg; subst ed; subst eo
          show wpAny _ _ _ _ _ _
          refine wpAny_pure ?_
          show wpAny _ _ (ret Value.none) _ _ _
          refine wpAny_pure ⟨rfl, h', tk', rfl, hS', fun b o hb e => ?_⟩
          refine mv.heap b o ?_ (Heap.get?_push_of_some _ (Heap.get?_push_of_some _ e))
          rw [sz1]
          simp only [List.mem_cons, List.not_mem_nil, or_false, not_or]
          exact ⟨Nat.ne_of_lt hb, Nat.ne_of_lt (Nat.lt_succ_of_lt hb)⟩
      · cases r₂ with
        | error e => exact hr₂
        | ok fl₂ =>
          cases fl₂ with
          | ret r =>
            obtain ⟨rfl, h', tk, rfl, hS', hk'⟩ := hr₂
            repeat (any_goals (first | assumption | wp_step))
            exact k _ _ hS' hk'
          | next => exact hr₂.elim
          | brk => exact hr₂.elim
          | cont => exact hr₂.elim
end
/-! ### len(set(texts)) -/
def tLenSetS (K : PySem.W.Frag) (ta : TE) : TE := fun σ H Q => ta σ H fun x H1 => ∃ (l : Addr) (zs : List Str), x = .ref l ∧ SqL K H1 l (zs.map V.str) ∧ zs.Nodup ∧ zs.length ≤ 1000 ∧ Q (.int (zs.length : Nat)) H1
theorem rd_lenSetS {K : PySem.W.Frag} {ta : TE} {σ : L2.St} {H : Hp} {Q : VK} (h : ta σ H fun x H1 => ∃ (l : Addr) (zs : List Str), x = .ref l ∧ SqL K H1 l (zs.map V.str) ∧ zs.Nodup ∧ zs.length ≤ 1000 ∧ Q (.int (zs.length : Nat)) H1) : tLenSetS K ta σ H Q := h
theorem pe_lenSetS {X : Cx} {a : Expr} {ta : TE} {p p2 q pos : Pos} (hg : Gl X "len") (hm : X.mg "len" = none) (hg2 : Gl X "set") (hm2 : X.mg "set" = none) (ha : PE X a ta) (hc : X.calm = true := by rfl)
    (na : starEach [a] X.env = (false, eval a X.env) :: starEach [] X.env := by rfl) : PE X (.Call (.Name "len" p) [.Call (.Name "set" p2) [a] [] q] [] pos) (tLenSetS X.K ta) := by
  refine ⟨fun pins s σ H Q I h => ?_⟩
  refine Call_ (ld_blt I hg hm boot_len ?_)
  refine PyProof.Rows.callWith_builtin1 (PyProof.Rows.args_cons ?_ rfl) rfl rfl
  refine Call_ (ld_blt I hg2 hm2 boot_set ?_)
  refine PyProof.Rows.callWith_type1 (PyProof.Rows.args_cons (thn (ha.run pins s σ H _ I h) fun v s1 ⟨x, H1, I1, r1, q1⟩ => PyProof.Rows.args_nil ?_) na) na rfl
  obtain ⟨l, zs, rfl, hq, hnd, hl, q1⟩ := q1
  cases r1
  obtain ⟨its, r, pl, hz⟩ := I1.list hq
  have hlen : its.toArray.size = zs.length := by rw [List.size_toArray, ← r.length, List.length_map]
  refine call_set_texts (I1.ok.hd hc) pl.isList (by simpa using Vals.strs r) hnd (by unfold scanBound; omega) fun h' tk hS hk => ?_
  refine PyProof.Rows.args_nil ?_
  rw [hlen] at hS
  obtain ⟨o, es, ep, t, ho, hex, hd, _, _, _, hf, hn⟩ := hS
  have I2 : Inv X pins σ H1 { s1 with heap := h', toks := tk } := I1.kept fun b o e => hk b o (Heap.lt_size e) e
  exact call_len_set ho hex hd hf (by rw [hn]; omega) ⟨.int zs.length, H1, I2.tok _, ⟨_, by rw [hn]⟩, q1⟩
end FN
set_option maxHeartbeats 4000000
namespace FN
open PySem PySem.Spec PyProof.Rows L2
local macro_rules | `(tactic| walk_at "w") => `(tactic| repeat (with_reducible first
  | refine rd_seq ?_
  | refine rd_asg ?_
  | refine rd_name ?_
  | refine rd_ret ?_
  | refine rd_drop ?_
  | refine rd_if ?_
  | refine rd_next ?_
  | refine rd_var (by k_dflt rfl) ?_
  | refine rd_c ?_
  | refine rd_op ?_
  | refine rd_un ?_
  | refine rd_test ?_
  | refine rd_B ?_
  | refine rd_I0 ?_
  | refine rd_U ?_
  | refine rd_eqI ?_
  | refine rd_neI ?_
  | refine rd_eqS ?_
  | refine rd_neS ?_
  | refine rd_and ?_
  | refine rd_or ?_
  | refine rd_not ?_
  | refine rd_andV ?_
  | refine rd_orV ?_
  | refine rd_notV ?_
  | refine rd_ife ?_
  | refine rd_chain ?_
  | refine rd_exb ?_
  | refine rd_exi ?_
  | refine rd_nil ?_
  | refine rd_cons ?_
  | refine rd_CB ?_
  | refine rd_G ?_
  | refine rd_fld ?_
  | refine rd_sl ?_
  | refine rd_part ?_
  | refine rd_noPart ?_
  | refine rd_leaf ?_
  | refine rd_tup ?_
  | refine rd_lst ?_
  | refine rd_star ?_
  | refine rd_bm ?_
  | refine rd_bm0 ?_
  | refine rd_gsub ?_
  | refine rd_rev ?_
  | refine rd_gnil ?_
  | refine rd_gcons ?_
  | refine rd_yes ?_
  | refine rd_abs ?_
  | refine rd_max2 ?_
  | refine rd_min2 ?_
  | refine rd_int1 ?_
  | refine rd_int1b ?_
  | refine rd_inSign ?_
  | refine rd_niSign ?_
  | refine rd_isN ?_
  | refine rd_ntN ?_
  | refine rd_dcLst ?_
  | refine rd_dcTup ?_
  | refine rd_dcItems ?_
  | refine rd_lcTup ?_
  | refine rd_lcLst ?_
  | refine rd_lcStr ?_
  | refine rd_lcR1 ?_
  | refine rd_lcR2 ?_
  | refine rd_lcKeys ?_
  | refine rd_lcVals ?_
  | refine rd_lcItems ?_
  | refine rd_lcZip ?_
  | refine rd_forTup ?_
  | refine rd_forLst ?_
  | refine rd_forR1 ?_
  | refine rd_forR2 ?_
  | refine rd_forR3 ?_
  | refine rd_forZip ?_
  | refine rd_forItems ?_
  | refine rd_lcEnumT ?_
  | refine rd_forEnumT ?_
  | refine rd_oneStr ?_
  | refine rd_mkR ?_
  | refine rd_mk0 ?_
  | refine rd_mR ?_
  | refine rd_mN ?_
  | refine rd_pr ?_
  | refine rd_cmR ?_
  | refine rd_makeC ?_
  | refine rd_tM1 ?_
  | refine rd_fmtT ?_
  | refine ⟨rd_exs, ?_⟩
  | refine rd_listZip ?_
  | refine rd_lenSetS ?_
  | refine rd_sfld ?_
  | refine rd_jc ?_
  | refine rd_jn ?_
  | refine rd_par ?_
  | refine rd_par3 ?_
  | refine rd_dupd ?_
  | refine rd_disp ?_
  | refine rd_pc ?_
  | refine rd_pn ?_
  | refine rd_dni ?_
  | refine rd_dget ?_
  | refine rd_dget2 ?_
  | refine rd_dput ?_
  | refine rd_T ?_
  | refine rd_F ?_
  | refine rd_nT ?_
  | refine rd_nF ?_))
structure RulesOk (S : List Nd) (R : List (Tm × Tm)) : Prop where
  len : R.length ≤ 6
  ok : ∀ r ∈ R, RuleOk S r
  txt : (R.map fun r => tx r.1).Nodup
  prt : ∃ L : List Str, L.length ≤ 10 ∧ ∀ r ∈ R, PartsIn L r.1
section
variable {P : Program} {w : World} {K : PySem.W.Frag} {mg : Str → Option Value} {base : Heap} {C : Ad}
/-- a row of pairs of Terms -/
def PairsAt (K : PySem.W.Frag) (C : Ad) (H : Hp) (xs : List V) (R : List (Tm × Tm)) : Prop := xs.length = R.length ∧ ∀ (i : Nat) x r, xs[i]? = some x → R[i]? = some r → PairAt K C H x r
theorem PairsAt.kp {H H' : Hp} {xs : List V} {R : List (Tm × Tm)} (h : PairsAt K C H xs R) (k : Kp H H') : PairsAt K C H' xs R := ⟨h.1, fun i x t h1 h2 => (h.2 i x t h1 h2).kp k⟩
def sp_is_rules (K : PySem.W.Frag) (C : Ad) : Sp := fun vs H Q _ => ∃ (d v : Addr) (xs : List V) (S : List Nd) (R : List (Tm × Tm)), vs = [.ref d, .ref v] ∧ H d = some (.dK (S.map kvN)) ∧ NodK S ∧ SqT K H v xs ∧ PairsAt K C H xs R ∧ RulesOk S R ∧ ∀ H', Same H H' → Q (.bl true) H'
theorem ok_is_rules (T : Ty K mg C) : Gf P w K mg base "is_rules" 46 (sp_is_rules K C) := by
  have G_is_rule := ok_is_rule (P := P) (w := w) (base := base) T
  have G_parts_in := ok_parts_in (P := P) (w := w) (base := base) T
  have G_Term_text := ok_text (P := P) (w := w) (base := base) T
  refine T.d_is_rules.ok sc_is_rules (fun vs H Q E h => ?_) (fun f cdv A outer s H vs Q E hr h => ?_)
  · obtain ⟨d, v, xs, S, R, rfl, _⟩ := h
    rfl
  obtain ⟨d, v, xs, S, R, rfl, hd, hS, hv, hR, ok, k⟩ := h
  have hxl := hR.1
  have hRl := ok.len
  refine ⟨_, (pss_cons (ps_if (PW.pt (pw_or (pt_not (pt_val (pe_callB call_isi rfl T.f_isinstance (by decide +kernel) (pa_cons (pv 1) (pa_cons (pe_bltn (v := .ty "tuple") rfl T.f_tuple (by decide +kernel) rfl) pa_nil))))) (pw_or (pt_cmpR op_gt (pe_callB c_lenS rfl T.f_len PySem.boot_len (pa_cons (pv 1) pa_nil)) (pe_gI T.c_MAX_RULES) (nomark _)) (pw_or1 (pt_not (pt_val (pe_callB (cr_all rfl) rfl T.f_all (by decide +kernel) (pa_cons (pe_lc (own := [("rule", 5)]) rfl sc_is_rules.nd (pi_tup (pv 1)) (blkOk_by (own := [("rule", 5)]) (N := ["symbols", "value", "texts", "pattern", "sketch", "rule"]) (sc := defScope s_is_rules) (by decide +kernel)) (fun _ _ _ _ _ => (pg_name (i := 5) sc_is_rules.nd rfl (Or.inl rfl))) (fun _ _ _ _ _ => pts_nil) (fun _ _ _ _ _ => (pe_g G_is_rule (hr.mono (by decide)) (pa_cons (pv 0) (pa_cons (pv 5) pa_nil))))) pa_nil)))))))) (pss_one (ps_ret pe_bl)) pss_nil)
    (pss_cons (ps_setLc (i := 2) (own := [("pattern", 3), ("sketch", 4)]) rfl sc_is_rules.nd rfl rfl (sw_true rfl rfl rfl (by decide +kernel)) (pi_tup (pv 1)) (blkOk_by (own := [("pattern", 3), ("sketch", 4)]) (N := ["symbols", "value", "texts", "pattern", "sketch", "rule"]) (sc := defScope s_is_rules) (by decide +kernel)) (fun _ _ _ _ _ => (tupG_k (K := K) (n := 2) rfl rfl (pgs_cons (pg_name (i := 3) sc_is_rules.nd rfl (Or.inl rfl)) (pgs_cons (pg_name (i := 4) sc_is_rules.nd rfl (Or.inl rfl)) pgs_nil)))) (fun _ _ _ _ _ => pts_nil) (fun _ _ _ _ _ => (pe_p G_Term_text T.cl_t (pv 3) (hr.mono (by decide)))))
    (pss_one (ps_ret (pe_and (pe_cmpR op_eq (pe_lenSetS rfl T.f_len rfl T.f_set (pv 2)) (pe_callB c_lenS rfl T.f_len PySem.boot_len (pa_cons (pv 2) pa_nil)) (nomark _)) (pe_one (pe_cmpR op_le (pe_callB c_lenS rfl T.f_len PySem.boot_len (pa_cons (pe_g G_parts_in (hr.mono (by decide)) (pa_cons (pe_lc (own := [("rule", 5)]) rfl sc_is_rules.nd (pi_tup (pv 1)) (blkOk_by (own := [("rule", 5)]) (N := ["symbols", "value", "texts", "pattern", "sketch", "rule"]) (sc := defScope s_is_rules) (by decide +kernel)) (fun _ _ _ _ _ => (pg_name (i := 5) sc_is_rules.nd rfl (Or.inl rfl))) (fun _ _ _ _ _ => pts_nil) (fun _ _ _ _ _ => (pe_ix (ixT_k (K := K) rfl) (pv 5) pe_int (fun _ _ => rfl)))) pa_nil)) pa_nil)) (pe_gI T.c_MAX_PARTS) (nomark _)))))))), ?_⟩
  try dsimp only [nox_K]
  refine rd_st (σ' := [some (.ref d), some (.ref v), none, none, none, none]) rfl ?_
  walk_at "w"
  refine rd_isi_sqT hv (b := true) (by decide +kernel) ?_
  walk_at "w"
  refine rd_len (.inr hv) ?_
  walk_at "w"
  refine rd_dF (by omega) ?_
  walk_at "w"
  refine rd_oneTup hv fun D hD => ?_
  refine lc_map (walk_tup (xs := xs)) (fun _ y _ => y = .bl true) (by omega) hD nok (fun H' s => sqT_kp (kp_same s) hv) ?_ ?_
  · rintro i acc x H2 H1 hi hl s1 hD' rr ⟨rfl, hx1⟩
    have hri : R[i]? = some (R[i]'(by omega)) := List.getElem?_eq_getElem (by omega)
    walk_at "w"
    refine ⟨rfl, ?_⟩
    walk_at "w"
    exact ⟨d, x, S, _, rfl, s1 _ _ hd, hS, (hR.2 i x _ hx1 hri).kp (kp_same s1), ok.ok _ (List.mem_of_getElem? hri), fun H3 s3 => lc_put (by omega) hl hD' hD s1 s3 nok rr rfl⟩
  · intro acc H1 s1 hD' hl1 hf
    walk_at "w"
    refine rd_allT (SqL.of hD') hf ?_
    walk_at "w"
    have hv1 := sqT_kp (kp_same s1) hv
    have hR1 := hR.kp (kp_same s1)
    refine rd_oneTup hv1 fun D2 hD2 => ?_
    refine lc_map (walk_tup (xs := xs)) (fun i y _ => ∃ r, R[i]? = some r ∧ y = .str (tx r.1)) (by omega) hD2 (fun _ _ _ _ h _ => h) (fun H' s => sqT_kp (kp_same s) hv1) ?_ ?_
    · rintro i acc x H3 H2 hi hl s2 hD' rr ⟨rfl, hx1⟩
      have hri : R[i]? = some (R[i]'(by omega)) := List.getElem?_eq_getElem (by omega)
      obtain ⟨pa, a, b, rfl, hp, TA, TB⟩ := (hR1.2 i x _ hx1 hri).kp (kp_same s2)
      refine rd_gtup hp rfl ?_
      walk_at "w"
      refine ⟨rfl, ?_⟩
      walk_at "w"
      have TA' := TA
      obtain ⟨dx, n, c, e, sd, u, l, kvs, RA⟩ := TA'
      refine ⟨a, dx, _, rfl, RA.ob, a, _, rfl, TA, (ok.ok _ (List.mem_of_getElem? hri)).w1, fun H3 s3 => ?_⟩
      exact lc_put (by omega) hl hD' hD2 s2 s3 (fun _ _ _ _ h _ => h) rr ⟨_, hri, rfl⟩
    · intro acc2 H2 s2 hD2' hl2 hf2
      have e2 : acc2 = (R.map fun r => tx r.1).map V.str := by
        rw [List.map_map]
        refine List.ext_getElem? fun j => ?_
        rw [List.getElem?_map]
        cases q : acc2[j]? with
        | none =>
          have := List.getElem?_eq_none_iff.mp q
          rw [List.getElem?_eq_none (by omega)]; rfl
        | some y =>
          obtain ⟨r, hr1, rfl⟩ := hf2 j y q
          rw [hr1]; rfl
      rw [e2] at hD2'
      walk_at "w"
      refine ⟨D2, _, rfl, SqL.of hD2', ok.txt, by rw [List.length_map]; omega, ?_⟩
      walk_at "w"
      refine rd_len (.inl (SqL.of hD2')) ?_
      walk_at "w"
      refine rd_dT (by rw [List.length_map, List.length_map, List.length_map]) ?_
      walk_at "w"
      have sA := s1.trans s2
      have hv2 := sqT_kp (kp_same sA) hv
      have hR2 := hR.kp (kp_same sA)
      refine rd_oneTup hv2 fun D3 hD3 => ?_
      refine lc_map (walk_tup (xs := xs)) (fun i y H => ∃ r a, R[i]? = some r ∧ y = .ref a ∧ TermAt K C H a r.1) (by omega) hD3 (fun i y H H' q kk => ?_) (fun H' s => sqT_kp (kp_same s) hv2) ?_ ?_
      · obtain ⟨r, a, h1, h2, h3⟩ := q
        exact ⟨r, a, h1, h2, h3.kp kk⟩
      · rintro i acc x H4 H3 hi hl s3 hD' rr ⟨rfl, hx1⟩
        have hri : R[i]? = some (R[i]'(by omega)) := List.getElem?_eq_getElem (by omega)
        obtain ⟨pa, a, b, rfl, hp, TA, TB⟩ := (hR2.2 i x _ hx1 hri).kp (kp_same s3)
        walk_at "w"
        refine ⟨rfl, ?_⟩
        walk_at "w"
        refine rd_ixT hp (v := .ref a) rfl ?_
        exact lc_put (by omega) hl hD' hD3 s3 (Same.refl _) (fun i y H H' q kk => by
          obtain ⟨r, a, h1, h2, h3⟩ := q
          exact ⟨r, a, h1, h2, h3.kp kk⟩) rr ⟨_, a, hri, rfl, TA⟩
      · intro acc3 H3 s3 hD3' hl3 hf3
        obtain ⟨L, hL, hpa⟩ := ok.prt
        walk_at "w"
        refine ⟨D3, acc3, R.map (·.1), L, rfl, hD3', ⟨by rw [hl3, List.length_map, hxl], fun i x t h1 h2 => ?_⟩, fun p hp => ?_, by rw [List.length_map]; omega, hL, fun p hp => ?_, fun q H4 ys s4 hq hyl => ?_⟩
        · obtain ⟨r, a, g1, g2, g3⟩ := hf3 i x h1
          rw [List.getElem?_map, g1] at h2
          have : t = r.1 := by simpa using h2.symm
          subst this
          exact ⟨a, g2, g3⟩
        · obtain ⟨r, hr1, rfl⟩ := List.mem_map.mp hp
          exact (ok.ok r hr1).w1
        · obtain ⟨r, hr1, rfl⟩ := List.mem_map.mp hp
          exact hpa r hr1
        · walk_at "w"
          refine rd_len (.inl (SqL.of hq)) ?_
          walk_at "w"
          rw [decide_eq_true (by rw [List.length_map]; omega)]
          exact k _ (sA.trans (s3.trans s4))
end
end FN
set_option maxHeartbeats 4000000
namespace FN
open PySem PySem.Spec PyProof.Rows L2
local macro_rules | `(tactic| walk_at "w") => `(tactic| repeat (with_reducible first
  | refine rd_seq ?_
  | refine rd_asg ?_
  | refine rd_name ?_
  | refine rd_ret ?_
  | refine rd_drop ?_
  | refine rd_if ?_
  | refine rd_next ?_
  | refine rd_var (by k_dflt rfl) ?_
  | refine rd_c ?_
  | refine rd_op ?_
  | refine rd_un ?_
  | refine rd_test ?_
  | refine rd_B ?_
  | refine rd_I0 ?_
  | refine rd_U ?_
  | refine rd_eqI ?_
  | refine rd_neI ?_
  | refine rd_eqS ?_
  | refine rd_neS ?_
  | refine rd_and ?_
  | refine rd_or ?_
  | refine rd_not ?_
  | refine rd_andV ?_
  | refine rd_orV ?_
  | refine rd_notV ?_
  | refine rd_ife ?_
  | refine rd_chain ?_
  | refine rd_exb ?_
  | refine rd_exi ?_
  | refine rd_nil ?_
  | refine rd_cons ?_
  | refine rd_CB ?_
  | refine rd_G ?_
  | refine rd_fld ?_
  | refine rd_sl ?_
  | refine rd_part ?_
  | refine rd_noPart ?_
  | refine rd_leaf ?_
  | refine rd_tup ?_
  | refine rd_lst ?_
  | refine rd_star ?_
  | refine rd_bm ?_
  | refine rd_bm0 ?_
  | refine rd_gsub ?_
  | refine rd_rev ?_
  | refine rd_gnil ?_
  | refine rd_gcons ?_
  | refine rd_yes ?_
  | refine rd_abs ?_
  | refine rd_max2 ?_
  | refine rd_min2 ?_
  | refine rd_int1 ?_
  | refine rd_int1b ?_
  | refine rd_inSign ?_
  | refine rd_niSign ?_
  | refine rd_isN ?_
  | refine rd_ntN ?_
  | refine rd_dcLst ?_
  | refine rd_dcTup ?_
  | refine rd_dcItems ?_
  | refine rd_lcTup ?_
  | refine rd_lcLst ?_
  | refine rd_lcStr ?_
  | refine rd_lcR1 ?_
  | refine rd_lcR2 ?_
  | refine rd_lcKeys ?_
  | refine rd_lcVals ?_
  | refine rd_lcItems ?_
  | refine rd_lcZip ?_
  | refine rd_forTup ?_
  | refine rd_forLst ?_
  | refine rd_forR1 ?_
  | refine rd_forR2 ?_
  | refine rd_forR3 ?_
  | refine rd_forZip ?_
  | refine rd_forItems ?_
  | refine rd_lcEnumT ?_
  | refine rd_forEnumT ?_
  | refine rd_oneStr ?_
  | refine rd_mkR ?_
  | refine rd_mk0 ?_
  | refine rd_mR ?_
  | refine rd_mN ?_
  | refine rd_pr ?_
  | refine rd_cmR ?_
  | refine rd_makeC ?_
  | refine rd_tM1 ?_
  | refine rd_fmtT ?_
  | refine ⟨rd_exs, ?_⟩
  | refine rd_listZip ?_
  | refine rd_lenSetS ?_
  | refine rd_sfld ?_
  | refine rd_jc ?_
  | refine rd_jn ?_
  | refine rd_par ?_
  | refine rd_par3 ?_
  | refine rd_dupd ?_
  | refine rd_disp ?_
  | refine rd_pc ?_
  | refine rd_pn ?_
  | refine rd_dni ?_
  | refine rd_dget ?_
  | refine rd_dget2 ?_
  | refine rd_dput ?_
  | refine rd_T ?_
  | refine rd_F ?_
  | refine rd_nT ?_
  | refine rd_nF ?_))
def bF (s r p k l y : V) : List (Str × V) := [("own_symbols", s), ("own_rules", r), ("own_patterns", p), ("own_sketches", k), ("own_lines", l), ("own_key", y)]
def BookAt (K : PySem.W.Frag) (C : Ad) (H : Hp) (a : Addr) (S : List Nd) (R : List (Tm × Tm)) : Prop := ∃ (dx s r : Addr) (p k l y : V) (S' : List Nd) (xs : List V), H a = some (.ins C.b dx (bF (.ref s) (.ref r) p k l y)) ∧ H s = some (.dK (S'.map kvN)) ∧ S'.Perm S ∧ SqT K H r xs ∧ PairsAt K C H xs R
section
variable {P : Program} {w : World} {K : PySem.W.Frag} {mg : Str → Option Value} {base : Heap} {C : Ad}
theorem BookAt.kp {H H' : Hp} {a : Addr} {S : List Nd} {R : List (Tm × Tm)} (h : BookAt K C H a S R) (k : Kp H H') : BookAt K C H' a S R := by
  obtain ⟨dx, s, r, p, kk, l, y, S', xs, h1, h2, h3, h4, h5⟩ := h
  exact ⟨dx, s, r, p, kk, l, y, S', xs, k _ _ h1 (fun xs z => by cases z), k _ _ h2 (fun xs z => by cases z), h3, sqT_kp k h4, h5.kp k⟩
theorem kt_fr {H H' : Hp} {x D dx : Addr} {fs : List (Str × V)} (f : FrD x H H') (hx : H x = some (.ins D dx fs)) : Kt H H' := fun a o h n => f a o (fun z => by
  subst z; rw [hx] at h
  obtain ⟨xs, n | ⟨ob, n⟩⟩ := n <;> rw [n] at h <;> cases h) h
theorem TermAt.fr {H H' : Hp} {x D dx a : Addr} {t : Tm} (f : FrD x H H') (hx : H x = some (.ins D dx [])) (h : TermAt K C H a t) : TermAt K C H' a t := by
  obtain ⟨d', n, c, e, sd, u, l, kvs, R⟩ := h
  have kt := kt_fr f hx
  exact ⟨d', n, c, e, sd, u, l, kvs, f _ _ (fun z => by subst z; have := R.ob; rw [hx] at this; simp [tF] at this) R.ob, R.nd.kt kt, R.cd.kt kt, sqT_kt kt R.ed, f _ _ (fun z => by subst z; have := R.sd; rw [hx] at this; cases this) R.sd, R.sy, sqT_kt kt R.ud, sqT_kt kt R.ld⟩
theorem PairsAt.fr {H H' : Hp} {x D dx : Addr} {xs : List V} {R : List (Tm × Tm)} (f : FrD x H H') (hx : H x = some (.ins D dx [])) (h : PairsAt K C H xs R) : PairsAt K C H' xs R := ⟨h.1, fun i y r h1 h2 => by
  obtain ⟨pa, a, b, e, g1, g2, g3⟩ := h.2 i y r h1 h2
  exact ⟨pa, a, b, e, sqT_kt (kt_fr f hx) g1, g2.fr f hx, g3.fr f hx⟩⟩
def sp_Book (K : PySem.W.Frag) (C : Ad) : Sp := fun vs H Q _ => ∃ (x dx d v : Addr) (xs : List V) (S : List Nd) (R : List (Tm × Tm)), vs = [.ref x, .ref d, .ref v] ∧ H x = some (.ins C.b dx []) ∧ H d = some (.dK (S.map kvN)) ∧ SG S ∧ SqT K H v xs ∧ PairsAt K C H xs R ∧ RulesOk S R ∧ ∀ H', FrD x H H' → BookAt K C H' x S R → Q .non H'
theorem ok_Book (T : Ty K mg C) : Ro P w K mg base (Mk K C.b) 48 (sp_Book K C) := by
  have G_is_symbols := ok_is_symbols (P := P) (w := w) (base := base) T
  have G_is_rules := ok_is_rules (P := P) (w := w) (base := base) T
  have G_ascending_rows := ok_ascending_rows (P := P) (w := w) (base := base) T
  have G_Term___str__ := (ok_str (P := P) (w := w) (base := base) T).rf
  refine T.i_b.ok sc_Book___init__ (fun vs H Q E h => ?_) (fun f cdv A outer s H vs Q E hr h => ?_)
  · obtain ⟨x, dx, d, v, xs, S, R, rfl, _⟩ := h
    rfl
  obtain ⟨x, dx, d, v, xs, S, R, rfl, hx, hd, hS, hv, hR, ok, k⟩ := h
  have hxl := hR.1
  have hRl := ok.len
  refine ⟨_, (pss_cons (ps_if (PW.pt (pw_or (pt_not (pt_val (pe_g G_is_symbols (hr.mono (by decide)) (pa_cons (pv 1) pa_nil)))) (pw_or1 (pt_not (pt_val (pe_g G_is_rules (hr.mono (by decide)) (pa_cons (pv 1) (pa_cons (pv 2) pa_nil)))))))) (pss_one ps_never) pss_nil)
    (pss_cons (ps_fld (pv 0) (pe_g G_ascending_rows (hr.mono (by decide)) (pa_cons (pv 1) pa_nil)) rfl)
    (pss_cons (ps_fld (pv 0) (pv 2) rfl)
    (pss_cons (ps_fld (pv 0) (pe_callTy c_tupS rfl T.f_tuple (by decide +kernel) (pa_cons (pe_lc (own := [("pattern", 3), ("sketch", 4)]) rfl sc_Book___init__.nd (pi_tup (pv 2)) (blkOk_by (own := [("pattern", 3), ("sketch", 4)]) (N := ["self", "symbols", "rules", "pattern", "sketch"]) (sc := defScope s_Book___init__) (by decide +kernel)) (fun _ _ _ _ _ => (tupG_k (K := K) (n := 2) rfl rfl (pgs_cons (pg_name (i := 3) sc_Book___init__.nd rfl (Or.inl rfl)) (pgs_cons (pg_name (i := 4) sc_Book___init__.nd rfl (Or.inl rfl)) pgs_nil)))) (fun _ _ _ _ _ => pts_nil) (fun _ _ _ _ _ => (pv 3))) pa_nil)) rfl)
    (pss_cons (ps_fld (pv 0) (pe_callTy c_tupS rfl T.f_tuple (by decide +kernel) (pa_cons (pe_lc (own := [("pattern", 3), ("sketch", 4)]) rfl sc_Book___init__.nd (pi_tup (pv 2)) (blkOk_by (own := [("pattern", 3), ("sketch", 4)]) (N := ["self", "symbols", "rules", "pattern", "sketch"]) (sc := defScope s_Book___init__) (by decide +kernel)) (fun _ _ _ _ _ => (tupG_k (K := K) (n := 2) rfl rfl (pgs_cons (pg_name (i := 3) sc_Book___init__.nd rfl (Or.inl rfl)) (pgs_cons (pg_name (i := 4) sc_Book___init__.nd rfl (Or.inl rfl)) pgs_nil)))) (fun _ _ _ _ _ => pts_nil) (fun _ _ _ _ _ => (pv 4))) pa_nil)) rfl)
    (pss_cons (ps_fld (pv 0) (pe_callTy c_tupS rfl T.f_tuple (by decide +kernel) (pa_cons (pe_lc (own := [("pattern", 3), ("sketch", 4)]) rfl sc_Book___init__.nd (pi_tup (pv 2)) (blkOk_by (own := [("pattern", 3), ("sketch", 4)]) (N := ["self", "symbols", "rules", "pattern", "sketch"]) (sc := defScope s_Book___init__) (by decide +kernel)) (fun _ _ _ _ _ => (tupG_k (K := K) (n := 2) rfl rfl (pgs_cons (pg_name (i := 3) sc_Book___init__.nd rfl (Or.inl rfl)) (pgs_cons (pg_name (i := 4) sc_Book___init__.nd rfl (Or.inl rfl)) pgs_nil)))) (fun _ _ _ _ _ => pts_nil) (fun _ _ _ _ _ => (pe_joined (.cons (pe_fmtT G_Term___str__ (hr.mono (by decide)) (pv 3)) (.cons pe_str (.cons (pe_fmtT G_Term___str__ (hr.mono (by decide)) (pv 4)) PJ.nil)))))) pa_nil)) rfl)
    (pss_one (ps_fld (pv 0) (pe_tup (pa_cons (pe_fld (pv 0) rfl) (pa_cons (pe_fld (pv 0) rfl) pa_nil))) rfl)))))))), ?_⟩
  try dsimp only [nox_K]
  refine rd_st (σ' := [some (.ref x), some (.ref d), some (.ref v), none, none]) rfl ?_
  walk_at "w"
  refine ⟨d, S, rfl, hd, hS, fun H1 s1 => ?_⟩
  walk_at "w"
  refine ⟨d, v, xs, S, R, rfl, s1 _ _ hd, hS.nod, sqT_kp (kp_same s1) hv, hR.kp (kp_same s1), ok, fun H2 s2 => ?_⟩
  walk_at "w"
  have f2 : FrD x H H2 := FrD.of (s1.trans s2)
  have hx2 := (s1.trans s2) _ _ hx
  refine ⟨d, S, rfl, (s1.trans s2) _ _ hd, hS.nod, by have := hS.len; omega, fun p H3 S' hpm _ s3 hp3 => ?_⟩
  walk_at "w"
  have hx3 := s3 _ _ hx2
  refine ⟨x, _, dx, _, rfl, hx3, T.cl_b, T.na_b_own_symbols, by simp, ?_⟩
  have hpx : p ≠ x := fun z => by subst z; rw [hp3] at hx3; cases hx3
  have f4 : FrD x H (upd H3 x (.ins C.b dx (putF "own_symbols" (.ref p) []))) := (f2.trans (FrD.of s3)).trans FrD.upd
  have hp4 : upd H3 x (.ins C.b dx (putF "own_symbols" (.ref p) [])) p = some (.dK (S'.map kvN)) := by rw [upd_ne hpx]; exact hp3
  generalize hH4 : upd H3 x (.ins C.b dx (putF "own_symbols" (.ref p) [])) = H4 at *
  have hx4 : H4 x = some (.ins C.b dx [("own_symbols", .ref p)]) := by rw [← hH4, upd_same]; rfl
  walk_at "w"
  refine ⟨x, _, dx, _, rfl, hx4, T.cl_b, T.na_b_own_rules, by simp, ?_⟩
  have f5 : FrD x H (upd H4 x (.ins C.b dx (putF "own_rules" (.ref v) [("own_symbols", .ref p)]))) := f4.trans FrD.upd
  have hp5 : upd H4 x (.ins C.b dx (putF "own_rules" (.ref v) [("own_symbols", .ref p)])) p = some (.dK (S'.map kvN)) := by rw [upd_ne hpx]; exact hp4
  generalize hH5 : upd H4 x (.ins C.b dx (putF "own_rules" (.ref v) [("own_symbols", .ref p)])) = H5 at *
  have hx5 : H5 x = some (.ins C.b dx [("own_symbols", .ref p), ("own_rules", .ref v)]) := by rw [← hH5, upd_same]; rfl
  walk_at "w"
  -- own_patterns
  have hv5 := sqT_kt (kt_fr f5 hx) hv
  have hR5 := hR.fr f5 hx
  refine rd_oneTup hv5 fun D hD => ?_
  refine lc_map (walk_tup (xs := xs)) (fun _ _ _ => True) (by omega) hD (fun _ _ _ _ _ _ => trivial) (fun H' s => sqT_kp (kp_same s) hv5) ?_ ?_
  · rintro i acc y H7 H6 hi hl s6 hD' rr ⟨rfl, hx1⟩
    have hri : R[i]? = some (R[i]'(by omega)) := List.getElem?_eq_getElem (by omega)
    obtain ⟨pa, a, b, rfl, hp, TA, TB⟩ := (hR5.2 i y _ hx1 hri).kp (kp_same s6)
    refine rd_gtup hp rfl ?_
    walk_at "w"
    refine ⟨rfl, ?_⟩
    walk_at "w"
    exact lc_put (by omega) hl hD' hD s6 (Same.refl _) (fun _ _ _ _ _ _ => trivial) rr trivial
  intro acc H6 s6 hD6 hl6 _
  walk_at "w"
  refine rd_tupS (SqL.of hD6) fun q hq => ?_
  walk_at "w"
  have sq := same_new hq (.tup acc)
  have hx6 := (s6.trans sq) _ _ hx5
  refine ⟨x, _, dx, _, rfl, hx6, T.cl_b, T.na_b_own_patterns, by simp, ?_⟩
  have f7 := (f5.trans (FrD.of (s6.trans sq))).trans (FrD.upd (o := .ins C.b dx (putF "own_patterns" (.ref q) [("own_symbols", .ref p), ("own_rules", .ref v)])))
  have hp7 : upd (upd H6 q (.tup acc)) x (.ins C.b dx (putF "own_patterns" (.ref q) [("own_symbols", .ref p), ("own_rules", .ref v)])) p = some (.dK (S'.map kvN)) := by rw [upd_ne hpx]; exact (s6.trans sq) _ _ hp5
  generalize hH7 : upd (upd H6 q (.tup acc)) x (.ins C.b dx (putF "own_patterns" (.ref q) [("own_symbols", .ref p), ("own_rules", .ref v)])) = H7 at *
  have hx7 : H7 x = some (.ins C.b dx [("own_symbols", .ref p), ("own_rules", .ref v), ("own_patterns", .ref q)]) := by rw [← hH7, upd_same]; rfl
  walk_at "w"
  -- own_sketches
  have hv7 := sqT_kt (kt_fr f7 hx) hv
  have hR7 := hR.fr f7 hx
  refine rd_oneTup hv7 fun D2 hD2 => ?_
  refine lc_map (walk_tup (xs := xs)) (fun _ _ _ => True) (by omega) hD2 (fun _ _ _ _ _ _ => trivial) (fun H' s => sqT_kp (kp_same s) hv7) ?_ ?_
  · rintro i acc y H9 H8 hi hl s8 hD' rr ⟨rfl, hx1⟩
    have hri : R[i]? = some (R[i]'(by omega)) := List.getElem?_eq_getElem (by omega)
    obtain ⟨pa, a, b, rfl, hp, TA, TB⟩ := (hR7.2 i y _ hx1 hri).kp (kp_same s8)
    refine rd_gtup hp rfl ?_
    walk_at "w"
    refine ⟨rfl, ?_⟩
    walk_at "w"
    exact lc_put (by omega) hl hD' hD2 s8 (Same.refl _) (fun _ _ _ _ _ _ => trivial) rr trivial
  intro acc2 H8 s8 hD8 hl8 _
  walk_at "w"
  refine rd_tupS (SqL.of hD8) fun q2 hq2 => ?_
  walk_at "w"
  have sq2 := same_new hq2 (.tup acc2)
  have hx8 := (s8.trans sq2) _ _ hx7
  refine ⟨x, _, dx, _, rfl, hx8, T.cl_b, T.na_b_own_sketches, by simp, ?_⟩
  have f9 := (f7.trans (FrD.of (s8.trans sq2))).trans (FrD.upd (o := .ins C.b dx (putF "own_sketches" (.ref q2) [("own_symbols", .ref p), ("own_rules", .ref v), ("own_patterns", .ref q)])))
  have hp9 : upd (upd H8 q2 (.tup acc2)) x (.ins C.b dx (putF "own_sketches" (.ref q2) [("own_symbols", .ref p), ("own_rules", .ref v), ("own_patterns", .ref q)])) p = some (.dK (S'.map kvN)) := by rw [upd_ne hpx]; exact (s8.trans sq2) _ _ hp7
  generalize hH9 : upd (upd H8 q2 (.tup acc2)) x (.ins C.b dx (putF "own_sketches" (.ref q2) [("own_symbols", .ref p), ("own_rules", .ref v), ("own_patterns", .ref q)])) = H9 at *
  have hx9 : H9 x = some (.ins C.b dx [("own_symbols", .ref p), ("own_rules", .ref v), ("own_patterns", .ref q), ("own_sketches", .ref q2)]) := by rw [← hH9, upd_same]; rfl
  walk_at "w"
  -- own_lines
  have hv9 := sqT_kt (kt_fr f9 hx) hv
  have hR9 := hR.fr f9 hx
  refine rd_oneTup hv9 fun D3 hD3 => ?_
  refine lc_map (walk_tup (xs := xs)) (fun _ _ _ => True) (by omega) hD3 (fun _ _ _ _ _ _ => trivial) (fun H' s => sqT_kp (kp_same s) hv9) ?_ ?_
  · rintro i acc y H11 H10 hi hl s10 hD' rr ⟨rfl, hx1⟩
    have hri : R[i]? = some (R[i]'(by omega)) := List.getElem?_eq_getElem (by omega)
    have hok := ok.ok _ (List.mem_of_getElem? hri)
    obtain ⟨pa, a, b, rfl, hp, TA, TB⟩ := (hR9.2 i y _ hx1 hri).kp (kp_same s10)
    generalize R[i]'(by omega) = r at *
    refine rd_gtup hp rfl ?_
    walk_at "w"
    refine ⟨rfl, ?_⟩
    walk_at "w"
    have TA' := TA
    obtain ⟨da, n, c, e, sd, u, l, kvs, RA⟩ := TA'
    have h1 := tx_len r.1 hok.w1.one
    have h2 := tx_len r.2 hok.w2.one
    have z1 := hok.z1
    have z2 := hok.z2
    have e0 : (Str.empty : Str).length = 0 := rfl
    have e4 : (" => " : Str).length = 4 := rfl
    refine ⟨a, da, _, rfl, RA.ob, a, r.1, rfl, TA, hok.w1, fun H11 s11 => ⟨_, rfl, _, rfl, by rw [Str.length_append, e0]; exact small (by omega), ?_⟩⟩
    walk_at "w"
    refine ⟨by rw [Str.length_append, Str.length_append, e0, e4]; exact small (by omega), ?_⟩
    walk_at "w"
    have TB' := TB.kp (kp_same s11)
    have TB'' := TB'
    obtain ⟨db, n', c', e', sd', u', l', kvs', RB⟩ := TB''
    refine ⟨b, db, _, rfl, RB.ob, b, r.2, rfl, TB', hok.w2, fun H12 s12 => ⟨_, rfl, _, rfl, by rw [Str.length_append, Str.length_append, Str.length_append, e0, e4]; exact small (by omega), ?_⟩⟩
    walk_at "w"
    exact lc_put (by omega) hl hD' hD3 s10 (s11.trans s12) (fun _ _ _ _ _ _ => trivial) rr trivial
  intro acc3 H10 s10 hD10 hl10 _
  walk_at "w"
  refine rd_tupS (SqL.of hD10) fun q3 hq3 => ?_
  walk_at "w"
  have sq3 := same_new hq3 (.tup acc3)
  have hx10 := (s10.trans sq3) _ _ hx9
  refine ⟨x, _, dx, _, rfl, hx10, T.cl_b, T.na_b_own_lines, by simp, ?_⟩
  have f11 := (f9.trans (FrD.of (s10.trans sq3))).trans (FrD.upd (o := .ins C.b dx (putF "own_lines" (.ref q3) [("own_symbols", .ref p), ("own_rules", .ref v), ("own_patterns", .ref q), ("own_sketches", .ref q2)])))
  have hp11 : upd (upd H10 q3 (.tup acc3)) x (.ins C.b dx (putF "own_lines" (.ref q3) [("own_symbols", .ref p), ("own_rules", .ref v), ("own_patterns", .ref q), ("own_sketches", .ref q2)])) p = some (.dK (S'.map kvN)) := by rw [upd_ne hpx]; exact (s10.trans sq3) _ _ hp9
  generalize hH11 : upd (upd H10 q3 (.tup acc3)) x (.ins C.b dx (putF "own_lines" (.ref q3) [("own_symbols", .ref p), ("own_rules", .ref v), ("own_patterns", .ref q), ("own_sketches", .ref q2)])) = H11 at *
  have hx11 : H11 x = some (.ins C.b dx [("own_symbols", .ref p), ("own_rules", .ref v), ("own_patterns", .ref q), ("own_sketches", .ref q2), ("own_lines", .ref q3)]) := by rw [← hH11, upd_same]; rfl
  walk_at "w"
  refine rd_Fld hx11 T.cl_b T.na_b_own_symbols rfl ?_
  walk_at "w"
  refine rd_Fld hx11 T.cl_b T.na_b_own_lines rfl ?_
  walk_at "w"
  refine ⟨small (by simp), fun q4 hq4 => ?_⟩
  walk_at "w"
  have sq4 := same_new hq4 (.tup [V.ref p, V.ref q3])
  have hx12 := sq4 _ _ hx11
  refine ⟨x, _, dx, _, rfl, hx12, T.cl_b, T.na_b_own_key, by simp, ?_⟩
  have f13 := (f11.trans (FrD.of sq4)).trans (FrD.upd (o := .ins C.b dx (putF "own_key" (.ref q4) [("own_symbols", .ref p), ("own_rules", .ref v), ("own_patterns", .ref q), ("own_sketches", .ref q2), ("own_lines", .ref q3)])))
  refine k _ f13 ⟨dx, p, v, .ref q, .ref q2, .ref q3, .ref q4, S', xs, ?_, ?_, hpm, sqT_kt (kt_fr f13 hx) hv, hR.fr f13 hx⟩
  · rw [upd_same]; rfl
  · rw [upd_ne hpx]; exact sq4 _ _ hp11
end
end FN
set_option maxHeartbeats 4000000
namespace FN
open PySem PySem.Spec PyProof.Rows L2
local macro_rules | `(tactic| walk_at "w") => `(tactic| repeat (with_reducible first
  | refine rd_seq ?_
  | refine rd_asg ?_
  | refine rd_name ?_
  | refine rd_ret ?_
  | refine rd_drop ?_
  | refine rd_if ?_
  | refine rd_next ?_
  | refine rd_var (by k_dflt rfl) ?_
  | refine rd_c ?_
  | refine rd_op ?_
  | refine rd_un ?_
  | refine rd_test ?_
  | refine rd_B ?_
  | refine rd_I0 ?_
  | refine rd_U ?_
  | refine rd_eqI ?_
  | refine rd_neI ?_
  | refine rd_eqS ?_
  | refine rd_neS ?_
  | refine rd_and ?_
  | refine rd_or ?_
  | refine rd_not ?_
  | refine rd_andV ?_
  | refine rd_orV ?_
  | refine rd_notV ?_
  | refine rd_ife ?_
  | refine rd_chain ?_
  | refine rd_exb ?_
  | refine rd_exi ?_
  | refine rd_nil ?_
  | refine rd_cons ?_
  | refine rd_CB ?_
  | refine rd_G ?_
  | refine rd_fld ?_
  | refine rd_sl ?_
  | refine rd_part ?_
  | refine rd_noPart ?_
  | refine rd_leaf ?_
  | refine rd_tup ?_
  | refine rd_lst ?_
  | refine rd_star ?_
  | refine rd_bm ?_
  | refine rd_bm0 ?_
  | refine rd_gsub ?_
  | refine rd_rev ?_
  | refine rd_gnil ?_
  | refine rd_gcons ?_
  | refine rd_yes ?_
  | refine rd_abs ?_
  | refine rd_max2 ?_
  | refine rd_min2 ?_
  | refine rd_int1 ?_
  | refine rd_int1b ?_
  | refine rd_inSign ?_
  | refine rd_niSign ?_
  | refine rd_isN ?_
  | refine rd_ntN ?_
  | refine rd_dcLst ?_
  | refine rd_dcTup ?_
  | refine rd_dcItems ?_
  | refine rd_lcTup ?_
  | refine rd_lcLst ?_
  | refine rd_lcStr ?_
  | refine rd_lcR1 ?_
  | refine rd_lcR2 ?_
  | refine rd_lcKeys ?_
  | refine rd_lcVals ?_
  | refine rd_lcItems ?_
  | refine rd_lcZip ?_
  | refine rd_forTup ?_
  | refine rd_forLst ?_
  | refine rd_forR1 ?_
  | refine rd_forR2 ?_
  | refine rd_forR3 ?_
  | refine rd_forZip ?_
  | refine rd_forItems ?_
  | refine rd_lcEnumT ?_
  | refine rd_forEnumT ?_
  | refine rd_oneStr ?_
  | refine rd_mkR ?_
  | refine rd_mk0 ?_
  | refine rd_mR ?_
  | refine rd_mN ?_
  | refine rd_pr ?_
  | refine rd_cmR ?_
  | refine rd_makeC ?_
  | refine rd_tM1 ?_
  | refine rd_fmtT ?_
  | refine ⟨rd_exs, ?_⟩
  | refine rd_listZip ?_
  | refine rd_lenSetS ?_
  | refine rd_sfld ?_
  | refine rd_jc ?_
  | refine rd_jn ?_
  | refine rd_par ?_
  | refine rd_par3 ?_
  | refine rd_dupd ?_
  | refine rd_disp ?_
  | refine rd_pc ?_
  | refine rd_pn ?_
  | refine rd_dni ?_
  | refine rd_dget ?_
  | refine rd_dget2 ?_
  | refine rd_dput ?_
  | refine rd_T ?_
  | refine rd_F ?_
  | refine rd_nT ?_
  | refine rd_nF ?_))
/-- the rules that fit -/
def rat (s : Tm) : Nat → List (Tm × Tm) → List Nat
  | _, [] => []
  | p, r :: R => if fits s r.1 = true then p :: rat s (p + 1) R else rat s (p + 1) R
/-- the places where one fits -/
def rdxL (R : List (Tm × Tm)) : Nat → List Tm → List Nat
  | _, [] => []
  | p, s :: L => if rat s 0 R = [] then rdxL R (p + 1) L else p :: rdxL R (p + 1) L
def rdx (R : List (Tm × Tm)) (t : Tm) : List Nat := rdxL R 0 (parts t)
theorem rat_app (s : Tm) : ∀ (p : Nat) (A B : List (Tm × Tm)), rat s p (A ++ B) = rat s p A ++ rat s (p + A.length) B
  | p, [], B => by rw [rat]; rfl
  | p, r :: A, B => by
    rw [List.cons_append, rat, rat, rat_app s (p + 1) A B, List.length_cons, show p + 1 + A.length = p + (A.length + 1) by omega]
    split <;> rfl
theorem rdxL_app (R : List (Tm × Tm)) : ∀ (p : Nat) (A B : List Tm), rdxL R p (A ++ B) = rdxL R p A ++ rdxL R (p + A.length) B
  | p, [], B => by rw [rdxL]; rfl
  | p, r :: A, B => by
    rw [List.cons_append, rdxL, rdxL, rdxL_app R (p + 1) A B, List.length_cons, show p + 1 + A.length = p + (A.length + 1) by omega]
    split <;> rfl
/-- what is_behind asks -/
def BH (t : Tm) (p : Nat) (k o : Tm) : Prop := ∃ s0 s, At t p s0 ∧ At o p s ∧ (nodes o).take p = (nodes t).take p ∧ (nodes o).drop (p + size s) = (nodes t).drop (p + size s0) ∧ fits s k = true ∧ ∀ x ∈ prs s k, gr x.1 = true
section
variable {P : Program} {w : World} {K : PySem.W.Frag} {mg : Str → Option Value} {base : Heap} {C : Ad}
def sp_fitting (K : PySem.W.Frag) (C : Ad) : Sp := fun vs H Q _ => ∃ b a S R t p s, vs = [.ref b, .ref a, vI p] ∧ BookAt K C H b S R ∧ TermAt K C H a t ∧ TmW t ∧ At t p s ∧ R.length ≤ 6 ∧ (∀ r ∈ R, TmW r.1) ∧ ∀ q H', Same H H' → SqT K H' q ((rat s 0 R).map vI) → Q (.ref q) H'
theorem ok_fitting (T : Ty K mg C) : Gf P w K mg base "fitting" 42 (sp_fitting K C) := by
  have G_matches := ok_matches (P := P) (w := w) (base := base) T 40
  refine T.d_fitting.ok sc_fitting (fun vs H Q E h => ?_) (fun f cdv A outer s H vs Q E hr h => ?_)
  · obtain ⟨b, a, S, R, t, p, s, rfl, _⟩ := h
    rfl
  obtain ⟨b, a, S, R, t, p, s, rfl, BA, TA, ht, hs, hRl, hRw, k⟩ := h
  obtain ⟨dx, sd, rd, k1, k2, k3, k4, S', xs, hb, _, _, hrd, hPR⟩ := BA
  have hxl := hPR.1
  refine ⟨_, (pss_one (ps_ret (pe_callTy c_tupS rfl T.f_tuple (by decide +kernel) (pa_cons (pe_lc (own := [("at", 3), ("rule", 4)]) rfl sc_fitting.nd (pi_enumT rfl T.f_enumerate (pa_cons (pe_fld (pv 0) rfl) pa_nil)) (blkOk_by (own := [("at", 3), ("rule", 4)]) (N := ["book", "term", "place", "at", "rule"]) (sc := defScope s_fitting) (by decide +kernel)) (fun _ _ _ _ _ => (tupG_k (K := K) (n := 2) rfl rfl (pgs_cons (pg_name (i := 3) sc_fitting.nd rfl (Or.inl rfl)) (pgs_cons (pg_name (i := 4) sc_fitting.nd rfl (Or.inl rfl)) pgs_nil)))) (fun _ _ _ _ _ => (pts_one (pt_val (pe_g G_matches (hr.mono (by decide)) (pa_cons (pv 1) (pa_cons (pv 2) (pa_cons (pe_ix (ixT_k (K := K) rfl) (pv 4) pe_int (fun _ _ => rfl)) (pa_cons pe_int pa_nil)))))))) (fun _ _ _ _ _ => (pv 3))) pa_nil)))), ?_⟩
  try dsimp only [nox_K]
  refine rd_st (σ' := [some (.ref b), some (.ref a), some (vI p), none, none]) rfl ?_
  walk_at "w"
  refine rd_Fld hb T.cl_b T.na_b_own_rules rfl ?_
  walk_at "w"
  refine ⟨rd, xs, rfl, hrd, fun D hD => ?_⟩
  refine lc_same (walk_enumT (xs := xs)) (fun i acc _ => acc = (rat s 0 (R.take i)).map vI) (by omega) hD (fun _ _ _ _ h _ => h) rfl (fun H' s => sqT_kp (kp_same s) hrd) ?_ ?_
  · rintro i acc x H1 H2 hi hl s1 hD' rfl ⟨Ta, k1, v1, rfl, hTa, rfl, hk, hx1⟩
    have hk1 : k1 = vI i := by simpa using hk.symm
    subst hk1
    have hri : R[i]? = some (R[i]'(by omega)) := List.getElem?_eq_getElem (by omega)
    have hwr := hRw _ (List.mem_of_getElem? hri)
    obtain ⟨pa, x1, x2, rfl, hp, TX, TY⟩ := (hPR.2 i v1 _ hx1 hri).kp (kp_same s1)
    have htk := take_succ_get hri
    generalize R[i]'(by omega) = r at *
    have st := same_new hTa (.tup [vI i, .ref pa])
    refine rd_gtup (sqT_of upd_same) rfl ?_
    walk_at "w"
    refine ⟨rfl, ?_⟩
    walk_at "w"
    refine rd_ixT (sqT_kp (kp_same st) hp) (v := .ref x1) rfl ?_
    walk_at "w"
    have sA := s1.trans st
    refine ⟨a, t, p, s, x1, r.1, 0, r.1, rfl, TA.kp (kp_same sA), TX.kp (kp_same st), ht, hwr, hs, .root _, Nat.le_trans (dep_size _) hwr.sz, fun H3 s3 => ?_⟩
    refine ⟨_, rfl, ?_⟩
    have hil : (R.take i).length = i := by rw [List.length_take]; omega
    cases hf : fits s r.1 with
    | true =>
      refine rd_T ?_
      walk_at "w"
      refine lc_elt (R := fun i acc _ => acc = (rat s 0 (R.take i)).map vI) (by omega) hl hD' hD s1 (st.trans s3) (fun _ _ _ _ h _ => h) ?_
      rw [htk, rat_app, List.map_append, hil, Nat.zero_add, rat, if_pos hf]; rfl
    | false =>
      refine rd_F ?_
      refine lc_skip (R := fun i acc _ => acc = (rat s 0 (R.take i)).map vI) hl hD' s1 (st.trans s3) ?_
      rw [htk, rat_app, List.map_append, hil, Nat.zero_add, rat, if_neg (by rw [hf]; decide), rat]
      simp
  · rintro acc H1 s1 hD' hl1 rfl
    walk_at "w"
    refine rd_tupS (SqL.of hD') fun q hq => ?_
    refine k q _ (s1.trans (same_new hq _)) (sqT_of ?_)
    rw [upd_same, hxl, List.take_length]
def sp_redexes_in (K : PySem.W.Frag) (C : Ad) : Sp := fun vs H Q _ => ∃ b a S R t, vs = [.ref b, .ref a] ∧ BookAt K C H b S R ∧ TermAt K C H a t ∧ TmW t ∧ R.length ≤ 6 ∧ (∀ r ∈ R, TmW r.1) ∧ ∀ q H', Same H H' → SqT K H' q ((rdx R t).map vI) → Q (.ref q) H'
theorem ok_redexes_in (T : Ty K mg C) : Gf P w K mg base "redexes_in" 43 (sp_redexes_in K C) := by
  have G_fitting := ok_fitting (P := P) (w := w) (base := base) T
  refine T.d_redexes_in.ok sc_redexes_in (fun vs H Q E h => ?_) (fun f cdv A outer s H vs Q E hr h => ?_)
  · obtain ⟨b, a, S, R, t, rfl, _⟩ := h
    rfl
  obtain ⟨b, a, S, R, t, rfl, BA, TA, ht, hRl, hRw, k⟩ := h
  have hz := ht.sz
  refine ⟨_, (pss_one (ps_ret (pe_callTy c_tupS rfl T.f_tuple (by decide +kernel) (pa_cons (pe_lc (own := [("place", 2)]) rfl sc_redexes_in.nd (pi_range1 rfl T.f_range (pa_cons (pe_callB c_lenS rfl T.f_len PySem.boot_len (pa_cons (pe_fld (pv 1) rfl) pa_nil)) pa_nil)) (blkOk_by (own := [("place", 2)]) (N := ["book", "term", "place"]) (sc := defScope s_redexes_in) (by decide +kernel)) (fun _ _ _ _ _ => (pg_name (i := 2) sc_redexes_in.nd rfl (Or.inl rfl))) (fun _ _ _ _ _ => (pts_one (pt_cmpR (neD_k (K := K) rfl hr.units) (pe_g G_fitting (hr.mono (by decide)) (pa_cons (pv 0) (pa_cons (pv 1) (pa_cons (pv 2) pa_nil)))) (pe_tup pa_nil) (nomark _)))) (fun _ _ _ _ _ => (pv 2))) pa_nil)))), ?_⟩
  try dsimp only [nox_K]
  refine rd_st (σ' := [some (.ref b), some (.ref a), none]) rfl ?_
  walk_at "w"
  have TA' := TA
  obtain ⟨dx, n, c, e, sd, u, l, kvs, RA⟩ := TA'
  refine rd_Fld RA.ob T.cl_t T.na_t_own_nodes rfl ?_
  walk_at "w"
  obtain ⟨nxs, hn, hx⟩ := RA.nd.tupR
  have hnl : nxs.length = size t := by rw [hx.len, List.length_map, nodes_length]
  refine rd_len (.inr hn) ?_
  refine ⟨_, rfl, by omega, by omega, fun D hD => ?_⟩
  rw [show ((nxs.length : Nat) : Int).toNat = size t by omega]
  refine lc_same walk_range (fun i acc _ => acc = (rdxL R 0 ((parts t).take i)).map vI) (by omega) hD (fun _ _ _ _ h _ => h) rfl (fun _ _ => trivial) ?_ ?_
  · rintro i acc x H1 H2 hi hl s1 hD' rfl ⟨rfl, rfl⟩
    obtain ⟨s, hs⟩ := at_of hi
    have hpt := hs.part
    have htk := take_succ_get hpt
    have ei : (0 : Int) + (i : Nat) = ((i : Nat) : Int) := by omega
    dsimp only
    rw [ei]
    walk_at "w"
    refine ⟨rfl, ?_⟩
    walk_at "w"
    refine ⟨b, a, S, R, t, i, s, rfl, BA.kp (kp_same s1), TA.kp (kp_same s1), ht, hs, hRl, hRw, fun q H3 s3 hq => ?_⟩
    walk_at "w"
    refine ⟨small (by simp), fun q2 hq2 => ?_⟩
    have sq := same_new hq2 (.tup [])
    refine rd_neIs (a := rat s 0 R) (b := []) (tp_ints (sqT_kp (kp_same sq) hq)) (tp_ints (sqT_of upd_same)) ?_
    walk_at "w"
    have hil : ((parts t).take i).length = i := by rw [List.length_take, parts_length]; omega
    by_cases hf : rat s 0 R = []
    · refine rd_ndT hf ?_
      refine lc_skip (R := fun i acc _ => acc = (rdxL R 0 ((parts t).take i)).map vI) hl hD' s1 (s3.trans sq) ?_
      rw [htk, rdxL_app, List.map_append, hil, Nat.zero_add, rdxL, if_pos hf, rdxL]
      simp
    · refine rd_ndF hf ?_
      walk_at "w"
      refine lc_elt (R := fun i acc _ => acc = (rdxL R 0 ((parts t).take i)).map vI) (by omega) hl hD' hD s1 (s3.trans sq) (fun _ _ _ _ h _ => h) ?_
      rw [htk, rdxL_app, List.map_append, hil, Nat.zero_add, rdxL, if_neg hf]; rfl
  · rintro acc H1 s1 hD' hl1 rfl
    walk_at "w"
    refine rd_tupS (SqL.of hD') fun q hq => ?_
    refine k q _ (s1.trans (same_new hq _)) (sqT_of ?_)
    rw [upd_same, show (parts t).take (size t) = parts t by rw [← parts_length, List.take_length]]; rfl
def sp_is_ground_of (K : PySem.W.Frag) (C : Ad) : Sp := fun vs H Q _ => ∃ b a S R t, vs = [.ref b, .ref a] ∧ BookAt K C H b S R ∧ NodK S ∧ TermAt K C H a t ∧ size t ≤ 40 ∧ TmS S t ∧ ∀ H', Same H H' → Q (.bl (gr t)) H'
theorem ok_is_ground_of (T : Ty K mg C) : Gf P w K mg base "is_ground_of" 3 (sp_is_ground_of K C) := by
  have G_is_term_of := ok_is_term_of (P := P) (w := w) (base := base) T
  have G_Term_is_ground := ok_is_ground (P := P) (w := w) (base := base) T
  refine T.d_is_ground_of.ok sc_is_ground_of (fun vs H Q E h => ?_) (fun f cdv A outer s H vs Q E hr h => ?_)
  · obtain ⟨b, a, S, R, t, rfl, _⟩ := h
    rfl
  obtain ⟨b, a, S, R, t, rfl, ⟨dx, sd, rd, k1, k2, k3, k4, S', xs, hb, hsd, hpm, hrd, hPR⟩, hS, TA, hz, hts, k⟩ := h
  refine ⟨_, (pss_one (ps_ret (pe_and (pe_g G_is_term_of (hr.mono (by decide)) (pa_cons (pe_fld (pv 0) rfl) (pa_cons (pv 1) pa_nil))) (pe_one (pe_p G_Term_is_ground T.cl_t (pv 1) (hr.mono (by decide))))))), ?_⟩
  try dsimp only [nox_K]
  refine rd_st (σ' := [some (.ref b), some (.ref a)]) rfl ?_
  walk_at "w"
  refine rd_Fld hb T.cl_b T.na_b_own_symbols rfl ?_
  walk_at "w"
  refine ⟨sd, a, S', t, rfl, hsd, (hpm.map (·.1)).nodup_iff.mpr hS, TA, hz, fun n hn hw => hpm.mem_iff.mpr (hts n hn hw), fun H1 s1 => ?_⟩
  walk_at "w"
  have TA1 := TA.kp (kp_same s1)
  have TA' := TA1
  obtain ⟨da, n, c, e, sd2, u, l, kvs, RA⟩ := TA'
  exact ⟨a, da, _, rfl, RA.ob, a, t, rfl, TA1, fun H2 s2 => k H2 (s1.trans s2)⟩
end
end FN
set_option maxHeartbeats 4000000
namespace FN
open PySem PySem.Spec PyProof.Rows L2
local macro_rules | `(tactic| walk_at "w") => `(tactic| repeat (with_reducible first
  | refine rd_seq ?_
  | refine rd_asg ?_
  | refine rd_name ?_
  | refine rd_ret ?_
  | refine rd_drop ?_
  | refine rd_if ?_
  | refine rd_next ?_
  | refine rd_var (by k_dflt rfl) ?_
  | refine rd_c ?_
  | refine rd_op ?_
  | refine rd_un ?_
  | refine rd_test ?_
  | refine rd_B ?_
  | refine rd_I0 ?_
  | refine rd_U ?_
  | refine rd_eqI ?_
  | refine rd_neI ?_
  | refine rd_eqS ?_
  | refine rd_neS ?_
  | refine rd_and ?_
  | refine rd_or ?_
  | refine rd_not ?_
  | refine rd_andV ?_
  | refine rd_orV ?_
  | refine rd_notV ?_
  | refine rd_ife ?_
  | refine rd_chain ?_
  | refine rd_exb ?_
  | refine rd_exi ?_
  | refine rd_nil ?_
  | refine rd_cons ?_
  | refine rd_CB ?_
  | refine rd_G ?_
  | refine rd_fld ?_
  | refine rd_sl ?_
  | refine rd_part ?_
  | refine rd_noPart ?_
  | refine rd_leaf ?_
  | refine rd_tup ?_
  | refine rd_lst ?_
  | refine rd_star ?_
  | refine rd_bm ?_
  | refine rd_bm0 ?_
  | refine rd_gsub ?_
  | refine rd_rev ?_
  | refine rd_gnil ?_
  | refine rd_gcons ?_
  | refine rd_yes ?_
  | refine rd_abs ?_
  | refine rd_max2 ?_
  | refine rd_min2 ?_
  | refine rd_int1 ?_
  | refine rd_int1b ?_
  | refine rd_inSign ?_
  | refine rd_niSign ?_
  | refine rd_isN ?_
  | refine rd_ntN ?_
  | refine rd_dcLst ?_
  | refine rd_dcTup ?_
  | refine rd_dcItems ?_
  | refine rd_lcTup ?_
  | refine rd_lcLst ?_
  | refine rd_lcStr ?_
  | refine rd_lcR1 ?_
  | refine rd_lcR2 ?_
  | refine rd_lcKeys ?_
  | refine rd_lcVals ?_
  | refine rd_lcItems ?_
  | refine rd_lcZip ?_
  | refine rd_forTup ?_
  | refine rd_forLst ?_
  | refine rd_forR1 ?_
  | refine rd_forR2 ?_
  | refine rd_forR3 ?_
  | refine rd_forZip ?_
  | refine rd_forItems ?_
  | refine rd_lcEnumT ?_
  | refine rd_forEnumT ?_
  | refine rd_oneStr ?_
  | refine rd_mkR ?_
  | refine rd_mk0 ?_
  | refine rd_mR ?_
  | refine rd_mN ?_
  | refine rd_pr ?_
  | refine rd_cmR ?_
  | refine rd_makeC ?_
  | refine rd_tM1 ?_
  | refine rd_fmtT ?_
  | refine ⟨rd_exs, ?_⟩
  | refine rd_listZip ?_
  | refine rd_lenSetS ?_
  | refine rd_sfld ?_
  | refine rd_jc ?_
  | refine rd_jn ?_
  | refine rd_par ?_
  | refine rd_par3 ?_
  | refine rd_dupd ?_
  | refine rd_disp ?_
  | refine rd_pc ?_
  | refine rd_pn ?_
  | refine rd_dni ?_
  | refine rd_dget ?_
  | refine rd_dget2 ?_
  | refine rd_dput ?_
  | refine rd_T ?_
  | refine rd_F ?_
  | refine rd_nT ?_
  | refine rd_nF ?_))
section
variable {P : Program} {w : World} {K : PySem.W.Frag} {mg : Str → Option Value} {base : Heap} {C : Ad}
theorem tp_slice {H H' : Hp} {n : Addr} {nxs : List V} {ns : List Nd} {lo hi : Option Int} {q : Addr} {a b : Nat} (hx : Tps K H nxs (ns.map ndD)) (s : Same H H') (hq : SqT K H' q (cutV nxs lo hi)) (e : cutV nxs lo hi = (nxs.drop a).take b) : Tp K H' (.ref q) (nodesD ((ns.drop a).take b)) := by
  rw [e] at hq
  refine .tup hq ?_
  rw [List.map_take, List.map_drop]
  exact ((hx.drop a).take b).kp (kp_same s)
theorem Wok.take {ns : List Nd} (h : Wok ns) (n : Nat) : Wok (ns.take n) := fun m hm => h m (List.mem_of_mem_take hm)
theorem Wok.drop {ns : List Nd} (h : Wok ns) (n : Nat) : Wok (ns.drop n) := fun m hm => h m (List.mem_of_mem_drop hm)
theorem bh_end {t k o s0 : Tm} {p : Nat} (hs : At t p s0) (h : BH t p k o) : ∃ s, At o p s ∧ (size o : Int) - ((size t : Int) - (p + size s0 : Nat)) = (p + size s : Nat) := by
  obtain ⟨s0', s, h1, h2, h3, h4, _⟩ := h
  have := h1.uniq hs
  subst this
  refine ⟨s, h2, ?_⟩
  have e := congrArg List.length h4
  rw [List.length_drop, List.length_drop, nodes_length, nodes_length] at e
  have := h1.size_le
  have := h2.size_le
  omega
def sp_is_behind (K : PySem.W.Frag) (C : Ad) : Sp := fun vs H Q _ => ∃ a t p s0 b k c o, vs = [.ref a, vI p, .ref b, .ref c] ∧ TermAt K C H a t ∧ TermAt K C H b k ∧ TermAt K C H c o ∧ TmW t ∧ TmW k ∧ TmW o ∧ At t p s0 ∧
  ∀ bo H', (bo = true ↔ BH t p k o) → Same H H' → Q (.bl bo) H'
theorem ok_is_behind (T : Ty K mg C) : Gf P w K mg base "is_behind" 44 (sp_is_behind K C) := by
  have G_part_in := ok_part_in (P := P) (w := w) (base := base) T
  have G_Term_fillings := (ok_fillings (P := P) (w := w) (base := base) T).rf
  have G_Term_is_ground := ok_is_ground (P := P) (w := w) (base := base) T
  refine T.d_is_behind.ok sc_is_behind (fun vs H Q E h => ?_) (fun f cdv A outer s H vs Q E hr h => ?_)
  · obtain ⟨a, t, p, s0, b, k, c, o, rfl, _⟩ := h
    rfl
  obtain ⟨a, t, p, s0, b, kk, c, o, rfl, TA, TB, TC, ht, hk, ho, hs, k⟩ := h
  have hz := ht.sz
  have hoz := ho.sz
  have hsl := hs.size_le
  refine ⟨_, (pss_cons (ps_set (i := 4) sc_is_behind.nd rfl (Or.inl rfl) (pe_op op_sub (pe_callB c_lenS rfl T.f_len PySem.boot_len (pa_cons (pe_fld (pv 3) rfl) pa_nil)) (pe_op op_sub (pe_callB c_lenS rfl T.f_len PySem.boot_len (pa_cons (pe_fld (pv 0) rfl) pa_nil)) (pe_ix ix_tup (pe_fld (pv 0) rfl) (pv 1) (fun _ _ => rfl)))))
    (pss_cons (ps_if (PW.pt (pw_or (pt_cmpR op_le (pv 4) (pv 1) (nomark _)) (pw_or1 (pt_cmpR (op_neD hr.units) (pe_slice sl_tupA (pe_fld (pv 3) rfl) po_none (po_some (pv 1))) (pe_slice sl_tupA (pe_fld (pv 0) rfl) po_none (po_some (pv 1))) (nomark _))))) (pss_one (ps_ret pe_bl)) pss_nil)
    (pss_cons (ps_if (PW.pt (pw_or (pt_cmpR (op_neD hr.units) (pe_slice sl_tupA (pe_fld (pv 3) rfl) (po_some (pv 4)) po_none) (pe_slice sl_tupA (pe_fld (pv 0) rfl) (po_some (pe_ix ix_tup (pe_fld (pv 0) rfl) (pv 1) (fun _ _ => rfl))) po_none) (nomark _)) (pw_or1 (pt_cmpR op_ne (pe_ix ix_tup (pe_fld (pv 3) rfl) (pv 1) (fun _ _ => rfl)) (pv 4) (nomark _))))) (pss_one (ps_ret pe_bl)) pss_nil)
    (pss_cons (ps_set (i := 5) sc_is_behind.nd rfl (Or.inl rfl) (pe_m G_Term_fillings T.cl_t (pe_g G_part_in (hr.mono (by decide)) (pa_cons (pv 3) (pa_cons (pv 1) pa_nil))) (hr.mono (by decide)) (pa_cons (pv 2) pa_nil)))
    (pss_one (ps_ret (pe_and (pe_cmpR o_ntN (pv 5) pe_non (nomark _)) (pe_one (pe_callB (cr_all rfl) rfl T.f_all (by decide +kernel) (pa_cons (pe_lc (own := [("term", 6)]) rfl sc_is_behind.nd (pi_tup (pv 5)) (blkOk_by (own := [("term", 6)]) (N := ["one", "place", "sketch", "other", "end", "told", "term"]) (sc := defScope s_is_behind) (by decide +kernel)) (fun _ _ _ _ _ => (pg_name (i := 6) sc_is_behind.nd rfl (Or.inl rfl))) (fun _ _ _ _ _ => pts_nil) (fun _ _ _ _ _ => (pe_p G_Term_is_ground T.cl_t (pv 6) (hr.mono (by decide))))) pa_nil)))))))))), ?_⟩
  try dsimp only [nox_K]
  refine rd_st (σ' := [some (.ref a), some (vI p), some (.ref b), some (.ref c), none, none, none]) rfl ?_
  have TA' := TA
  have TC' := TC
  obtain ⟨dx, n1, c1, e1, sd1, u1, l1, kvs1, RA⟩ := TA'
  obtain ⟨dy, n2, c2, e2, sd2, u2, l2, kvs2, RC⟩ := TC'
  obtain ⟨nx1, hn1, hx1⟩ := RA.nd.tupR
  obtain ⟨nx2, hn2, hx2⟩ := RC.nd.tupR
  have hl1 : nx1.length = size t := by rw [hx1.len, List.length_map, nodes_length]
  have hl2 : nx2.length = size o := by rw [hx2.len, List.length_map, nodes_length]
  have hen : atI ((en 0 t).map vI) (vI p |> fun _ => (p : Int)) = some (vI (p + size s0)) := atI_nat (by rw [List.getElem?_map, hs.end_]; rfl)
  walk_at "w"
  refine rd_Fld RC.ob T.cl_t T.na_t_own_nodes rfl ?_
  walk_at "w"
  refine rd_len (.inr hn2) ?_
  walk_at "w"
  refine rd_Fld RA.ob T.cl_t T.na_t_own_nodes rfl ?_
  walk_at "w"
  refine rd_len (.inr hn1) ?_
  walk_at "w"
  refine rd_Fld RA.ob T.cl_t T.na_t_own_ends rfl ?_
  walk_at "w"
  refine rd_ixT RA.ed hen ?_
  walk_at "w"
  rw [hl1, hl2]
  by_cases hE : (size o : Int) - ((size t : Int) - ((p + size s0 : Nat) : Int)) ≤ (p : Int)
  · refine rd_dT hE ?_
    walk_at "w"
    refine k false H ⟨(fun z => nomatch z), fun z => ?_⟩ (Same.refl H)
    obtain ⟨s, h1, h2⟩ := bh_end hs z
    have := size_pos s
    omega
  refine rd_dF hE ?_
  obtain ⟨e, he⟩ : ∃ e : Nat, (size o : Int) - ((size t : Int) - ((p + size s0 : Nat) : Int)) = (e : Int) := ⟨((size o : Int) - ((size t : Int) - ((p + size s0 : Nat) : Int))).toNat, by omega⟩
  have hep : p < e := by omega
  have heo : e ≤ size o := by omega
  obtain ⟨s, hso⟩ := at_of (t := o) (k := p) (by omega)
  have hsol := hso.size_le
  walk_at "w"
  refine rd_Fld RC.ob T.cl_t T.na_t_own_nodes rfl ?_
  walk_at "w"
  refine rd_slA hn2 fun q1 H1 s1 hq1 => ?_
  walk_at "w"
  refine rd_Fld (s1 _ _ RA.ob) T.cl_t T.na_t_own_nodes rfl ?_
  walk_at "w"
  refine rd_slA (sqT_kp (kp_same s1) hn1) fun q2 H2 s2 hq2 => ?_
  have d1 : Tp K H2 (.ref q1) (nodesD ((nodes o).take p)) := by
    have := tp_slice (n := n2) (a := 0) (b := p) hx2 s1 hq1 (by rw [cut_toN nx2 p (by omega), List.drop_zero])
    rw [List.drop_zero] at this
    exact this.kp (kp_same s2)
  have d2 : Tp K H2 (.ref q2) (nodesD ((nodes t).take p)) := by
    have := tp_slice (n := n1) (a := 0) (b := p) hx1 (s1.trans s2) hq2 (by rw [cut_toN nx1 p (by omega), List.drop_zero])
    rwa [List.drop_zero] at this
  refine rd_neNs d1 d2 (ho.wok.take p) (ht.wok.take p) ?_
  walk_at "w"
  have sA := s1.trans s2
  by_cases hta : (nodes o).take p = (nodes t).take p
  rotate_left
  · refine rd_ndF hta ?_
    walk_at "w"
    refine k false H2 ⟨(fun z => nomatch z), fun z => ?_⟩ sA
    obtain ⟨_, _, _, _, h3, _⟩ := z
    exact absurd h3 hta
  refine rd_ndT hta ?_
  walk_at "w"
  refine rd_Fld (sA _ _ RC.ob) T.cl_t T.na_t_own_nodes rfl ?_
  walk_at "w"
  rw [he]
  refine rd_slA (sqT_kp (kp_same sA) hn2) fun q3 H3 s3 hq3 => ?_
  walk_at "w"
  have sB := sA.trans s3
  refine rd_Fld (sB _ _ RA.ob) T.cl_t T.na_t_own_nodes rfl ?_
  walk_at "w"
  refine rd_Fld (sB _ _ RA.ob) T.cl_t T.na_t_own_ends rfl ?_
  walk_at "w"
  refine rd_ixT (sqT_kp (kp_same sB) RA.ed) hen ?_
  walk_at "w"
  refine rd_slA (sqT_kp (kp_same sB) hn1) fun q4 H4 s4 hq4 => ?_
  have sC := sB.trans s4
  have d3 : Tp K H4 (.ref q3) (nodesD ((nodes o).drop e)) := by
    have := tp_slice (n := n2) (a := e) (b := size o) hx2 sB hq3 (by rw [cut_fromN nx2 e (by omega), List.take_of_length_le (by rw [List.length_drop]; omega)])
    rw [List.take_of_length_le (by rw [List.length_drop, nodes_length]; omega)] at this
    exact this.kp (kp_same s4)
  have d4 : Tp K H4 (.ref q4) (nodesD ((nodes t).drop (p + size s0))) := by
    have := tp_slice (n := n1) (a := p + size s0) (b := size t) hx1 sC hq4 (by rw [cut_fromN nx1 (p + size s0) (by omega), List.take_of_length_le (by rw [List.length_drop]; omega)])
    rwa [List.take_of_length_le (by rw [List.length_drop, nodes_length]; omega)] at this
  refine rd_neNs d3 d4 (ho.wok.drop e) (ht.wok.drop _) ?_
  walk_at "w"
  by_cases hdr : (nodes o).drop e = (nodes t).drop (p + size s0)
  rotate_left
  · refine rd_ndF hdr ?_
    walk_at "w"
    refine k false H4 ⟨(fun z => nomatch z), fun z => ?_⟩ sC
    obtain ⟨s', h1, h2⟩ := bh_end hs z
    obtain ⟨s0', s2', g1, g2, _, g4, _⟩ := z
    have e1 := g1.uniq hs
    have e2 := g2.uniq h1
    subst e1; subst e2
    rw [he] at h2
    have : e = p + size s2' := by omega
    rw [this] at hdr
    exact absurd g4 hdr
  refine rd_ndT hdr ?_
  walk_at "w"
  refine rd_Fld (sC _ _ RC.ob) T.cl_t T.na_t_own_ends rfl ?_
  walk_at "w"
  refine rd_ixT (sqT_kp (kp_same sC) RC.ed) (v := vI (p + size s)) (atI_nat (by rw [List.getElem?_map, hso.end_]; rfl)) ?_
  walk_at "w"
  by_cases hee : ((p + size s : Nat) : Int) = (e : Int)
  rotate_left
  · refine rd_ndF hee ?_
    walk_at "w"
    refine k false H4 ⟨(fun z => nomatch z), fun z => ?_⟩ sC
    obtain ⟨s', h1, h2⟩ := bh_end hs z
    have := h1.uniq hso
    subst this
    exact absurd (h2.symm.trans he) hee
  refine rd_ndT hee ?_
  walk_at "w"
  have hee' : e = p + size s := by omega
  rw [hee'] at hdr
  have TC4 := TC.kp (kp_same sC)
  have TB4 := TB.kp (kp_same sC)
  have bhiff : (fits s kk = true ∧ ∀ x ∈ prs s kk, gr x.1 = true) ↔ BH t p kk o := by
    constructor
    · rintro ⟨h1, h2⟩
      exact ⟨s0, s, hs, hso, hta, hdr, h1, h2⟩
    · rintro ⟨s0', s', g1, g2, _, _, g5, g6⟩
      have e1 := g1.uniq hs
      have e2 := g2.uniq hso
      subst e1; subst e2
      exact ⟨g5, g6⟩
  refine ⟨c, o, p, s, rfl, TC4, ho, hso, fun x H5 s5 TX => ?_⟩
  have TX' := TX
  obtain ⟨dz, n5, c5, e5, sd5, u5, l5, kvs5, RX⟩ := TX'
  refine ⟨x, dz, _, rfl, RX.ob, rfl, ?_⟩
  walk_at "w"
  refine ⟨x, s, b, kk, rfl, TX, TB4.kp (kp_same s5), ho.at hso, hk, ?_⟩
  have sD := sC.trans s5
  cases hf : fits s kk with
  | false =>
    rw [if_neg (by decide)]
    intro H6 s6
    walk_at "w"
    refine k false H6 ⟨(fun z => nomatch z), fun z => ?_⟩ (sD.trans s6)
    have := (bhiff.mpr z).1
    rw [hf] at this; cases this
  | true =>
    rw [if_pos rfl]
    intro q H6 ys s6 hq hyl hy
    walk_at "w"
    refine rd_ndF (fun z => nomatch z) ?_
    walk_at "w"
    refine rd_oneTup hq fun D hD => ?_
    have hpl : (prs s kk).length ≤ 40 := by
      rw [← met_length]
      have := met_len 0 s kk
      have := hk.sz
      omega
    refine lc_map (walk_tup (xs := ys)) (fun i y _ => ∃ r, (prs s kk)[i]? = some r ∧ y = .bl (gr r.1)) (by omega) hD (fun _ _ _ _ h _ => h) (fun H' s => sqT_kp (kp_same s) hq) ?_ ?_
    · rintro i acc x H8 H7 hi hl s7 hD' rr ⟨rfl, hx7⟩
      have hri : (prs s kk)[i]? = some ((prs s kk)[i]'(by omega)) := List.getElem?_eq_getElem (by omega)
      obtain ⟨d, rfl, TD⟩ := hy i x _ _ hx7 hri
      have TD7 := TD.kp (kp_same s7)
      have TD' := TD7
      obtain ⟨d8, n8, c8, e8, sd8, u8, l8, kvs8, RD⟩ := TD'
      walk_at "w"
      refine ⟨rfl, ?_⟩
      walk_at "w"
      exact ⟨d, d8, _, rfl, RD.ob, d, _, rfl, TD7, fun H9 s9 => lc_put (by omega) hl hD' hD s7 s9 (fun _ _ _ _ h _ => h) rr ⟨_, hri, rfl⟩⟩
    · intro acc H7 s7 hD' hl7 hf7
      walk_at "w"
      refine rd_allB (fun i => match (prs s kk)[i]? with | some r => gr r.1 | none => true) (SqL.of hD') (fun i y hy' => ?_) ?_
      · obtain ⟨r, h1, h2⟩ := hf7 i y hy'
        rw [h2]; simp only [h1]
      · refine k _ H7 ?_ (sD.trans (s6.trans s7))
        rw [decide_eq_true_iff, ← bhiff, hf]
        constructor
        · intro q1
          refine ⟨rfl, fun x hx => ?_⟩
          obtain ⟨i, hi⟩ := List.mem_iff_getElem?.mp hx
          have hil := (List.getElem?_eq_some_iff.mp hi).1
          have := q1 i (by omega)
          rw [hi] at this
          exact this
        · rintro ⟨_, q2⟩ i hi
          cases hg : (prs s kk)[i]? with
          | none => rfl
          | some r => exact q2 r (List.mem_of_getElem? hg)
end
end FN
set_option maxHeartbeats 4000000
namespace FN
open PySem PySem.Spec PyProof.Rows L2
local macro_rules | `(tactic| walk_at "w") => `(tactic| repeat (with_reducible first
  | refine rd_seq ?_
  | refine rd_asg ?_
  | refine rd_name ?_
  | refine rd_ret ?_
  | refine rd_drop ?_
  | refine rd_if ?_
  | refine rd_next ?_
  | refine rd_var (by k_dflt rfl) ?_
  | refine rd_c ?_
  | refine rd_op ?_
  | refine rd_un ?_
  | refine rd_test ?_
  | refine rd_B ?_
  | refine rd_I0 ?_
  | refine rd_U ?_
  | refine rd_eqI ?_
  | refine rd_neI ?_
  | refine rd_eqS ?_
  | refine rd_neS ?_
  | refine rd_and ?_
  | refine rd_or ?_
  | refine rd_not ?_
  | refine rd_andV ?_
  | refine rd_orV ?_
  | refine rd_notV ?_
  | refine rd_ife ?_
  | refine rd_chain ?_
  | refine rd_exb ?_
  | refine rd_exi ?_
  | refine rd_nil ?_
  | refine rd_cons ?_
  | refine rd_CB ?_
  | refine rd_G ?_
  | refine rd_fld ?_
  | refine rd_sl ?_
  | refine rd_part ?_
  | refine rd_noPart ?_
  | refine rd_leaf ?_
  | refine rd_tup ?_
  | refine rd_lst ?_
  | refine rd_star ?_
  | refine rd_bm ?_
  | refine rd_bm0 ?_
  | refine rd_gsub ?_
  | refine rd_rev ?_
  | refine rd_gnil ?_
  | refine rd_gcons ?_
  | refine rd_yes ?_
  | refine rd_abs ?_
  | refine rd_max2 ?_
  | refine rd_min2 ?_
  | refine rd_int1 ?_
  | refine rd_int1b ?_
  | refine rd_inSign ?_
  | refine rd_niSign ?_
  | refine rd_isN ?_
  | refine rd_ntN ?_
  | refine rd_dcLst ?_
  | refine rd_dcTup ?_
  | refine rd_dcItems ?_
  | refine rd_lcTup ?_
  | refine rd_lcLst ?_
  | refine rd_lcStr ?_
  | refine rd_lcR1 ?_
  | refine rd_lcR2 ?_
  | refine rd_lcKeys ?_
  | refine rd_lcVals ?_
  | refine rd_lcItems ?_
  | refine rd_lcZip ?_
  | refine rd_forTup ?_
  | refine rd_forLst ?_
  | refine rd_forR1 ?_
  | refine rd_forR2 ?_
  | refine rd_forR3 ?_
  | refine rd_forZip ?_
  | refine rd_forItems ?_
  | refine rd_lcEnumT ?_
  | refine rd_forEnumT ?_
  | refine rd_oneStr ?_
  | refine rd_mkR ?_
  | refine rd_mk0 ?_
  | refine rd_mR ?_
  | refine rd_mN ?_
  | refine rd_pr ?_
  | refine rd_cmR ?_
  | refine rd_makeC ?_
  | refine rd_tM1 ?_
  | refine rd_fmtT ?_
  | refine ⟨rd_exs, ?_⟩
  | refine rd_listZip ?_
  | refine rd_lenSetS ?_
  | refine rd_sfld ?_
  | refine rd_jc ?_
  | refine rd_jn ?_
  | refine rd_par ?_
  | refine rd_par3 ?_
  | refine rd_dupd ?_
  | refine rd_disp ?_
  | refine rd_pc ?_
  | refine rd_pn ?_
  | refine rd_dni ?_
  | refine rd_dget ?_
  | refine rd_dget2 ?_
  | refine rd_dput ?_
  | refine rd_T ?_
  | refine rd_F ?_
  | refine rd_nT ?_
  | refine rd_nF ?_))
/-- what the law's books keep -/
structure BookOk (S : List Nd) (R : List (Tm × Tm)) : Prop where
  sg : SG S
  rs : RulesOk S R
theorem BookOk.w1 {S : List Nd} {R : List (Tm × Tm)} (h : BookOk S R) : ∀ r ∈ R, TmW r.1 := fun r hr => (h.rs.ok r hr).w1
/-- a term that a book takes -/
structure TmB (S : List Nd) (t : Tm) : Prop where
  w : TmW t
  s : TmS S t
section
variable {P : Program} {w : World} {K : PySem.W.Frag} {mg : Str → Option Value} {base : Heap} {C : Ad}
def sp_Breq (K : PySem.W.Frag) (C : Ad) : Sp := fun vs H Q _ => ∃ b a S R t, vs = [.ref b, .ref a] ∧ BookAt K C H b S R ∧ NodK S ∧ TermAt K C H a t ∧ TmB S t ∧ ∀ H', Same H H' → Q .non H'
theorem ok_Breq (T : Ty K mg C) : Ro P w K mg base (Meth K C.b "require_term") 2 (sp_Breq K C) := by
  have G_is_term_of := ok_is_term_of (P := P) (w := w) (base := base) T
  refine T.m_b_require_term.ok sc_Book_require_term (fun vs H Q E h => ?_) (fun f cdv A outer s H vs Q E hr h => ?_)
  · obtain ⟨b, a, S, R, t, rfl, _⟩ := h
    rfl
  obtain ⟨b, a, S, R, t, rfl, ⟨dx, sd, rd, k1, k2, k3, k4, S', xs, hb, hsd, hpm, hrd, hPR⟩, hS, TA, ht, k⟩ := h
  refine ⟨_, (pss_one (ps_if (pt_not (pt_val (pe_g G_is_term_of (hr.mono (by decide)) (pa_cons (pe_fld (pv 0) rfl) (pa_cons (pv 1) pa_nil))))) (pss_one ps_never) pss_nil)), ?_⟩
  try dsimp only [nox_K]
  refine rd_st (σ' := [some (.ref b), some (.ref a)]) rfl ?_
  walk_at "w"
  refine rd_Fld hb T.cl_b T.na_b_own_symbols rfl ?_
  walk_at "w"
  refine ⟨sd, a, S', t, rfl, hsd, (hpm.map (·.1)).nodup_iff.mpr hS, TA, ht.w.sz, fun n hn hw => hpm.mem_iff.mpr (ht.s n hn hw), fun H1 s1 => ?_⟩
  walk_at "w"
  exact k H1 s1
def sp_Brule (K : PySem.W.Frag) (C : Ad) : Sp := fun vs H Q _ => ∃ b i S R, vs = [.ref b, vI i] ∧ BookAt K C H b S R ∧ i < R.length ∧ R.length ≤ 6 ∧ Q .non H
theorem ok_Brule (T : Ty K mg C) : Ro P w K mg base (Meth K C.b "require_rule") 3 (sp_Brule K C) := by
  have G_is_within := ok_is_within (P := P) (w := w) (base := base) T.toTx
  refine T.m_b_require_rule.ok sc_Book_require_rule (fun vs H Q E h => ?_) (fun f cdv A outer s H vs Q E hr h => ?_)
  · obtain ⟨b, i, S, R, rfl, _⟩ := h
    rfl
  obtain ⟨b, i, S, R, rfl, ⟨dx, sd, rd, k1, k2, k3, k4, S', xs, hb, hsd, hpm, hrd, hPR⟩, hi, hz, k⟩ := h
  have hxl := hPR.1
  refine ⟨_, (pss_one (ps_if (pt_not (pt_val (pe_g G_is_within (hr.mono (by decide)) (pa_cons (pv 1) (pa_cons pe_int (pa_cons (pe_op op_sub (pe_callB c_lenS rfl T.f_len PySem.boot_len (pa_cons (pe_fld (pv 0) rfl) pa_nil)) pe_int) pa_nil)))))) (pss_one ps_never) pss_nil)), ?_⟩
  try dsimp only [nox_K]
  refine rd_st (σ' := [some (.ref b), some (vI i)]) rfl ?_
  walk_at "w"
  refine rd_Fld hb T.cl_b T.na_b_own_rules rfl ?_
  walk_at "w"
  refine rd_len (.inr hrd) ?_
  walk_at "w"
  refine ⟨_, _, _, rfl, by omega, by omega, ?_⟩
  walk_at "w"
  refine rd_ndT (by omega) ?_
  walk_at "w"
  exact k
def sp_Bredexes (K : PySem.W.Frag) (C : Ad) : Sp := fun vs H Q _ => ∃ b a S R t, vs = [.ref b, .ref a] ∧ BookAt K C H b S R ∧ BookOk S R ∧ TermAt K C H a t ∧ TmB S t ∧ ∀ q H', Same H H' → SqT K H' q ((rdx R t).map vI) → Q (.ref q) H'
theorem bookIns {H : Hp} {b : Addr} {S : List Nd} {R : List (Tm × Tm)} (h : BookAt K C H b S R) : ∃ dx s r p k l y, H b = some (.ins C.b dx (bF (.ref s) (.ref r) p k l y)) := by
  obtain ⟨dx, sd, rd, k1, k2, k3, k4, S', xs, hb, _⟩ := h
  exact ⟨dx, sd, rd, k1, k2, k3, k4, hb⟩
theorem termIns {H : Hp} {a : Addr} {t : Tm} (h : TermAt K C H a t) : ∃ dx n c e s u l, H a = some (.ins C.t dx (tF n c e s u l)) := by
  obtain ⟨dx, n, c, e, sd, u, l, kvs, R⟩ := h
  exact ⟨_, _, _, _, _, _, _, R.ob⟩
theorem ok_Bredexes (T : Ty K mg C) : Ro P w K mg base (Meth K C.b "redexes") 45 (sp_Bredexes K C) := by
  have G_Book_require_term := (ok_Breq (P := P) (w := w) (base := base) T).rf
  have G_redexes_in := ok_redexes_in (P := P) (w := w) (base := base) T
  refine T.m_b_redexes.ok sc_Book_redexes (fun vs H Q E h => ?_) (fun f cdv A outer s H vs Q E hr h => ?_)
  · obtain ⟨b, a, S, R, t, rfl, _⟩ := h
    rfl
  obtain ⟨b, a, S, R, t, rfl, BA, ok, TA, ht, k⟩ := h
  refine ⟨_, (pss_cons (ps_expr (pe_m G_Book_require_term T.cl_b (pv 0) (hr.mono (by decide)) (pa_cons (pv 1) pa_nil)))
    (pss_one (ps_ret (pe_g G_redexes_in (hr.mono (by decide)) (pa_cons (pv 0) (pa_cons (pv 1) pa_nil)))))), ?_⟩
  try dsimp only [nox_K]
  refine rd_st (σ' := [some (.ref b), some (.ref a)]) rfl ?_
  obtain ⟨dx, b1, b2, b3, b4, b5, b6, hb⟩ := bookIns BA
  walk_at "w"
  refine ⟨b, dx, _, rfl, hb, rfl, ?_⟩
  walk_at "w"
  refine ⟨b, a, S, R, t, rfl, BA, ok.sg.nod, TA, ht, fun H1 s1 => ?_⟩
  walk_at "w"
  exact ⟨b, a, S, R, t, rfl, BA.kp (kp_same s1), TA.kp (kp_same s1), ht.w, ok.rs.len, ok.w1, fun q H2 s2 hq => k q H2 (s1.trans s2) hq⟩
def sp_Brules_at (K : PySem.W.Frag) (C : Ad) : Sp := fun vs H Q _ => ∃ b a S R t p s, vs = [.ref b, .ref a, vI p] ∧ BookAt K C H b S R ∧ BookOk S R ∧ TermAt K C H a t ∧ TmB S t ∧ At t p s ∧ ∀ q H', Same H H' → SqT K H' q ((rat s 0 R).map vI) → Q (.ref q) H'
theorem ok_Brules_at (T : Ty K mg C) : Ro P w K mg base (Meth K C.b "rules_at") 45 (sp_Brules_at K C) := by
  have G_Book_require_term := (ok_Breq (P := P) (w := w) (base := base) T).rf
  have G_Term_require_place := (ok_require_place (P := P) (w := w) (base := base) T).rf
  have G_fitting := ok_fitting (P := P) (w := w) (base := base) T
  refine T.m_b_rules_at.ok sc_Book_rules_at (fun vs H Q E h => ?_) (fun f cdv A outer s H vs Q E hr h => ?_)
  · obtain ⟨b, a, S, R, t, p, s, rfl, _⟩ := h
    rfl
  obtain ⟨b, a, S, R, t, p, s, rfl, BA, ok, TA, ht, hs, k⟩ := h
  refine ⟨_, (pss_cons (ps_expr (pe_m G_Book_require_term T.cl_b (pv 0) (hr.mono (by decide)) (pa_cons (pv 1) pa_nil)))
    (pss_cons (ps_expr (pe_m G_Term_require_place T.cl_t (pv 1) (hr.mono (by decide)) (pa_cons (pv 2) pa_nil)))
    (pss_one (ps_ret (pe_g G_fitting (hr.mono (by decide)) (pa_cons (pv 0) (pa_cons (pv 1) (pa_cons (pv 2) pa_nil)))))))), ?_⟩
  try dsimp only [nox_K]
  refine rd_st (σ' := [some (.ref b), some (.ref a), some (vI p)]) rfl ?_
  obtain ⟨dx, b1, b2, b3, b4, b5, b6, hb⟩ := bookIns BA
  walk_at "w"
  refine ⟨b, dx, _, rfl, hb, rfl, ?_⟩
  walk_at "w"
  refine ⟨b, a, S, R, t, rfl, BA, ok.sg.nod, TA, ht, fun H1 s1 => ?_⟩
  walk_at "w"
  have TA1 := TA.kp (kp_same s1)
  obtain ⟨da, a1, a2, a3, a4, a5, a6, ha⟩ := termIns TA1
  refine ⟨a, da, _, rfl, ha, rfl, ?_⟩
  walk_at "w"
  refine ⟨a, t, p, rfl, TA1, ht.w.sz, hs.lt, ?_⟩
  walk_at "w"
  exact ⟨b, a, S, R, t, p, s, rfl, BA.kp (kp_same s1), TA1, ht.w, hs, ok.rs.len, ok.w1, fun q H2 s2 hq => k q H2 (s1.trans s2) hq⟩
def sp_Bresult (K : PySem.W.Frag) (C : Ad) : Sp := fun vs H Q _ => ∃ b a S R t, vs = [.ref b, .ref a] ∧ BookAt K C H b S R ∧ BookOk S R ∧ TermAt K C H a t ∧ TmB S t ∧ ∀ H', Same H H' → Q (.bl (gr t && decide (rdx R t = []))) H'
theorem ok_Bresult (T : Ty K mg C) : Ro P w K mg base (Meth K C.b "is_result") 45 (sp_Bresult K C) := by
  have G_Book_require_term := (ok_Breq (P := P) (w := w) (base := base) T).rf
  have G_Term_is_ground := ok_is_ground (P := P) (w := w) (base := base) T
  have G_redexes_in := ok_redexes_in (P := P) (w := w) (base := base) T
  refine T.m_b_is_result.ok sc_Book_is_result (fun vs H Q E h => ?_) (fun f cdv A outer s H vs Q E hr h => ?_)
  · obtain ⟨b, a, S, R, t, rfl, _⟩ := h
    rfl
  obtain ⟨b, a, S, R, t, rfl, BA, ok, TA, ht, k⟩ := h
  refine ⟨_, (pss_cons (ps_expr (pe_m G_Book_require_term T.cl_b (pv 0) (hr.mono (by decide)) (pa_cons (pv 1) pa_nil)))
    (pss_one (ps_ret (pe_and (pe_p G_Term_is_ground T.cl_t (pv 1) (hr.mono (by decide))) (pe_one (pe_cmpR (op_eqD hr.units) (pe_g G_redexes_in (hr.mono (by decide)) (pa_cons (pv 0) (pa_cons (pv 1) pa_nil))) (pe_tup pa_nil) (nomark _))))))), ?_⟩
  try dsimp only [nox_K]
  refine rd_st (σ' := [some (.ref b), some (.ref a)]) rfl ?_
  obtain ⟨dx, b1, b2, b3, b4, b5, b6, hb⟩ := bookIns BA
  walk_at "w"
  refine ⟨b, dx, _, rfl, hb, rfl, ?_⟩
  walk_at "w"
  refine ⟨b, a, S, R, t, rfl, BA, ok.sg.nod, TA, ht, fun H1 s1 => ?_⟩
  walk_at "w"
  have TA1 := TA.kp (kp_same s1)
  obtain ⟨da, a1, a2, a3, a4, a5, a6, ha⟩ := termIns TA1
  refine ⟨a, da, _, rfl, ha, a, t, rfl, TA1, fun H2 s2 => ?_⟩
  refine ⟨_, rfl, ?_⟩
  have sA := s1.trans s2
  cases hg : gr t with
  | false =>
    refine rd_F ?_
    have := k H2 sA
    rw [hg, Bool.false_and] at this
    exact this
  | true =>
    refine rd_T ?_
    walk_at "w"
    refine ⟨b, a, S, R, t, rfl, BA.kp (kp_same sA), TA.kp (kp_same sA), ht.w, ok.rs.len, ok.w1, fun q H3 s3 hq => ?_⟩
    walk_at "w"
    refine ⟨small (by simp), fun q2 hq2 => ?_⟩
    have sq := same_new hq2 (.tup [])
    refine rd_eqIs (a := rdx R t) (b := []) (tp_ints (sqT_kp (kp_same sq) hq)) (tp_ints (sqT_of upd_same)) ?_
    have := k _ (sA.trans (s3.trans sq))
    rw [hg, Bool.true_and] at this
    exact this
theorem book_rule {H : Hp} {b : Addr} {S : List Nd} {R : List (Tm × Tm)} {i : Nat} {r : Tm × Tm} (h : BookAt K C H b S R) (hi : R[i]? = some r) : ∃ dx sd rd p k l y xs x, H b = some (.ins C.b dx (bF (.ref sd) (.ref rd) p k l y)) ∧ SqT K H rd xs ∧ xs[i]? = some x ∧ PairAt K C H x r := by
  obtain ⟨dx, sd, rd, k1, k2, k3, k4, S', xs, hb, _, _, hrd, hPR⟩ := h
  have hil := (List.getElem?_eq_some_iff.mp hi).1
  have hx : xs[i]? = some (xs[i]'(by have := hPR.1; omega)) := List.getElem?_eq_getElem _
  exact ⟨dx, sd, rd, k1, k2, k3, k4, xs, _, hb, hrd, hx, hPR.2 i _ r hx hi⟩
def sp_Bis_step (K : PySem.W.Frag) (C : Ad) : Sp := fun vs H Q _ => ∃ b a S R t p s i r c o, vs = [.ref b, .ref a, vI p, vI i, .ref c] ∧ BookAt K C H b S R ∧ BookOk S R ∧ TermAt K C H a t ∧ TmB S t ∧ At t p s ∧ R[i]? = some r ∧ fits s r.1 = true ∧ TermAt K C H c o ∧ TmB S o ∧ ∀ bo H', (bo = true ↔ BH t p r.2 o) → Same H H' → Q (.bl bo) H'
theorem ok_Bis_step (T : Ty K mg C) : Ro P w K mg base (Meth K C.b "is_step") 46 (sp_Bis_step K C) := by
  have G_Book_require_term := (ok_Breq (P := P) (w := w) (base := base) T).rf
  have G_Term_require_place := (ok_require_place (P := P) (w := w) (base := base) T).rf
  have G_Book_require_rule := (ok_Brule (P := P) (w := w) (base := base) T).rf
  have G_matches := ok_matches (P := P) (w := w) (base := base) T 40
  have G_is_behind := ok_is_behind (P := P) (w := w) (base := base) T
  refine T.m_b_is_step.ok sc_Book_is_step (fun vs H Q E h => ?_) (fun f cdv A outer s H vs Q E hr h => ?_)
  · obtain ⟨b, a, S, R, t, p, s, i, r, c, o, rfl, _⟩ := h
    rfl
  obtain ⟨b, a, S, R, t, p, s, i, r, c, o, rfl, BA, ok, TA, ht, hs, hi, hf, TC, ho, k⟩ := h
  have hil := (List.getElem?_eq_some_iff.mp hi).1
  have hok := ok.rs.ok r (List.mem_of_getElem? hi)
  refine ⟨_, (pss_cons (ps_expr (pe_m G_Book_require_term T.cl_b (pv 0) (hr.mono (by decide)) (pa_cons (pv 1) pa_nil)))
    (pss_cons (ps_expr (pe_m G_Term_require_place T.cl_t (pv 1) (hr.mono (by decide)) (pa_cons (pv 2) pa_nil)))
    (pss_cons (ps_expr (pe_m G_Book_require_rule T.cl_b (pv 0) (hr.mono (by decide)) (pa_cons (pv 3) pa_nil)))
    (pss_cons (ps_expr (pe_m G_Book_require_term T.cl_b (pv 0) (hr.mono (by decide)) (pa_cons (pv 4) pa_nil)))
    (pss_cons (ps_asg (pe_ix ix_tup (pe_fld (pv 0) rfl) (pv 3) (fun _ _ => rfl)) (pg_tup (n := 2) rfl (pgs_cons (pg_name (i := 5) sc_Book_is_step.nd rfl (Or.inl rfl)) (pgs_cons (pg_name (i := 6) sc_Book_is_step.nd rfl (Or.inl rfl)) pgs_nil))))
    (pss_cons (ps_if (pt_not (pt_val (pe_g G_matches (hr.mono (by decide)) (pa_cons (pv 1) (pa_cons (pv 2) (pa_cons (pv 5) (pa_cons pe_int pa_nil))))))) (pss_one ps_never) pss_nil)
    (pss_one (ps_ret (pe_g G_is_behind (hr.mono (by decide)) (pa_cons (pv 1) (pa_cons (pv 2) (pa_cons (pv 6) (pa_cons (pv 4) pa_nil))))))))))))), ?_⟩
  try dsimp only [nox_K]
  refine rd_st (σ' := [some (.ref b), some (.ref a), some (vI p), some (vI i), some (.ref c), none, none]) rfl ?_
  obtain ⟨dx, b1, b2, b3, b4, b5, b6, hb⟩ := bookIns BA
  walk_at "w"
  refine ⟨b, dx, _, rfl, hb, rfl, ?_⟩
  walk_at "w"
  refine ⟨b, a, S, R, t, rfl, BA, ok.sg.nod, TA, ht, fun H1 s1 => ?_⟩
  walk_at "w"
  have TA1 := TA.kp (kp_same s1)
  have BA1 := BA.kp (kp_same s1)
  obtain ⟨da, a1, a2, a3, a4, a5, a6, ha⟩ := termIns TA1
  refine ⟨a, da, _, rfl, ha, rfl, ?_⟩
  walk_at "w"
  refine ⟨a, t, p, rfl, TA1, ht.w.sz, hs.lt, ?_⟩
  walk_at "w"
  refine ⟨b, dx, _, rfl, s1 _ _ hb, rfl, ?_⟩
  walk_at "w"
  refine ⟨b, i, S, R, rfl, BA1, hil, ok.rs.len, ?_⟩
  walk_at "w"
  refine ⟨b, dx, _, rfl, s1 _ _ hb, rfl, ?_⟩
  walk_at "w"
  refine ⟨b, c, S, R, o, rfl, BA1, ok.sg.nod, TC.kp (kp_same s1), ho, fun H2 s2 => ?_⟩
  walk_at "w"
  have sA := s1.trans s2
  obtain ⟨dx', sd, rd, p1, p2, p3, p4, xs, x, hb2, hrd, hx, pa, x1, x2, rfl, hp, TX, TY⟩ := book_rule (BA.kp (kp_same sA)) hi
  refine rd_Fld hb2 T.cl_b T.na_b_own_rules rfl ?_
  walk_at "w"
  refine rd_ixT hrd (atI_nat hx) ?_
  refine rd_gtup hp rfl ?_
  walk_at "w"
  refine ⟨a, t, p, s, x1, r.1, 0, r.1, rfl, TA.kp (kp_same sA), TX, ht.w, hok.w1, hs, .root _, Nat.le_trans (dep_size _) hok.w1.sz, fun H3 s3 => ?_⟩
  rw [hf]
  walk_at "w"
  have sB := sA.trans s3
  exact ⟨a, t, p, s, x2, r.2, c, o, rfl, TA.kp (kp_same sB), TY.kp (kp_same s3), TC.kp (kp_same sB), ht.w, hok.w2, ho.w, hs, fun bo H4 h4 s4 => k bo H4 h4 (sB.trans s4)⟩
def sp_Bstep (K : PySem.W.Frag) (C : Ad) : Sp := fun vs H Q _ => ∃ b a S R t p s i r v xs fs u, vs = [.ref b, .ref a, vI p, vI i, .ref v] ∧ BookAt K C H b S R ∧ BookOk S R ∧ TermAt K C H a t ∧ TmB S t ∧ At t p s ∧ R[i]? = some r ∧ fits s r.1 = true ∧
  SqT K H v xs ∧ TmAll K C H xs fs ∧ (∀ f ∈ fs, TmB S f ∧ gr f = true) ∧ fs.length = cntU (nodes r.2) ∧ fs.length ≤ 10 ∧ sizes fs ≤ 1000 ∧ nodes u = (nodes t).take p ++ (nfill (nodes r.2) fs ++ (nodes t).drop (p + size s)) ∧ TmW u ∧
  ∀ x H', Same H H' → TermAt K C H' x u → Q (.ref x) H'
theorem ok_Bstep (T : Ty K mg C) : Rf P w K mg base (Meth K C.b "step") 46 (spStar 4 (sp_Bstep K C)) := by
  have G_Book_require_term := (ok_Breq (P := P) (w := w) (base := base) T).rf
  have G_Term_require_place := (ok_require_place (P := P) (w := w) (base := base) T).rf
  have G_Book_require_rule := (ok_Brule (P := P) (w := w) (base := base) T).rf
  have G_matches := ok_matches (P := P) (w := w) (base := base) T 40
  have G_is_ground_of := ok_is_ground_of (P := P) (w := w) (base := base) T
  have G_nodes_put := ok_nodes_put (P := P) (w := w) (base := base) T
  have G_nodes_filled := ok_nodes_filled (P := P) (w := w) (base := base) T
  have G_Term___init__ := (ok_TermI (P := P) (w := w) (base := base) T).rf
  refine T.m_b_step.ok sc_Book_step (fun f cdv A outer s H vs Q E hr h => ?_)
  obtain ⟨b, a, S, R, t, p, s, i, r, v, xs, fs, u, rfl, BA, ok, TA, ht, hs, hi, hf, hv, hfs, hfo, hfc, hf10, hfz, hu, huw, k⟩ := h
  have hil := (List.getElem?_eq_some_iff.mp hi).1
  have hok := ok.rs.ok r (List.mem_of_getElem? hi)
  refine ⟨_, (pss_cons (ps_expr (pe_m G_Book_require_term T.cl_b (pv 0) (hr.mono (by decide)) (pa_cons (pv 1) pa_nil)))
    (pss_cons (ps_expr (pe_m G_Term_require_place T.cl_t (pv 1) (hr.mono (by decide)) (pa_cons (pv 2) pa_nil)))
    (pss_cons (ps_expr (pe_m G_Book_require_rule T.cl_b (pv 0) (hr.mono (by decide)) (pa_cons (pv 3) pa_nil)))
    (pss_cons (ps_asg (pe_ix ix_tup (pe_fld (pv 0) rfl) (pv 3) (fun _ _ => rfl)) (pg_tup (n := 2) rfl (pgs_cons (pg_name (i := 5) sc_Book_step.nd rfl (Or.inl rfl)) (pgs_cons (pg_name (i := 6) sc_Book_step.nd rfl (Or.inl rfl)) pgs_nil))))
    (pss_cons (ps_if (pt_not (pt_val (pe_g G_matches (hr.mono (by decide)) (pa_cons (pv 1) (pa_cons (pv 2) (pa_cons (pv 5) (pa_cons pe_int pa_nil))))))) (pss_one ps_never) pss_nil)
    (pss_cons (ps_if (PW.pt (pw_or (pt_cmpR op_ne (pe_callB c_lenS rfl T.f_len PySem.boot_len (pa_cons (pv 4) pa_nil)) (pe_callB c_lenS rfl T.f_len PySem.boot_len (pa_cons (pe_fld (pv 6) rfl) pa_nil)) (nomark _)) (pw_or1 (pt_not (pt_val (pe_callB (cr_all rfl) rfl T.f_all (by decide +kernel) (pa_cons (pe_lc (own := [("one", 7)]) rfl sc_Book_step.nd (pi_tup (pv 4)) (blkOk_by (own := [("one", 7)]) (N := ["self", "term", "place", "rule", "terms", "pattern", "sketch", "one"]) (sc := defScope s_Book_step) (by decide +kernel)) (fun _ _ _ _ _ => (pg_name (i := 7) sc_Book_step.nd rfl (Or.inl rfl))) (fun _ _ _ _ _ => pts_nil) (fun _ _ _ _ _ => (pe_g G_is_ground_of (hr.mono (by decide)) (pa_cons (pv 0) (pa_cons (pv 7) pa_nil))))) pa_nil))))))) (pss_one ps_never) pss_nil)
    (pss_one (ps_ret (pe_mk G_Term___init__ (hr.mono (by decide)) T.g_Term (pa_cons (pe_g G_nodes_put (hr.mono (by decide)) (pa_cons (pv 1) (pa_cons (pv 2) (pa_cons (pe_g G_nodes_filled (hr.mono (by decide)) (pa_cons (pv 6) (pa_cons (pv 4) pa_nil))) pa_nil)))) pa_nil)))))))))), ?_⟩
  try dsimp only [nox_K]
  refine rd_st (σ' := [some (.ref b), some (.ref a), some (vI p), some (vI i), some (.ref v), none, none, none]) rfl ?_
  obtain ⟨dx, b1, b2, b3, b4, b5, b6, hb⟩ := bookIns BA
  walk_at "w"
  refine ⟨b, dx, _, rfl, hb, rfl, ?_⟩
  walk_at "w"
  refine ⟨b, a, S, R, t, rfl, BA, ok.sg.nod, TA, ht, fun H1 s1 => ?_⟩
  walk_at "w"
  have TA1 := TA.kp (kp_same s1)
  have BA1 := BA.kp (kp_same s1)
  obtain ⟨da, a1, a2, a3, a4, a5, a6, ha⟩ := termIns TA1
  refine ⟨a, da, _, rfl, ha, rfl, ?_⟩
  walk_at "w"
  refine ⟨a, t, p, rfl, TA1, ht.w.sz, hs.lt, ?_⟩
  walk_at "w"
  refine ⟨b, dx, _, rfl, s1 _ _ hb, rfl, ?_⟩
  walk_at "w"
  refine ⟨b, i, S, R, rfl, BA1, hil, ok.rs.len, ?_⟩
  walk_at "w"
  obtain ⟨dx', sd, rd, p1, p2, p3, p4, ys, y, hb2, hrd, hx, pa, x1, x2, rfl, hp, TX, TY⟩ := book_rule BA1 hi
  refine rd_Fld hb2 T.cl_b T.na_b_own_rules rfl ?_
  walk_at "w"
  refine rd_ixT hrd (atI_nat hx) ?_
  refine rd_gtup hp rfl ?_
  walk_at "w"
  refine ⟨a, t, p, s, x1, r.1, 0, r.1, rfl, TA1, TX, ht.w, hok.w1, hs, .root _, Nat.le_trans (dep_size _) hok.w1.sz, fun H3 s3 => ?_⟩
  rw [hf]
  walk_at "w"
  have sB := s1.trans s3
  refine rd_len (.inr (sqT_kp (kp_same sB) hv)) ?_
  walk_at "w"
  have TY3 := TY.kp (kp_same s3)
  have TY' := TY3
  obtain ⟨d2, n2, c2, e2, sd2, u2, l2, kvs2, RY⟩ := TY'
  refine rd_Fld RY.ob T.cl_t T.na_t_own_unknown rfl ?_
  walk_at "w"
  refine rd_len (.inr RY.ud) ?_
  walk_at "w"
  refine rd_ndT (by rw [hfs.1, List.length_map, cntU_plw, hfc]) ?_
  walk_at "w"
  have hv3 := sqT_kp (kp_same sB) hv
  have hfs3 := hfs.kp (kp_same sB)
  have hfl := hfs.1
  refine rd_oneTup hv3 fun D hD => ?_
  refine lc_map (walk_tup (xs := xs)) (fun _ y _ => y = .bl true) (by omega) hD nok (fun H' s => sqT_kp (kp_same s) hv3) ?_ ?_
  · rintro m acc x H5 H4 hm hl s4 hD' rr ⟨rfl, hx4⟩
    have hfm : fs[m]? = some (fs[m]'(by omega)) := List.getElem?_eq_getElem (by omega)
    obtain ⟨ta, rfl, TT⟩ := hfs3.2 m x _ hx4 hfm
    obtain ⟨htb, hgr⟩ := hfo _ (List.mem_of_getElem? hfm)
    walk_at "w"
    refine ⟨rfl, ?_⟩
    walk_at "w"
    refine ⟨b, ta, S, R, _, rfl, BA.kp (kp_same (sB.trans s4)), ok.sg.nod, TT.kp (kp_same s4), htb.w.sz, htb.s, fun H6 s6 => ?_⟩
    rw [hgr]
    exact lc_put (by omega) hl hD' hD s4 s6 nok rr rfl
  · intro acc H4 s4 hD' hl4 hf4
    walk_at "w"
    refine rd_allT (SqL.of hD') hf4 ?_
    walk_at "w"
    have sC := sB.trans s4
    refine ⟨x2, r.2, v, fs, xs, rfl, TY3.kp (kp_same s4), hok.w2, sqT_kp (kp_same sC) hv, hfs.kp (kp_same sC), hfc, hfz, fun q H5 s5 hq => ?_⟩
    walk_at "w"
    have sD := sC.trans s5
    have hnl : (nfill (nodes r.2) fs).length ≤ 2000 := by
      have := nfill_len (nodes r.2) fs
      rw [nodes_length] at this
      have := hok.z2
      omega
    refine ⟨a, t, p, s, .ref q, _, rfl, TA.kp (kp_same sD), ht.w, hs, hq, hnl, fun q2 H6 s6 hq2 => ?_⟩
    walk_at "w"
    intro x dx3 hx6 hdx6 _
    have s7 : Same H6 (upd (upd H6 dx3 (.own x)) x (.ins C.t dx3 [])) := same_make hx6 hdx6
    rw [← hu] at hq2
    refine ⟨x, dx3, _, u, rfl, upd_same, .inl (hq2.kp (kp_same s7)), huw, fun H7 fr tt => ⟨rfl, ?_⟩⟩
    exact k x H7 (sD.trans (s6.trans (same_made hx6 hdx6 fr))) tt
end
end FN
set_option maxHeartbeats 4000000
namespace FN
open PySem PySem.Spec PyProof.Rows L2
local macro_rules | `(tactic| walk_at "w") => `(tactic| repeat (with_reducible first
  | refine rd_seq ?_
  | refine rd_asg ?_
  | refine rd_name ?_
  | refine rd_ret ?_
  | refine rd_drop ?_
  | refine rd_if ?_
  | refine rd_next ?_
  | refine rd_var (by k_dflt rfl) ?_
  | refine rd_c ?_
  | refine rd_op ?_
  | refine rd_un ?_
  | refine rd_test ?_
  | refine rd_B ?_
  | refine rd_I0 ?_
  | refine rd_U ?_
  | refine rd_eqI ?_
  | refine rd_neI ?_
  | refine rd_eqS ?_
  | refine rd_neS ?_
  | refine rd_and ?_
  | refine rd_or ?_
  | refine rd_not ?_
  | refine rd_andV ?_
  | refine rd_orV ?_
  | refine rd_notV ?_
  | refine rd_ife ?_
  | refine rd_chain ?_
  | refine rd_exb ?_
  | refine rd_exi ?_
  | refine rd_nil ?_
  | refine rd_cons ?_
  | refine rd_CB ?_
  | refine rd_G ?_
  | refine rd_fld ?_
  | refine rd_sl ?_
  | refine rd_part ?_
  | refine rd_noPart ?_
  | refine rd_leaf ?_
  | refine rd_tup ?_
  | refine rd_lst ?_
  | refine rd_star ?_
  | refine rd_bm ?_
  | refine rd_bm0 ?_
  | refine rd_gsub ?_
  | refine rd_rev ?_
  | refine rd_gnil ?_
  | refine rd_gcons ?_
  | refine rd_yes ?_
  | refine rd_abs ?_
  | refine rd_max2 ?_
  | refine rd_min2 ?_
  | refine rd_int1 ?_
  | refine rd_int1b ?_
  | refine rd_inSign ?_
  | refine rd_niSign ?_
  | refine rd_isN ?_
  | refine rd_ntN ?_
  | refine rd_dcLst ?_
  | refine rd_dcTup ?_
  | refine rd_dcItems ?_
  | refine rd_lcTup ?_
  | refine rd_lcLst ?_
  | refine rd_lcStr ?_
  | refine rd_lcR1 ?_
  | refine rd_lcR2 ?_
  | refine rd_lcKeys ?_
  | refine rd_lcVals ?_
  | refine rd_lcItems ?_
  | refine rd_lcZip ?_
  | refine rd_forTup ?_
  | refine rd_forLst ?_
  | refine rd_forR1 ?_
  | refine rd_forR2 ?_
  | refine rd_forR3 ?_
  | refine rd_forZip ?_
  | refine rd_forItems ?_
  | refine rd_lcEnumT ?_
  | refine rd_forEnumT ?_
  | refine rd_oneStr ?_
  | refine rd_mkR ?_
  | refine rd_mk0 ?_
  | refine rd_mR ?_
  | refine rd_mN ?_
  | refine rd_pr ?_
  | refine rd_cmR ?_
  | refine rd_makeC ?_
  | refine rd_tM1 ?_
  | refine rd_fmtT ?_
  | refine ⟨rd_exs, ?_⟩
  | refine rd_listZip ?_
  | refine rd_lenSetS ?_
  | refine rd_sfld ?_
  | refine rd_jc ?_
  | refine rd_jn ?_
  | refine rd_par ?_
  | refine rd_par3 ?_
  | refine rd_dupd ?_
  | refine rd_disp ?_
  | refine rd_pc ?_
  | refine rd_pn ?_
  | refine rd_dni ?_
  | refine rd_dget ?_
  | refine rd_dget2 ?_
  | refine rd_dput ?_
  | refine rd_T ?_
  | refine rd_F ?_
  | refine rd_nT ?_
  | refine rd_nF ?_))
mutual
/-- the law's terms as data -/
def tmD : Tm → PyData
  | .mk w ts => .tuple [.str w, .tuple (tmDL ts)]
def tmDL : List Tm → List PyData
  | [] => []
  | t :: r => tmD t :: tmDL r
end
theorem tmDL_map : ∀ ts : List Tm, tmDL ts = ts.map tmD
  | [] => rfl
  | t :: r => by rw [tmDL, tmDL_map r, List.map_cons]
section
variable {P : Program} {w : World} {K : PySem.W.Frag} {mg : Str → Option Value} {base : Heap} {C : Ad}
theorem tp_tmE {H : Hp} {v : V} {wd : Str} {ts : List Tm} (h : Tp K H v (tmD (.mk wd ts))) : ∃ a b xs, v = .ref a ∧ SqT K H a [.str wd, .ref b] ∧ SqT K H b xs ∧ Tps K H xs (ts.map tmD) := by
  rw [tmD] at h
  obtain ⟨a, ys, rfl, h1, h2⟩ := h.tupE
  cases h2 with
  | cons e1 r =>
    cases r with
    | cons e2 r =>
      cases r
      rw [e1.strE] at h1
      obtain ⟨b, xs, rfl, h3, h4⟩ := e2.tupE
      rw [tmDL_map] at h4
      exact ⟨a, b, xs, rfl, h1, h3, h4⟩
theorem tp_tm {H : Hp} {a b : Addr} {wd : Str} {ts : List Tm} {xs : List V} (h1 : SqT K H a [.str wd, .ref b]) (h2 : SqT K H b xs) (h3 : Tps K H xs (ts.map tmD)) : Tp K H (.ref a) (tmD (.mk wd ts)) := by
  rw [tmD, tmDL_map]
  exact .tup h1 (.cons (.str _) (.cons (.tup h2 h3) .nil))
theorem tps_tm {H : Hp} {xs : List V} {ts : List Tm} {i : Nat} {x : V} (h : Tps K H xs (ts.map tmD)) (e : xs[i]? = some x) : ∃ t, ts[i]? = some t ∧ Tp K H x (tmD t) := by
  obtain ⟨d, hd, hx⟩ := h.getV e
  rw [List.getElem?_map] at hd
  cases q : ts[i]? with
  | none => rw [q] at hd; cases hd
  | some t =>
    rw [q] at hd
    have : d = tmD t := by simpa using hd.symm
    subst this
    exact ⟨t, rfl, hx⟩
def sp_law_nodes (K : PySem.W.Frag) (n : Nat) : Sp := fun vs H Q _ => ∃ v t, vs = [v] ∧ Tp K H v (tmD t) ∧ dep t ≤ n ∧ size t ≤ 1000 ∧ ∀ p H' ys, Same H H' → H' p = some (.lst ys) → Tps K H' ys ((nodes t).map ndD) → Q (.ref p) H'
theorem ok_law_nodes (T : Ty K mg C) : ∀ n, Gf P w K mg base "_law_nodes" (n + 1) (sp_law_nodes K n)
  | 0 => by
    refine T.d__law_nodes.ok sc__law_nodes (fun vs H Q E h => ?_) (fun f cdv A outer s H vs Q E hr h => ?_)
    · obtain ⟨v, t, rfl, _⟩ := h
      rfl
    · obtain ⟨v, t, rfl, _, hd, _⟩ := h
      have := dep_pos t
      omega
  | n + 1 => by
    have G__law_nodes := ok_law_nodes T n
    refine T.d__law_nodes.ok sc__law_nodes (fun vs H Q E h => ?_) (fun f cdv A outer s H vs Q E hr h => ?_)
    · obtain ⟨v, t, rfl, _⟩ := h
      rfl
    obtain ⟨v, ⟨wd, ts⟩, rfl, hv, hd, hz, k⟩ := h
    obtain ⟨a, b, xs, rfl, ha, hb, hx⟩ := tp_tmE hv
    have hxl : xs.length = ts.length := by rw [hx.len, List.length_map]
    rw [size] at hz
    refine ⟨_, (pss_cons (ps_set (i := 1) sc__law_nodes.nd rfl (Or.inl rfl) (pe_lst (pa_cons (pe_tup (pa_cons (pe_ix ix_tup (pv 0) pe_int (fun _ _ => rfl)) (pa_cons (pe_callB c_lenS rfl T.f_len PySem.boot_len (pa_cons (pe_ix ix_tup (pv 0) pe_int (fun _ _ => rfl)) pa_nil)) pa_nil))) pa_nil)))
      (pss_cons (ps_for PassesOwn.never rfl (pi_tup (pe_ix ix_tup (pv 0) pe_int (fun _ _ => rfl))) (pg_name (i := 2) sc__law_nodes.nd rfl (Or.inl rfl)) (pss_one (ps_set (i := 1) sc__law_nodes.nd rfl (Or.inl rfl) (pe_op op_cat (pv 1) (pe_g G__law_nodes (hr.mono (Nat.le_refl _)) (pa_cons (pv 2) pa_nil))))))
      (pss_one (ps_ret (pv 1))))), ?_⟩
    try dsimp only [nox_K]
    refine rd_st (σ' := [some (.ref a), none, none]) rfl ?_
    walk_at "w"
    refine rd_ixT ha (v := .str wd) rfl ?_
    walk_at "w"
    refine rd_ixT ha (v := .ref b) rfl ?_
    walk_at "w"
    refine rd_len (.inr hb) ?_
    walk_at "w"
    refine ⟨small (by simp), fun n1 hn1 => ?_⟩
    walk_at "w"
    refine ⟨small (by simp), fun l hl => ?_⟩
    walk_at "w"
    have sn := same_new hn1 (.tup [.str wd, .int xs.length])
    have sl := same_new hl (.lst [.ref n1])
    have s0 := sn.trans sl
    refine rd_ixT (sqT_kp (kp_same s0) ha) (v := .ref b) rfl ?_
    refine rd_oneTup (sqT_kp (kp_same s0) hb) ?_
    refine fo_it (walk_tup (xs := xs)) (fun i σ H' => ∃ l ys ov, σ = [some (.ref a), some (.ref l), ov] ∧ Same H H' ∧ H' l = some (.lst ys) ∧ Tps K H' ys (((wd, ts.length) :: nodesL (ts.take i)).map ndD)) ?_ ?_ ?_ ?_
    · refine ⟨l, _, none, rfl, s0, upd_same, ?_⟩
      rw [List.take_zero, nodesL]
      refine .cons ((tp_nd (n := (wd, ts.length)) (sqT_of ?_)).kp (kp_new hl)) .nil
      rw [upd_same, hxl]
    · rintro i σ H' _ ⟨l, ys, ov, _, s, _⟩
      exact sqT_kp (kp_same s) hb
    · rintro i x σ H2 H1 hi ⟨l, ys, ov, rfl, s1, hl1, hy⟩ ⟨rfl, hx1⟩
      obtain ⟨t, ht1, ht2⟩ := tps_tm (hx.kp (kp_same s1)) hx1
      have hm := List.mem_of_getElem? ht1
      have hdt := dep_mem hm
      rw [dep] at hd
      have htk := take_succ_get ht1
      have e1 : nodesL (ts.take (i + 1)) = nodesL (ts.take i) ++ nodes t := by rw [htk, nodesL_app, nodes_one]
      have hsz : sizes (ts.take (i + 1)) ≤ sizes ts := sizes_take ts (i + 1)
      have hl0 : (nodesL (ts.take (i + 1))).length ≤ 1000 := by rw [nodesL_length _ _ rfl]; omega
      have hszt : size t ≤ sizes (ts.take (i + 1)) := by rw [htk, sizes_app, sizes_one]; omega
      walk_at "w"
      refine ⟨x, t, rfl, ht2, by omega, by omega, fun p H3 zs s3 hp hz3 => ?_⟩
      walk_at "w"
      have hl3 := s3 _ _ hl1
      have hy3 := hy.kp (kp_same s3)
      have hyl := hy3.len
      have hzl := hz3.len
      rw [e1, List.length_append] at hl0
      rw [List.length_map, List.length_cons] at hyl
      rw [List.length_map] at hzl
      refine ⟨l, p, ys, zs, rfl, rfl, hl3, hp, small (by omega), fun q hq => ?_⟩
      walk_at "w"
      refine ⟨q, _, _, rfl, (s1.trans s3).trans (same_new hq _), upd_same, ?_⟩
      rw [e1, List.map_cons, List.map_append, ← List.cons_append, ← List.map_cons]
      exact (hy3.app hz3).kp (kp_new hq)
    · rintro σ H1 ⟨l, ys, ov, rfl, s1, hl1, hy⟩
      walk_at "w"
      rw [hxl, List.take_length] at hy
      refine k l H1 ys s1 hl1 ?_
      rw [nodes]; exact hy
def sp_law_parts (K : PySem.W.Frag) (n : Nat) : Sp := fun vs H Q _ => ∃ v t, vs = [v] ∧ Tp K H v (tmD t) ∧ dep t ≤ n ∧ size t ≤ 1000 ∧ ∀ p H' ys, Same H H' → H' p = some (.lst ys) → Tps K H' ys ((parts t).map tmD) → Q (.ref p) H'
theorem partsL_len (F : List Tm) : (partsL F).length = sizes F := partsL_length _ F rfl
theorem ok_law_parts (T : Ty K mg C) : ∀ n, Gf P w K mg base "_law_parts" (n + 1) (sp_law_parts K n)
  | 0 => by
    refine T.d__law_parts.ok sc__law_parts (fun vs H Q E h => ?_) (fun f cdv A outer s H vs Q E hr h => ?_)
    · obtain ⟨v, t, rfl, _⟩ := h
      rfl
    · obtain ⟨v, t, rfl, _, hd, _⟩ := h
      have := dep_pos t
      omega
  | n + 1 => by
    have G__law_parts := ok_law_parts T n
    refine T.d__law_parts.ok sc__law_parts (fun vs H Q E h => ?_) (fun f cdv A outer s H vs Q E hr h => ?_)
    · obtain ⟨v, t, rfl, _⟩ := h
      rfl
    obtain ⟨v, ⟨wd, ts⟩, rfl, hv, hd, hz, k⟩ := h
    have hv0 := hv
    obtain ⟨a, b, xs, rfl, ha, hb, hx⟩ := tp_tmE hv
    have hxl : xs.length = ts.length := by rw [hx.len, List.length_map]
    rw [size] at hz
    refine ⟨_, (pss_cons (ps_set (i := 1) sc__law_parts.nd rfl (Or.inl rfl) (pe_lst (pa_cons (pv 0) pa_nil)))
      (pss_cons (ps_for PassesOwn.never rfl (pi_tup (pe_ix ix_tup (pv 0) pe_int (fun _ _ => rfl))) (pg_name (i := 2) sc__law_parts.nd rfl (Or.inl rfl)) (pss_one (ps_set (i := 1) sc__law_parts.nd rfl (Or.inl rfl) (pe_op op_cat (pv 1) (pe_g G__law_parts (hr.mono (Nat.le_refl _)) (pa_cons (pv 2) pa_nil))))))
      (pss_one (ps_ret (pv 1))))), ?_⟩
    try dsimp only [nox_K]
    refine rd_st (σ' := [some (.ref a), none, none]) rfl ?_
    walk_at "w"
    refine ⟨small (by simp), fun l hl => ?_⟩
    walk_at "w"
    have s0 := same_new hl (.lst [.ref a])
    refine rd_ixT (sqT_kp (kp_same s0) ha) (v := .ref b) rfl ?_
    refine rd_oneTup (sqT_kp (kp_same s0) hb) ?_
    refine fo_it (walk_tup (xs := xs)) (fun i σ H' => ∃ l ys ov, σ = [some (.ref a), some (.ref l), ov] ∧ Same H H' ∧ H' l = some (.lst ys) ∧ Tps K H' ys ((Tm.mk wd ts :: partsL (ts.take i)).map tmD)) ?_ ?_ ?_ ?_
    · refine ⟨l, _, none, rfl, s0, upd_same, ?_⟩
      rw [List.take_zero, partsL]
      exact .cons (hv0.kp (kp_new hl)) .nil
    · rintro i σ H' _ ⟨l, ys, ov, _, s, _⟩
      exact sqT_kp (kp_same s) hb
    · rintro i x σ H2 H1 hi ⟨l, ys, ov, rfl, s1, hl1, hy⟩ ⟨rfl, hx1⟩
      obtain ⟨t, ht1, ht2⟩ := tps_tm (hx.kp (kp_same s1)) hx1
      have hm := List.mem_of_getElem? ht1
      have hdt := dep_mem hm
      rw [dep] at hd
      have htk := take_succ_get ht1
      have e1 : partsL (ts.take (i + 1)) = partsL (ts.take i) ++ parts t := by rw [htk, partsL_app, parts_one]
      have hsz : sizes (ts.take (i + 1)) ≤ sizes ts := sizes_take ts (i + 1)
      have hl0 : (partsL (ts.take (i + 1))).length ≤ 1000 := by rw [partsL_len]; omega
      have hszt : size t ≤ sizes (ts.take (i + 1)) := by rw [htk, sizes_app, sizes_one]; omega
      walk_at "w"
      refine ⟨x, t, rfl, ht2, by omega, by omega, fun p H3 zs s3 hp hz3 => ?_⟩
      walk_at "w"
      have hl3 := s3 _ _ hl1
      have hy3 := hy.kp (kp_same s3)
      have hyl := hy3.len
      have hzl := hz3.len
      rw [e1, List.length_append] at hl0
      rw [List.length_map, List.length_cons] at hyl
      rw [List.length_map] at hzl
      refine ⟨l, p, ys, zs, rfl, rfl, hl3, hp, small (by omega), fun q hq => ?_⟩
      walk_at "w"
      refine ⟨q, _, _, rfl, (s1.trans s3).trans (same_new hq _), upd_same, ?_⟩
      rw [e1, List.map_cons, List.map_append, ← List.cons_append, ← List.map_cons]
      exact (hy3.app hz3).kp (kp_new hq)
    · rintro σ H1 ⟨l, ys, ov, rfl, s1, hl1, hy⟩
      walk_at "w"
      rw [hxl, List.take_length] at hy
      refine k l H1 ys s1 hl1 ?_
      rw [parts]; exact hy
def sp_made_term (K : PySem.W.Frag) (C : Ad) : Sp := fun vs H Q _ => ∃ v t, vs = [v] ∧ Tp K H v (tmD t) ∧ TmW t ∧ ∀ x H', Same H H' → TermAt K C H' x t → Q (.ref x) H'
theorem ok_made_term (T : Ty K mg C) : Gf P w K mg base "_law_made_term" 43 (sp_made_term K C) := by
  have G__law_nodes := ok_law_nodes (P := P) (w := w) (base := base) T 40
  have G_Term___init__ := (ok_TermI (P := P) (w := w) (base := base) T).rf
  refine T.d__law_made_term.ok sc__law_made_term (fun vs H Q E h => ?_) (fun f cdv A outer s H vs Q E hr h => ?_)
  · obtain ⟨v, t, rfl, _⟩ := h
    rfl
  obtain ⟨v, t, rfl, hv, ht, k⟩ := h
  refine ⟨_, (pss_one (ps_ret (pe_mk G_Term___init__ (hr.mono (by decide)) T.g_Term (pa_cons (pe_callTy c_tupS rfl T.f_tuple (by decide +kernel) (pa_cons (pe_g G__law_nodes (hr.mono (by decide)) (pa_cons (pv 0) pa_nil)) pa_nil)) pa_nil)))), ?_⟩
  try dsimp only [nox_K]
  refine rd_st (σ' := [some v]) rfl ?_
  walk_at "w"
  have hz := ht.sz
  refine ⟨v, t, rfl, hv, Nat.le_trans (dep_size t) hz, by omega, fun p H1 ys s1 hp hy => ?_⟩
  walk_at "w"
  refine rd_tupS (SqL.of hp) fun q hq => ?_
  walk_at "w"
  intro x dx hx hdx _
  have s2 := same_new hq (.tup ys)
  have s3 : Same (upd H1 q (.tup ys)) (upd (upd (upd H1 q (.tup ys)) dx (.own x)) x (.ins C.t dx [])) := same_make hx hdx
  refine ⟨x, dx, _, t, rfl, upd_same, .inl ((Tp.tup (sqT_of upd_same) (hy.kp (kp_same s2))).kp (kp_same s3)), ht, fun H' fr ta => ⟨rfl, ?_⟩⟩
  exact k x H' ((s1.trans s2).trans (same_made hx hdx fr)) ta
/-- the places of the node (w, 0) -/
def lz (w : Str) : Nat → List Nd → List Nat
  | _, [] => []
  | p, n :: r => if n = (w, 0) then p :: lz w (p + 1) r else lz w (p + 1) r
theorem lz_app (w : Str) : ∀ (p : Nat) (A B : List Nd), lz w p (A ++ B) = lz w p A ++ lz w (p + A.length) B
  | p, [], B => by rw [lz]; rfl
  | p, n :: A, B => by
    rw [List.cons_append, lz, lz, lz_app w (p + 1) A B, List.length_cons, show p + 1 + A.length = p + (A.length + 1) by omega]
    split <;> rfl
def sp_law_leaves (K : PySem.W.Frag) : Sp := fun vs H Q _ => ∃ v t wd, vs = [v, .str wd] ∧ Tp K H v (tmD t) ∧ size t ≤ 40 ∧ Wok (nodes t) ∧ PyData.strOk wd = true ∧ ∀ p H', Same H H' → H' p = some (.lst ((lz wd 0 (nodes t)).map vI)) → Q (.ref p) H'
theorem ok_law_leaves (T : Ty K mg C) : Gf P w K mg base "_law_leaves" 42 (sp_law_leaves K) := by
  have G__law_nodes := ok_law_nodes (P := P) (w := w) (base := base) T 40
  refine T.d__law_leaves.ok sc__law_leaves (fun vs H Q E h => ?_) (fun f cdv A outer s H vs Q E hr h => ?_)
  · obtain ⟨v, t, wd, rfl, _⟩ := h
    rfl
  obtain ⟨v, t, wd, rfl, hv, hz, hw, hwd, k⟩ := h
  refine ⟨_, (pss_cons (ps_set (i := 2) sc__law_leaves.nd rfl (Or.inr rfl) (pe_g G__law_nodes (hr.mono (by decide)) (pa_cons (pv 0) pa_nil)))
    (pss_one (ps_ret (pe_lc (own := [("_law_at", 3)]) rfl sc__law_leaves.nd (pi_range1 rfl T.f_range (pa_cons (pe_callB c_lenS rfl T.f_len PySem.boot_len (pa_cons (pv 2) pa_nil)) pa_nil)) (blkOk_by (own := [("_law_at", 3)]) (N := ["_law_term_here", "_law_word", "_law_rows", "_law_at"]) (sc := defScope s__law_leaves) (by decide +kernel)) (fun _ _ _ _ _ => (pg_name (i := 3) sc__law_leaves.nd rfl (Or.inl rfl))) (fun _ _ _ _ _ => (pts_one (pt_cmpR (eqD_k (K := K) rfl hr.units) (pe_ix (ixL_k (K := K) rfl) (pv 2) (pv 3) (fun _ _ => rfl)) (pe_tup (pa_cons (pv 1) (pa_cons pe_int pa_nil))) (nomark _)))) (fun _ _ _ _ _ => (pv 3)))))), ?_⟩
  try dsimp only [nox_K]
  refine rd_st (σ' := [some v, some (.str wd), none, none]) rfl ?_
  walk_at "w"
  refine ⟨v, t, rfl, hv, Nat.le_trans (dep_size t) hz, by omega, fun l H1 ys s1 hl hy => ?_⟩
  walk_at "w"
  have hyl : ys.length = size t := by rw [hy.len, List.length_map, nodes_length]
  refine rd_len (.inl (SqL.of hl)) ?_
  refine ⟨_, rfl, by omega, by omega, fun D hD => ?_⟩
  rw [show ((ys.length : Nat) : Int).toNat = size t by omega]
  refine lc_same walk_range (fun i acc _ => acc = (lz wd 0 ((nodes t).take i)).map vI) (by omega) hD (fun _ _ _ _ h _ => h) rfl (fun _ _ => trivial) ?_ ?_
  · rintro i acc x H2 H3 hi hl2 s2 hD' rfl ⟨rfl, rfl⟩
    have ei : (0 : Int) + (i : Nat) = ((i : Nat) : Int) := by omega
    dsimp only
    rw [ei]
    have hni : (nodes t)[i]? = some ((nodes t)[i]'(by rw [nodes_length]; exact hi)) := List.getElem?_eq_getElem _
    obtain ⟨nv, hnv, hnd⟩ := (hy.kp (kp_same s2)).get (i := i) (by rw [List.getElem?_map, hni]; rfl)
    have htk := take_succ_get hni
    have hnm := hw _ (List.mem_of_getElem? hni)
    generalize (nodes t)[i]'(by rw [nodes_length]; exact hi) = m at *
    walk_at "w"
    refine ⟨rfl, ?_⟩
    walk_at "w"
    refine rd_ixL (SqL.of (s2 _ _ hl)) (atI_nat hnv) ?_
    walk_at "w"
    refine ⟨small (by simp), fun q hq => ?_⟩
    have sq := same_new hq (.tup [.str wd, .int 0])
    refine rd_eqNd (a := m) (b := (wd, 0)) (hnd.kp (kp_same sq)) (tp_nd (n := (wd, 0)) (sqT_of upd_same)) hnm hwd ?_
    walk_at "w"
    have hil : ((nodes t).take i).length = i := by rw [List.length_take, nodes_length]; omega
    by_cases hm : m = (wd, 0)
    · refine rd_dT hm ?_
      walk_at "w"
      refine lc_elt (R := fun i acc _ => acc = (lz wd 0 ((nodes t).take i)).map vI) (by omega) hl2 hD' hD s2 sq (fun _ _ _ _ h _ => h) ?_
      rw [htk, lz_app, List.map_append, hil, Nat.zero_add, lz, if_pos hm]; rfl
    · refine rd_dF hm ?_
      refine lc_skip (R := fun i acc _ => acc = (lz wd 0 ((nodes t).take i)).map vI) hl2 hD' s2 sq ?_
      rw [htk, lz_app, List.map_append, hil, Nat.zero_add, lz, if_neg hm, lz]
      simp
  · rintro acc H2 s2 hD' hl2 rfl
    refine k D H2 (s1.trans s2) ?_
    rw [hD', show (nodes t).take (size t) = nodes t by rw [← nodes_length, List.take_length]]
end
end FN
set_option maxHeartbeats 4000000
namespace FN
open PySem PySem.Spec PyProof.Rows L2
local macro_rules | `(tactic| walk_at "w") => `(tactic| repeat (with_reducible first
  | refine rd_seq ?_
  | refine rd_asg ?_
  | refine rd_name ?_
  | refine rd_ret ?_
  | refine rd_drop ?_
  | refine rd_if ?_
  | refine rd_next ?_
  | refine rd_var (by k_dflt rfl) ?_
  | refine rd_c ?_
  | refine rd_op ?_
  | refine rd_un ?_
  | refine rd_test ?_
  | refine rd_B ?_
  | refine rd_I0 ?_
  | refine rd_U ?_
  | refine rd_eqI ?_
  | refine rd_neI ?_
  | refine rd_eqS ?_
  | refine rd_neS ?_
  | refine rd_and ?_
  | refine rd_or ?_
  | refine rd_not ?_
  | refine rd_andV ?_
  | refine rd_orV ?_
  | refine rd_notV ?_
  | refine rd_ife ?_
  | refine rd_chain ?_
  | refine rd_exb ?_
  | refine rd_exi ?_
  | refine rd_nil ?_
  | refine rd_cons ?_
  | refine rd_CB ?_
  | refine rd_G ?_
  | refine rd_fld ?_
  | refine rd_sl ?_
  | refine rd_part ?_
  | refine rd_noPart ?_
  | refine rd_leaf ?_
  | refine rd_tup ?_
  | refine rd_lst ?_
  | refine rd_star ?_
  | refine rd_bm ?_
  | refine rd_bm0 ?_
  | refine rd_gsub ?_
  | refine rd_rev ?_
  | refine rd_gnil ?_
  | refine rd_gcons ?_
  | refine rd_yes ?_
  | refine rd_abs ?_
  | refine rd_max2 ?_
  | refine rd_min2 ?_
  | refine rd_int1 ?_
  | refine rd_int1b ?_
  | refine rd_inSign ?_
  | refine rd_niSign ?_
  | refine rd_isN ?_
  | refine rd_ntN ?_
  | refine rd_dcLst ?_
  | refine rd_dcTup ?_
  | refine rd_dcItems ?_
  | refine rd_lcTup ?_
  | refine rd_lcLst ?_
  | refine rd_lcStr ?_
  | refine rd_lcR1 ?_
  | refine rd_lcR2 ?_
  | refine rd_lcKeys ?_
  | refine rd_lcVals ?_
  | refine rd_lcItems ?_
  | refine rd_lcZip ?_
  | refine rd_forTup ?_
  | refine rd_forLst ?_
  | refine rd_forR1 ?_
  | refine rd_forR2 ?_
  | refine rd_forR3 ?_
  | refine rd_forZip ?_
  | refine rd_forItems ?_
  | refine rd_lcEnumT ?_
  | refine rd_forEnumT ?_
  | refine rd_oneStr ?_
  | refine rd_mkR ?_
  | refine rd_mk0 ?_
  | refine rd_mR ?_
  | refine rd_mN ?_
  | refine rd_pr ?_
  | refine rd_cmR ?_
  | refine rd_makeC ?_
  | refine rd_tM1 ?_
  | refine rd_fmtT ?_
  | refine ⟨rd_exs, ?_⟩
  | refine rd_listZip ?_
  | refine rd_lenSetS ?_
  | refine rd_sfld ?_
  | refine rd_jc ?_
  | refine rd_jn ?_
  | refine rd_par ?_
  | refine rd_par3 ?_
  | refine rd_dupd ?_
  | refine rd_disp ?_
  | refine rd_pc ?_
  | refine rd_pn ?_
  | refine rd_dni ?_
  | refine rd_dget ?_
  | refine rd_dget2 ?_
  | refine rd_dput ?_
  | refine rd_T ?_
  | refine rd_F ?_
  | refine rd_nT ?_
  | refine rd_nF ?_))
mutual
/-- a part exchanged -/
def put : Tm → Nat → Tm → Tm
  | .mk w ts, p, o => if p = 0 then o else .mk w (putL ts (p - 1) o)
def putL : List Tm → Nat → Tm → List Tm
  | [], _, _ => []
  | t :: r, p, o => if p < size t then put t p o :: r else t :: putL r (p - size t) o
end
theorem putL_app (o : Tm) : ∀ (A : List Tm) (t : Tm) (q : Nat), putL (A ++ [t]) q o = putL A q o ++ [if sizes A ≤ q ∧ q < sizes A + size t then put t (q - sizes A) o else t]
  | [], t, q => by
    rw [List.nil_append, putL, putL, putL, sizes]
    by_cases h : q < size t
    · rw [if_pos h, if_pos ⟨by omega, by omega⟩]; rfl
    · rw [if_neg h, if_neg (by omega)]; rfl
  | a :: A, t, q => by
    rw [List.cons_append, putL, putL, sizes]
    by_cases h : q < size a
    · rw [if_pos h, if_pos h, if_neg (by omega)]; rfl
    · rw [if_neg h, if_neg h, putL_app o A t (q - size a), List.cons_append]
      congr 2
      by_cases h2 : sizes A ≤ q - size a ∧ q - size a < sizes A + size t
      · rw [if_pos h2, if_pos (by omega), show q - size a - sizes A = q - (size a + sizes A) by omega]
      · rw [if_neg h2, if_neg (by omega)]
mutual
/-- leaves to be filled -/
def cf : Tm → Nat
  | .mk w ts => if w = "_" then 1 else cfL ts
def cfL : List Tm → Nat
  | [] => 0
  | t :: r => cf t + cfL r
end
mutual
def fill : Tm → List Tm → Tm
  | .mk w ts, fs => if w = "_" then fs.headD (.mk w ts) else .mk w (fillL ts fs)
def fillL : List Tm → List Tm → List Tm
  | [], _ => []
  | t :: r, fs => fill t fs :: fillL r (fs.drop (cf t))
end
theorem cfL_app : ∀ A B : List Tm, cfL (A ++ B) = cfL A + cfL B
  | [], B => by rw [List.nil_append, cfL]; omega
  | t :: A, B => by rw [List.cons_append, cfL, cfL, cfL_app A B]; omega
theorem fillL_app : ∀ (A : List Tm) (t : Tm) (fs : List Tm), fillL (A ++ [t]) fs = fillL A fs ++ [fill t (fs.drop (cfL A))]
  | [], t, fs => by rw [List.nil_append, fillL, fillL, fillL, cfL]; rfl
  | a :: A, t, fs => by rw [List.cons_append, fillL, fillL, fillL_app A t, cfL, List.cons_append, List.drop_drop]
theorem cfL_take : ∀ (ts : List Tm) (m : Nat), cfL (ts.take m) ≤ cfL ts
  | [], m => by simp
  | t :: r, 0 => by rw [List.take_zero, cfL]; omega
  | t :: r, m + 1 => by rw [List.take_succ_cons, cfL, cfL]; have := cfL_take r m; omega
theorem prsL_app : ∀ (A B : List Tm) (c d : Tm), A.length = B.length → prsL (A ++ [c]) (B ++ [d]) = prsL A B ++ prs c d
  | [], [], c, d, _ => by simp [prsL]
  | a :: A, b :: B, c, d, h => by
    rw [List.cons_append, List.cons_append, prsL, prsL, prsL_app A B c d (by simpa using h), List.append_assoc]
  | [], _ :: _, c, d, h => by simp at h
  | _ :: _, [], c, d, h => by simp at h
theorem prsL_take : ∀ (A B : List Tm), prsL (A.take (min A.length B.length)) (B.take (min A.length B.length)) = prsL A B
  | [], [] => by simp
  | [], b :: B => by simp [prsL]
  | a :: A, [] => by simp [prsL]
  | a :: A, b :: B => by
    rw [List.length_cons, List.length_cons, Nat.succ_min_succ, List.take_succ_cons, List.take_succ_cons, prsL, prsL, prsL_take A B]
section
variable {P : Program} {w : World} {K : PySem.W.Frag} {mg : Str → Option Value} {base : Heap} {C : Ad}
def sp_law_put (K : PySem.W.Frag) (n : Nat) : Sp := fun vs H Q _ => ∃ v t p u o, vs = [v, vI p, u] ∧ Tp K H v (tmD t) ∧ Tp K H u (tmD o) ∧ p < size t ∧ dep t ≤ n ∧ size t ≤ 40 ∧ ∀ y H', Same H H' → Tp K H' y (tmD (put t p o)) → Q y H'
theorem ok_law_put (T : Ty K mg C) : ∀ n, Gf P w K mg base "_law_put" (n + 42) (sp_law_put K n)
  | 0 => by
    refine T.d__law_put.ok sc__law_put (fun vs H Q E h => ?_) (fun f cdv A outer s H vs Q E hr h => ?_)
    · obtain ⟨v, t, p, u, o, rfl, _⟩ := h
      rfl
    · obtain ⟨v, t, p, u, o, rfl, _, _, _, hd, _⟩ := h
      have := dep_pos t
      omega
  | n + 1 => by
    have G__law_put := ok_law_put T n
    have G__law_parts := ok_law_parts (P := P) (w := w) (base := base) T 40
    refine T.d__law_put.ok sc__law_put (fun vs H Q E h => ?_) (fun f cdv A outer s H vs Q E hr h => ?_)
    · obtain ⟨v, t, p, u, o, rfl, _⟩ := h
      rfl
    obtain ⟨v, ⟨wd, ts⟩, p, u, o, rfl, hv, hu, hp, hd, hz, k⟩ := h
    obtain ⟨a, b, xs, rfl, ha, hb, hx⟩ := tp_tmE hv
    have hxl : xs.length = ts.length := by rw [hx.len, List.length_map]
    have hlt := sizes_len ts
    rw [size] at hz hp
    rw [put] at k
    refine ⟨_, (pss_cons (ps_if (pt_cmpR op_eq (pv 1) pe_int (nomark _)) (pss_one (ps_ret (pv 2))) pss_nil)
      (pss_cons (ps_par rfl sc__law_put.nd (i := 4) (j := 5) rfl rfl (by decide) rfl rfl (pa_cons (pe_lst pa_nil) (pa_cons (pe_op op_sub (pv 1) pe_int) pa_nil)) (by rfl))
      (pss_cons (ps_for PassesOwn.never rfl (pi_tup (pe_ix ix_tup (pv 0) pe_int (fun _ _ => rfl))) (pg_name (i := 3) sc__law_put.nd rfl (Or.inl rfl)) (pss_cons (ps_set (i := 6) sc__law_put.nd rfl (Or.inl rfl) (pe_callB c_lenS rfl T.f_len PySem.boot_len (pa_cons (pe_g G__law_parts (hr.mono (by omega)) (pa_cons (pv 3) pa_nil)) pa_nil)))
        (pss_cons (ps_expr (pe_bm PySem.F.plainAttrs_list PySem.F.slot_list_append PySem.F.type_list_append mt_append (pv 4) (pa_cons (pe_ifExp (pt_chain op_le op_lt pe_int (pv 5) (pv 6)) (pe_g G__law_put (hr.mono (Nat.le_refl _)) (pa_cons (pv 3) (pa_cons (pv 5) (pa_cons (pv 2) pa_nil)))) (pv 3)) pa_nil)))
        (pss_one (ps_set (i := 5) sc__law_put.nd rfl (Or.inl rfl) (pe_op op_sub (pv 5) (pv 6)))))))
      (pss_one (ps_ret (pe_tup (pa_cons (pe_ix ix_tup (pv 0) pe_int (fun _ _ => rfl)) (pa_cons (pe_callTy c_tupS rfl T.f_tuple (by decide +kernel) (pa_cons (pv 4) pa_nil)) pa_nil)))))))), ?_⟩
    try dsimp only [nox_K]
    refine rd_st (σ' := [some (.ref a), some (vI p), some u, none, none, none, none]) rfl ?_
    walk_at "w"
    by_cases hp0 : p = 0
    · refine rd_dT (by omega) ?_
      walk_at "w"
      rw [if_pos hp0] at k
      exact k u H (Same.refl H) hu
    rw [if_neg hp0] at k
    refine rd_dF (by omega) ?_
    walk_at "w"
    refine ⟨small (by simp), fun l hl => ?_⟩
    walk_at "w"
    refine ⟨_, _, rfl, ?_⟩
    walk_at "w"
    have s0 := same_new hl (.lst [])
    refine rd_ixT (sqT_kp (kp_same s0) ha) (v := .ref b) rfl ?_
    refine rd_oneTup (sqT_kp (kp_same s0) hb) ?_
    refine fo_it (walk_tup (xs := xs)) (fun i σ H' => ∃ ys ov sv lv', σ = [some (.ref a), some (vI p), some u, ov, some (.ref l), some lv', sv] ∧ lv' = .int ((p : Int) - 1 - (sizes (ts.take i) : Nat)) ∧ Same H H' ∧ H' l = some (.lst ys) ∧ ys.length = i ∧ Tps K H' ys ((putL (ts.take i) (p - 1) o).map tmD)) ?_ ?_ ?_ ?_
    · refine ⟨[], none, none, _, rfl, ?_, s0, upd_same, rfl, ?_⟩
      · rw [List.take_zero, sizes]; simp
      · rw [List.take_zero, putL]; exact .nil
    · rintro i σ H' _ ⟨ys, ov, sv, lv', _, _, s, _⟩
      exact sqT_kp (kp_same s) hb
    · rintro i x σ H2 H1 hi ⟨ys, ov, sv, lv', rfl, rfl, s1, hl1, hyl, hy⟩ ⟨rfl, hx1⟩
      obtain ⟨t, ht1, ht2⟩ := tps_tm (hx.kp (kp_same s1)) hx1
      have hm := List.mem_of_getElem? ht1
      have hdt := dep_mem hm
      rw [dep] at hd
      have htk := take_succ_get ht1
      have hsz : sizes (ts.take (i + 1)) ≤ sizes ts := sizes_take ts (i + 1)
      have hst : sizes (ts.take (i + 1)) = sizes (ts.take i) + size t := by rw [htk, sizes_app, sizes_one]
      have hputL : putL (ts.take (i + 1)) (p - 1) o = putL (ts.take i) (p - 1) o ++ [if sizes (ts.take i) ≤ p - 1 ∧ p - 1 < sizes (ts.take i) + size t then put t (p - 1 - sizes (ts.take i)) o else t] := by rw [htk, putL_app]
      walk_at "w"
      refine ⟨x, t, rfl, ht2, by have := dep_size t; omega, by omega, fun q H3 zs s3 hq hzs => ?_⟩
      have hzl : zs.length = size t := by rw [hzs.len, List.length_map, parts_length]
      walk_at "w"
      refine rd_len (.inl (SqL.of hq)) ?_
      walk_at "w"
      have hl3 := s3 _ _ hl1
      have sA := s1.trans s3
      refine ⟨tyV_l (SqL.of hl3), ?_⟩
      walk_at "w"
      have fin : ∀ (y : V) (H4 : Hp), Same H3 H4 → Tp K H4 y (tmD (if sizes (ts.take i) ≤ p - 1 ∧ p - 1 < sizes (ts.take i) + size t then put t (p - 1 - sizes (ts.take i)) o else t)) →
          (∃ ys' ov' sv' lv'', [some (V.ref a), some (vI p), some u, some x, some (V.ref l), some (V.int ((p : Int) - 1 - (sizes (ts.take i) : Nat) - (zs.length : Nat))), some (V.int (zs.length : Nat))] = [some (V.ref a), some (vI p), some u, ov', some (V.ref l), some lv'', sv'] ∧ lv'' = .int ((p : Int) - 1 - (sizes (ts.take (i + 1)) : Nat)) ∧ Same H (upd H4 l (.lst (ys ++ [y]))) ∧ (upd H4 l (.lst (ys ++ [y]))) l = some (.lst ys') ∧ ys'.length = i + 1 ∧ Tps K (upd H4 l (.lst (ys ++ [y]))) ys' ((putL (ts.take (i + 1)) (p - 1) o).map tmD)) := by
        intro y H4 s4 hy4
        refine ⟨ys ++ [y], _, _, _, rfl, ?_, same_mut (sA.trans s4) hl, upd_same, by rw [List.length_append, hyl]; rfl, ?_⟩
        · congr 1; omega
        · rw [hputL, List.map_append]
          exact (((hy.kp (kp_same (s3.trans s4))).app (.cons hy4 .nil))).kp (kp_lst (s4 _ _ hl3))
      by_cases h0 : (0 : Int) ≤ (p : Int) - 1 - (sizes (ts.take i) : Nat)
      · refine rd_dT h0 ?_
        walk_at "w"
        by_cases h1 : (p : Int) - 1 - (sizes (ts.take i) : Nat) < (zs.length : Nat)
        · refine rd_dT h1 ?_
          walk_at "w"
          have ep : (p : Int) - 1 - (sizes (ts.take i) : Nat) = ((p - 1 - sizes (ts.take i) : Nat) : Int) := by omega
          refine ⟨x, t, p - 1 - sizes (ts.take i), u, o, by rw [ep], ht2.kp (kp_same s3), hu.kp (kp_same sA), by omega, by omega, by omega, fun y H4 s4 hy4 => ?_⟩
          walk_at "w"
          refine rd_append (s4 _ _ hl3) (smallL (by omega)) ?_
          walk_at "w"
          refine fin y H4 s4 ?_
          rw [if_pos (by omega)]; exact hy4
        · refine rd_dF h1 ?_
          walk_at "w"
          refine rd_append hl3 (smallL (by omega)) ?_
          walk_at "w"
          refine fin x H3 (Same.refl _) ?_
          rw [if_neg (by omega)]; exact ht2.kp (kp_same s3)
      · refine rd_dF h0 ?_
        walk_at "w"
        refine rd_append hl3 (smallL (by omega)) ?_
        walk_at "w"
        refine fin x H3 (Same.refl _) ?_
        rw [if_neg (by omega)]; exact ht2.kp (kp_same s3)
    · rintro σ H1 ⟨ys, ov, sv, lv', rfl, rfl, s1, hl1, hyl, hy⟩
      walk_at "w"
      refine rd_ixT (sqT_kp (kp_same s1) ha) (v := .str wd) rfl ?_
      walk_at "w"
      refine rd_tupS (SqL.of hl1) fun q hq => ?_
      walk_at "w"
      refine ⟨small (by simp), fun q2 hq2 => ?_⟩
      have sq := same_new hq (.tup ys)
      have sq2 := same_new hq2 (.tup [.str wd, .ref q])
      refine k _ _ (s1.trans (sq.trans sq2)) (tp_tm (sqT_of upd_same) (sqT_kp (kp_same sq2) (sqT_of upd_same)) ?_)
      rw [hxl, List.take_length] at hy
      exact hy.kp (kp_same (sq.trans sq2))
end
end FN
set_option maxHeartbeats 4000000
namespace FN
open PySem PySem.Spec PyProof.Rows L2
local macro_rules | `(tactic| walk_at "w") => `(tactic| repeat (with_reducible first
  | refine rd_seq ?_
  | refine rd_asg ?_
  | refine rd_name ?_
  | refine rd_ret ?_
  | refine rd_drop ?_
  | refine rd_if ?_
  | refine rd_next ?_
  | refine rd_var (by k_dflt rfl) ?_
  | refine rd_c ?_
  | refine rd_op ?_
  | refine rd_un ?_
  | refine rd_test ?_
  | refine rd_B ?_
  | refine rd_I0 ?_
  | refine rd_U ?_
  | refine rd_eqI ?_
  | refine rd_neI ?_
  | refine rd_eqS ?_
  | refine rd_neS ?_
  | refine rd_and ?_
  | refine rd_or ?_
  | refine rd_not ?_
  | refine rd_andV ?_
  | refine rd_orV ?_
  | refine rd_notV ?_
  | refine rd_ife ?_
  | refine rd_chain ?_
  | refine rd_exb ?_
  | refine rd_exi ?_
  | refine rd_nil ?_
  | refine rd_cons ?_
  | refine rd_CB ?_
  | refine rd_G ?_
  | refine rd_fld ?_
  | refine rd_sl ?_
  | refine rd_part ?_
  | refine rd_noPart ?_
  | refine rd_leaf ?_
  | refine rd_tup ?_
  | refine rd_lst ?_
  | refine rd_star ?_
  | refine rd_bm ?_
  | refine rd_bm0 ?_
  | refine rd_gsub ?_
  | refine rd_rev ?_
  | refine rd_gnil ?_
  | refine rd_gcons ?_
  | refine rd_yes ?_
  | refine rd_abs ?_
  | refine rd_max2 ?_
  | refine rd_min2 ?_
  | refine rd_int1 ?_
  | refine rd_int1b ?_
  | refine rd_inSign ?_
  | refine rd_niSign ?_
  | refine rd_isN ?_
  | refine rd_ntN ?_
  | refine rd_dcLst ?_
  | refine rd_dcTup ?_
  | refine rd_dcItems ?_
  | refine rd_lcTup ?_
  | refine rd_lcLst ?_
  | refine rd_lcStr ?_
  | refine rd_lcR1 ?_
  | refine rd_lcR2 ?_
  | refine rd_lcKeys ?_
  | refine rd_lcVals ?_
  | refine rd_lcItems ?_
  | refine rd_lcZip ?_
  | refine rd_forTup ?_
  | refine rd_forLst ?_
  | refine rd_forR1 ?_
  | refine rd_forR2 ?_
  | refine rd_forR3 ?_
  | refine rd_forZip ?_
  | refine rd_forItems ?_
  | refine rd_lcEnumT ?_
  | refine rd_forEnumT ?_
  | refine rd_oneStr ?_
  | refine rd_mkR ?_
  | refine rd_mk0 ?_
  | refine rd_mR ?_
  | refine rd_mN ?_
  | refine rd_pr ?_
  | refine rd_cmR ?_
  | refine rd_makeC ?_
  | refine rd_tM1 ?_
  | refine rd_fmtT ?_
  | refine ⟨rd_exs, ?_⟩
  | refine rd_listZip ?_
  | refine rd_lenSetS ?_
  | refine rd_sfld ?_
  | refine rd_jc ?_
  | refine rd_jn ?_
  | refine rd_par ?_
  | refine rd_par3 ?_
  | refine rd_dupd ?_
  | refine rd_disp ?_
  | refine rd_pc ?_
  | refine rd_pn ?_
  | refine rd_dni ?_
  | refine rd_dget ?_
  | refine rd_dget2 ?_
  | refine rd_dput ?_
  | refine rd_T ?_
  | refine rd_F ?_
  | refine rd_nT ?_
  | refine rd_nF ?_))
theorem eqv_nil {ds : List PyData} : PyData.eqv (.list ds) (.list []) = decide (ds = []) := by
  cases ds <;> simp [PyData.eqv, PyData.eqvAll]
theorem eqv_nilT {ds : List PyData} : PyData.eqv (.tuple ds) (.tuple []) = decide (ds = []) := by
  cases ds <;> simp [PyData.eqv, PyData.eqvAll]
section
variable {K : PySem.W.Frag} {H : Hp} {Q : VK}
theorem dpAll_ints : ∀ (is : List Int), DpAll K H (is.map V.int) (is.map PyData.int)
  | [] => .nil
  | i :: r => .cons (.int i) (dpAll_ints r)
theorem shaped_il (is : List Int) : SeqAt.shaped (.list (is.map PyData.int)) = true := by
  refine shaped_of ?_ ?_
  · simp only [PyData.canLay0]
    refine canAll_of fun x hx => ?_
    obtain ⟨n, hn, rfl⟩ := List.mem_map.mp hx
    simp [PyData.canLay0]
  · simp only [PyData.depth]
    have := depthAll_of (n := 0) (xs := is.map PyData.int) (fun x hx => by
      obtain ⟨n, hn, rfl⟩ := List.mem_map.mp hx
      simp [PyData.depth])
    omega
/-- a list of ints == [] -/
theorem rd_eqLn {a b : Addr} {is : List Int} (h1 : SqL K H a (is.map V.int)) (h2 : SqL K H b []) (k : Q (.bl (decide (is = []))) H) : rEqD K (.ref a) (.ref b) H Q :=
  ⟨.list (is.map PyData.int), .list [], .lst h1 (dpAll_ints is), .lst h2 .nil, shaped_il is, shaped_il [], by
    rw [eqv_nil, show decide (is.map PyData.int = []) = decide (is = []) by simp]; exact k⟩
theorem rd_neLn {a b : Addr} {is : List Int} (h1 : SqL K H a (is.map V.int)) (h2 : SqL K H b []) (k : Q (.bl (!decide (is = []))) H) : rNeD K (.ref a) (.ref b) H Q :=
  ⟨.list (is.map PyData.int), .list [], .lst h1 (dpAll_ints is), .lst h2 .nil, shaped_il is, shaped_il [], by
    rw [eqv_nil, show decide (is.map PyData.int = []) = decide (is = []) by simp]; exact k⟩
end
theorem map_vI (ns : List Nat) : ns.map vI = (ns.map Int.ofNat).map V.int := by rw [List.map_map]; rfl
section
variable {P : Program} {w : World} {K : PySem.W.Frag} {mg : Str → Option Value} {base : Heap} {C : Ad}
def sp_law_fits (K : PySem.W.Frag) (n : Nat) : Sp := fun vs H Q _ => ∃ v t u p, vs = [v, u] ∧ Tp K H v (tmD t) ∧ Tp K H u (tmD p) ∧ dep p ≤ n ∧ size p ≤ 1000 ∧ ∀ H', Same H H' → Q (.bl (fits t p)) H'
theorem ok_law_fits (T : Ty K mg C) : ∀ n, Gf P w K mg base "_law_fits" (n + 1) (sp_law_fits K n)
  | 0 => by
    refine T.d__law_fits.ok sc__law_fits (fun vs H Q E h => ?_) (fun f cdv A outer s H vs Q E hr h => ?_)
    · obtain ⟨v, t, u, p, rfl, _⟩ := h
      rfl
    · obtain ⟨v, t, u, p, rfl, _, _, hd, _⟩ := h
      have := dep_pos p
      omega
  | n + 1 => by
    have G__law_fits := ok_law_fits T n
    refine T.d__law_fits.ok sc__law_fits (fun vs H Q E h => ?_) (fun f cdv A outer s H vs Q E hr h => ?_)
    · obtain ⟨v, t, u, p, rfl, _⟩ := h
      rfl
    obtain ⟨v, ⟨tw, ts⟩, u, ⟨pw, ps⟩, rfl, hv, hu, hd, hz, k⟩ := h
    obtain ⟨a, b, xs, rfl, ha, hb, hx⟩ := tp_tmE hv
    obtain ⟨c, d, ys, rfl, hc, hd', hy⟩ := tp_tmE hu
    have hxl : xs.length = ts.length := by rw [hx.len, List.length_map]
    have hyl : ys.length = ps.length := by rw [hy.len, List.length_map]
    have hpl := sizes_len ps
    rw [size] at hz
    rw [fits] at k
    refine ⟨_, (pss_cons (ps_if (pt_cmpR op_eq (pe_ix ix_tup (pv 1) pe_int (fun _ _ => rfl)) pe_str (nomark _)) (pss_one (ps_ret pe_bl)) pss_nil)
      (pss_cons (ps_if (PW.pt (pw_or (pt_cmpR op_ne (pe_ix ix_tup (pv 0) pe_int (fun _ _ => rfl)) (pe_ix ix_tup (pv 1) pe_int (fun _ _ => rfl)) (nomark _)) (pw_or1 (pt_cmpR op_ne (pe_callB c_lenS rfl T.f_len PySem.boot_len (pa_cons (pe_ix ix_tup (pv 0) pe_int (fun _ _ => rfl)) pa_nil)) (pe_callB c_lenS rfl T.f_len PySem.boot_len (pa_cons (pe_ix ix_tup (pv 1) pe_int (fun _ _ => rfl)) pa_nil)) (nomark _))))) (pss_one (ps_ret pe_bl)) pss_nil)
      (pss_one (ps_ret (pe_cmpR (op_eqD hr.units) (pe_lc (own := [("_law_one", 2), ("_law_other", 3)]) rfl sc__law_fits.nd (RZ.pi_zipA rfl T.f_zip (pa_cons (pe_ix ix_tup (pv 0) pe_int (fun _ _ => rfl)) (pa_cons (pe_ix ix_tup (pv 1) pe_int (fun _ _ => rfl)) pa_nil))) (blkOk_by (own := [("_law_one", 2), ("_law_other", 3)]) (N := ["_law_term_here", "_law_pattern", "_law_one", "_law_other"]) (sc := defScope s__law_fits) (by decide +kernel)) (fun _ _ _ _ _ => (tupG_k (K := K) (n := 2) rfl rfl (pgs_cons (pg_name (i := 2) sc__law_fits.nd rfl (Or.inl rfl)) (pgs_cons (pg_name (i := 3) sc__law_fits.nd rfl (Or.inl rfl)) pgs_nil)))) (fun _ _ _ _ _ => (pts_one (pt_not (pt_val (pe_g G__law_fits (hr.mono (by omega)) (pa_cons (pv 2) (pa_cons (pv 3) pa_nil))))))) (fun _ _ _ _ _ => pe_int)) (pe_lst pa_nil) (nomark _)))))), ?_⟩
    try dsimp only [nox_K]
    refine rd_st (σ' := [some (.ref a), some (.ref c), none, none]) rfl ?_
    walk_at "w"
    refine rd_ixT hc (v := .str pw) rfl ?_
    walk_at "w"
    by_cases hw : pw = "_"
    · refine rd_dT hw ?_
      walk_at "w"
      rw [if_pos hw] at k
      exact k H (Same.refl H)
    rw [if_neg hw] at k
    refine rd_dF hw ?_
    walk_at "w"
    refine rd_ixT ha (v := .str tw) rfl ?_
    walk_at "w"
    refine rd_ixT hc (v := .str pw) rfl ?_
    walk_at "w"
    by_cases ht : tw = pw
    rotate_left
    · refine rd_ndF ht ?_
      walk_at "w"
      rw [decide_eq_false (show ¬ ((Tm.mk tw ts).w = pw ∧ (Tm.mk tw ts).ts.length = ps.length) from fun z => ht z.1), Bool.false_and] at k
      exact k H (Same.refl H)
    refine rd_ndT ht ?_
    walk_at "w"
    refine rd_ixT ha (v := .ref b) rfl ?_
    walk_at "w"
    refine rd_len (.inr hb) ?_
    walk_at "w"
    refine rd_ixT hc (v := .ref d) rfl ?_
    walk_at "w"
    refine rd_len (.inr hd') ?_
    walk_at "w"
    by_cases hl : ((xs.length : Nat) : Int) = (ys.length : Nat)
    rotate_left
    · refine rd_ndF hl ?_
      walk_at "w"
      rw [decide_eq_false (show ¬ ((Tm.mk tw ts).w = pw ∧ (Tm.mk tw ts).ts.length = ps.length) from fun z => hl (by have := z.2; show _ = _; rw [hxl, hyl]; exact congrArg Nat.cast this)), Bool.false_and] at k
      exact k H (Same.refl H)
    refine rd_ndT hl ?_
    walk_at "w"
    have hll : ts.length = ps.length := by omega
    rw [decide_eq_true (show (Tm.mk tw ts).w = pw ∧ (Tm.mk tw ts).ts.length = ps.length from ⟨ht, hll⟩), Bool.true_and] at k
    refine rd_ixT ha (v := .ref b) rfl ?_
    walk_at "w"
    refine rd_ixT hc (v := .ref d) rfl ?_
    refine ⟨_, _, _, _, rfl, .inr ⟨hb, hd', fun D hD => ?_⟩⟩
    refine lc_same (walk_zipT (xs := xs) (ys := ys) (n := ps.length) (by omega)) (fun i acc _ => ∃ is : List Int, acc = is.map V.int ∧ is.length ≤ i ∧ (is = [] ↔ ∀ j, j < i → ∀ c d, ts[j]? = some c → ps[j]? = some d → fits c d = true)) (by omega) hD (fun _ _ _ _ h _ => h) ⟨[], rfl, Nat.le_refl _, by simp⟩ (fun H' s => ⟨sqT_kp (kp_same s) hb, sqT_kp (kp_same s) hd'⟩) ?_ ?_
    · rintro i acc x H1 H2 hi hl s1 hD' ⟨is, rfl, hisl, his⟩ ⟨Ta, x1, y1, rfl, hTa, rfl, hx1, hy1⟩
      have st := same_new hTa (.tup [x1, y1])
      obtain ⟨t1, ht1, ht2⟩ := tps_tm (hx.kp (kp_same s1)) hx1
      obtain ⟨p1, hp1, hp2⟩ := tps_tm (hy.kp (kp_same s1)) hy1
      have hdp := dep_mem (List.mem_of_getElem? hp1)
      have hszp : size p1 ≤ sizes ps := by
        have := sizes_take ps (i + 1)
        rw [take_succ_get hp1, sizes_app, sizes_one] at this
        omega
      rw [dep] at hd
      refine rd_gtup (sqT_of upd_same) rfl ?_
      walk_at "w"
      refine ⟨rfl, ?_⟩
      walk_at "w"
      refine ⟨x1, t1, y1, p1, rfl, ht2.kp (kp_same st), hp2.kp (kp_same st), by omega, by omega, fun H3 s3 => ?_⟩
      walk_at "w"
      cases hf : fits t1 p1 with
      | true =>
        refine rd_nT ?_
        refine lc_skip (R := fun i acc _ => ∃ is : List Int, acc = is.map V.int ∧ is.length ≤ i ∧ (is = [] ↔ ∀ j, j < i → ∀ c d, ts[j]? = some c → ps[j]? = some d → fits c d = true)) hl hD' s1 (st.trans s3) ⟨is, rfl, by omega, ?_⟩
        rw [his]
        constructor
        · intro q j hj c d h1 h2
          by_cases hji : j = i
          · subst hji
            rw [ht1] at h1; rw [hp1] at h2; cases h1; cases h2; exact hf
          · exact q j (by omega) c d h1 h2
        · exact fun q j hj => q j (by omega)
      | false =>
        refine rd_nF ?_
        walk_at "w"
        refine lc_elt (R := fun i acc _ => ∃ is : List Int, acc = is.map V.int ∧ is.length ≤ i ∧ (is = [] ↔ ∀ j, j < i → ∀ c d, ts[j]? = some c → ps[j]? = some d → fits c d = true)) (by omega) hl hD' hD s1 (st.trans s3) (fun _ _ _ _ h _ => h) ⟨is ++ [1], by rw [List.map_append]; rfl, by rw [List.length_append]; simp; omega, ?_⟩
        constructor
        · intro q; simp at q
        · intro q
          have := q i (Nat.lt_succ_self i) t1 p1 ht1 hp1
          rw [hf] at this; cases this
    · rintro acc H1 s1 hD' hl1 ⟨is, rfl, hisl, his⟩
      walk_at "w"
      refine ⟨small (by simp), fun q hq => ?_⟩
      have sq := same_new hq (.lst [])
      refine rd_eqLn (is := is) (SqL.of (sq _ _ hD')) (SqL.of upd_same) ?_
      have := k _ (s1.trans sq)
      rw [show decide (is = []) = fitsL ts ps by
        rw [Bool.eq_iff_iff, decide_eq_true_iff, his, fitsL_iff ts ps hll]
        exact ⟨fun q j c d h1 h2 => q j (by have := (List.getElem?_eq_some_iff.mp h2).1; omega) c d h1 h2, fun q j _ c d h1 h2 => q j c d h1 h2⟩]
      exact this
def sp_law_pairs (K : PySem.W.Frag) (n : Nat) : Sp := fun vs H Q _ => ∃ v t u p, vs = [v, u] ∧ Tp K H v (tmD t) ∧ Tp K H u (tmD p) ∧ dep p ≤ n ∧ size p ≤ 1000 ∧ ∀ q H' ys, Same H H' → H' q = some (.lst ys) → Tps K H' ys ((prs t p).map fun r => .tuple [tmD r.1, tmD r.2]) → Q (.ref q) H'
theorem prs_len (t p : Tm) : (prs t p).length ≤ size p := by rw [← met_length]; exact met_len 0 t p
theorem ok_law_pairs (T : Ty K mg C) : ∀ n, Gf P w K mg base "_law_pairs" (n + 1) (sp_law_pairs K n)
  | 0 => by
    refine T.d__law_pairs.ok sc__law_pairs (fun vs H Q E h => ?_) (fun f cdv A outer s H vs Q E hr h => ?_)
    · obtain ⟨v, t, u, p, rfl, _⟩ := h
      rfl
    · obtain ⟨v, t, u, p, rfl, _, _, hd, _⟩ := h
      have := dep_pos p
      omega
  | n + 1 => by
    have G__law_pairs := ok_law_pairs T n
    refine T.d__law_pairs.ok sc__law_pairs (fun vs H Q E h => ?_) (fun f cdv A outer s H vs Q E hr h => ?_)
    · obtain ⟨v, t, u, p, rfl, _⟩ := h
      rfl
    obtain ⟨v, ⟨tw, ts⟩, u, ⟨pw, ps⟩, rfl, hv, hu, hd, hz, k⟩ := h
    have hv0 := hv
    have hu0 := hu
    obtain ⟨a, b, xs, rfl, ha, hb, hx⟩ := tp_tmE hv
    obtain ⟨c, d, ys, rfl, hc, hd', hy⟩ := tp_tmE hu
    have hxl : xs.length = ts.length := by rw [hx.len, List.length_map]
    have hyl : ys.length = ps.length := by rw [hy.len, List.length_map]
    have hpl := sizes_len ps
    rw [size] at hz
    rw [prs] at k
    refine ⟨_, (pss_cons (ps_if (pt_cmpR op_eq (pe_ix ix_tup (pv 1) pe_int (fun _ _ => rfl)) pe_str (nomark _)) (pss_one (ps_ret (pe_lst (pa_cons (pe_tup (pa_cons (pv 0) (pa_cons (pv 1) pa_nil))) pa_nil)))) pss_nil)
      (pss_cons (ps_set (i := 2) sc__law_pairs.nd rfl (Or.inl rfl) (pe_lst pa_nil))
      (pss_cons (ps_for PassesOwn.never rfl (RZ.pi_zipA rfl T.f_zip (pa_cons (pe_ix ix_tup (pv 0) pe_int (fun _ _ => rfl)) (pa_cons (pe_ix ix_tup (pv 1) pe_int (fun _ _ => rfl)) pa_nil))) (pg_tup (n := 2) rfl (pgs_cons (pg_name (i := 3) sc__law_pairs.nd rfl (Or.inl rfl)) (pgs_cons (pg_name (i := 4) sc__law_pairs.nd rfl (Or.inl rfl)) pgs_nil))) (pss_one (ps_set (i := 2) sc__law_pairs.nd rfl (Or.inl rfl) (pe_op op_cat (pv 2) (pe_g G__law_pairs (hr.mono (by omega)) (pa_cons (pv 3) (pa_cons (pv 4) pa_nil)))))))
      (pss_one (ps_ret (pv 2)))))), ?_⟩
    try dsimp only [nox_K]
    refine rd_st (σ' := [some (.ref a), some (.ref c), none, none, none]) rfl ?_
    walk_at "w"
    refine rd_ixT hc (v := .str pw) rfl ?_
    walk_at "w"
    by_cases hw : pw = "_"
    · refine rd_dT hw ?_
      walk_at "w"
      rw [if_pos hw] at k
      refine ⟨small (by simp), fun q hq => ?_⟩
      walk_at "w"
      refine ⟨small (by simp), fun q2 hq2 => ?_⟩
      have sq := same_new hq (.tup [.ref a, .ref c])
      have sq2 := same_new hq2 (.lst [.ref q])
      refine k q2 _ _ (sq.trans sq2) upd_same ?_
      rw [List.map_cons, List.map_nil]
      exact .cons ((Tp.tup (sqT_of upd_same) (.cons (hv0.kp (kp_same sq)) (.cons (hu0.kp (kp_same sq)) .nil))).kp (kp_same sq2)) .nil
    rw [if_neg hw] at k
    refine rd_dF hw ?_
    walk_at "w"
    refine ⟨small (by simp), fun l hl => ?_⟩
    walk_at "w"
    have s0 := same_new hl (.lst [])
    refine rd_ixT (sqT_kp (kp_same s0) ha) (v := .ref b) rfl ?_
    walk_at "w"
    refine rd_ixT (sqT_kp (kp_same s0) hc) (v := .ref d) rfl ?_
    walk_at "w"
    refine ⟨_, _, _, _, rfl, .inr ⟨sqT_kp (kp_same s0) hb, sqT_kp (kp_same s0) hd', ?_⟩⟩
    refine fo_it (walk_zipT (xs := xs) (ys := ys) (n := min ts.length ps.length) (by rw [hxl, hyl])) (fun i σ H' => ∃ l zs ov uv, σ = [some (.ref a), some (.ref c), some (.ref l), ov, uv] ∧ Same H H' ∧ H' l = some (.lst zs) ∧ Tps K H' zs ((prsL (ts.take i) (ps.take i)).map fun r => .tuple [tmD r.1, tmD r.2])) ?_ ?_ ?_ ?_
    · refine ⟨l, [], none, none, rfl, s0, upd_same, ?_⟩
      rw [List.take_zero, List.take_zero, prsL]
      · exact .nil
    · rintro i σ H' _ ⟨l, zs, ov, uv, _, s, _⟩
      exact ⟨sqT_kp (kp_same s) hb, sqT_kp (kp_same s) hd'⟩
    · rintro i x σ H1 H2 hi ⟨l, zs, ov, uv, rfl, s1, hl1, hzs⟩ ⟨Ta, x1, y1, rfl, hTa, rfl, hx1, hy1⟩
      have st := same_new hTa (.tup [x1, y1])
      obtain ⟨t1, ht1, ht2⟩ := tps_tm (hx.kp (kp_same s1)) hx1
      obtain ⟨p1, hp1, hp2⟩ := tps_tm (hy.kp (kp_same s1)) hy1
      have hdp := dep_mem (List.mem_of_getElem? hp1)
      have htp : sizes (ps.take i) + size p1 ≤ sizes ps := by
        have := sizes_take ps (i + 1)
        rw [take_succ_get hp1, sizes_app, sizes_one] at this
        exact this
      rw [dep] at hd
      refine rd_gtup (sqT_of upd_same) rfl ?_
      walk_at "w"
      refine ⟨x1, t1, y1, p1, rfl, ht2.kp (kp_same st), hp2.kp (kp_same st), by omega, by omega, fun q H3 ws s3 hq hws => ?_⟩
      walk_at "w"
      have hl3 := (st.trans s3) _ _ hl1
      have hwl : ws.length ≤ size p1 := by rw [hws.len, List.length_map]; exact prs_len t1 p1
      have hzl : zs.length ≤ sizes (ps.take i) := by
        rw [hzs.len, List.length_map]
        have h9 : ∀ (A B : List Tm), (prsL A B).length ≤ sizes B := by
          intro A
          induction A with
          | nil => intro B; cases B <;> simp [prsL]
          | cons a r ih =>
            intro B
            cases B with
            | nil => simp [prsL]
            | cons b q =>
              rw [prsL, sizes, List.length_append]
              have := ih q
              have := prs_len a b
              omega
        exact h9 _ _
      refine ⟨l, q, zs, ws, rfl, rfl, hl3, hq, small (by omega), fun q2 hq2 => ?_⟩
      walk_at "w"
      refine ⟨q2, _, _, _, rfl, (s1.trans (st.trans s3)).trans (same_new hq2 _), upd_same, ?_⟩
      rw [take_succ_get ht1, take_succ_get hp1, prsL_app _ _ _ _ (by rw [List.length_take, List.length_take]; omega), List.map_append]
      exact ((hzs.kp (kp_same (st.trans s3))).app hws).kp (kp_new hq2)
    · rintro σ H1 ⟨l, zs, ov, uv, rfl, s1, hl1, hzs⟩
      walk_at "w"
      rw [prsL_take] at hzs
      exact k l H1 zs s1 hl1 hzs
end
end FN
set_option maxHeartbeats 4000000
namespace FN
open PySem PySem.Spec PyProof.Rows L2
local macro_rules | `(tactic| walk_at "w") => `(tactic| repeat (with_reducible first
  | refine rd_seq ?_
  | refine rd_asg ?_
  | refine rd_name ?_
  | refine rd_ret ?_
  | refine rd_drop ?_
  | refine rd_if ?_
  | refine rd_next ?_
  | refine rd_var (by k_dflt rfl) ?_
  | refine rd_c ?_
  | refine rd_op ?_
  | refine rd_un ?_
  | refine rd_test ?_
  | refine rd_B ?_
  | refine rd_I0 ?_
  | refine rd_U ?_
  | refine rd_eqI ?_
  | refine rd_neI ?_
  | refine rd_eqS ?_
  | refine rd_neS ?_
  | refine rd_and ?_
  | refine rd_or ?_
  | refine rd_not ?_
  | refine rd_andV ?_
  | refine rd_orV ?_
  | refine rd_notV ?_
  | refine rd_ife ?_
  | refine rd_chain ?_
  | refine rd_exb ?_
  | refine rd_exi ?_
  | refine rd_nil ?_
  | refine rd_cons ?_
  | refine rd_CB ?_
  | refine rd_G ?_
  | refine rd_fld ?_
  | refine rd_sl ?_
  | refine rd_part ?_
  | refine rd_noPart ?_
  | refine rd_leaf ?_
  | refine rd_tup ?_
  | refine rd_lst ?_
  | refine rd_star ?_
  | refine rd_bm ?_
  | refine rd_bm0 ?_
  | refine rd_gsub ?_
  | refine rd_rev ?_
  | refine rd_gnil ?_
  | refine rd_gcons ?_
  | refine rd_yes ?_
  | refine rd_abs ?_
  | refine rd_max2 ?_
  | refine rd_min2 ?_
  | refine rd_int1 ?_
  | refine rd_int1b ?_
  | refine rd_inSign ?_
  | refine rd_niSign ?_
  | refine rd_isN ?_
  | refine rd_ntN ?_
  | refine rd_dcLst ?_
  | refine rd_dcTup ?_
  | refine rd_dcItems ?_
  | refine rd_lcTup ?_
  | refine rd_lcLst ?_
  | refine rd_lcStr ?_
  | refine rd_lcR1 ?_
  | refine rd_lcR2 ?_
  | refine rd_lcKeys ?_
  | refine rd_lcVals ?_
  | refine rd_lcItems ?_
  | refine rd_lcZip ?_
  | refine rd_forTup ?_
  | refine rd_forLst ?_
  | refine rd_forR1 ?_
  | refine rd_forR2 ?_
  | refine rd_forR3 ?_
  | refine rd_forZip ?_
  | refine rd_forItems ?_
  | refine rd_lcEnumT ?_
  | refine rd_forEnumT ?_
  | refine rd_oneStr ?_
  | refine rd_mkR ?_
  | refine rd_mk0 ?_
  | refine rd_mR ?_
  | refine rd_mN ?_
  | refine rd_pr ?_
  | refine rd_cmR ?_
  | refine rd_makeC ?_
  | refine rd_tM1 ?_
  | refine rd_fmtT ?_
  | refine ⟨rd_exs, ?_⟩
  | refine rd_listZip ?_
  | refine rd_lenSetS ?_
  | refine rd_sfld ?_
  | refine rd_jc ?_
  | refine rd_jn ?_
  | refine rd_par ?_
  | refine rd_par3 ?_
  | refine rd_dupd ?_
  | refine rd_disp ?_
  | refine rd_pc ?_
  | refine rd_pn ?_
  | refine rd_dni ?_
  | refine rd_dget ?_
  | refine rd_dget2 ?_
  | refine rd_dput ?_
  | refine rd_T ?_
  | refine rd_F ?_
  | refine rd_nT ?_
  | refine rd_nF ?_))
def pairD (r : Tm × Tm) : PyData := .tuple [tmD r.1, tmD r.2]
/-- an open leaf -/
def U : Tm := .mk "_" []
mutual
theorem pd_tm : ∀ t : Tm, pd (tmD t) = true
  | .mk w ts => by simp only [tmD, pd, pdAll, Bool.and_true]; exact pd_tmL ts
theorem pd_tmL : ∀ ts : List Tm, pdAll (tmDL ts) = true
  | [] => rfl
  | t :: r => by rw [tmDL, pdAll, pd_tm t, pd_tmL r]; rfl
end
mutual
theorem tmD_inj : ∀ a b : Tm, tmD a = tmD b → a = b
  | .mk v as, .mk w bs, h => by
    simp only [tmD, PyData.tuple.injEq, List.cons.injEq, PyData.str.injEq, and_true] at h
    rw [h.1, tmDL_inj as bs h.2]
theorem tmDL_inj : ∀ as bs : List Tm, tmDL as = tmDL bs → as = bs
  | [], [], _ => rfl
  | [], _ :: _, h => by simp [tmDL] at h
  | _ :: _, [], h => by simp [tmDL] at h
  | a :: as, b :: bs, h => by
    simp only [tmDL, List.cons.injEq] at h
    rw [tmD_inj a b h.1, tmDL_inj as bs h.2]
end
theorem eqv_tm (a b : Tm) : PyData.eqv (tmD a) (tmD b) = true ↔ a = b := by
  rw [pd_eqv _ _ (pd_tm a) (pd_tm b)]
  exact ⟨tmD_inj a b, fun h => by rw [h]⟩
mutual
theorem tm_can : ∀ t : Tm, Wok (nodes t) → PyData.canLay0 (tmD t) = true
  | .mk w ts, h => by
    rw [nodes] at h
    have h1 : PyData.strOk w = true := h _ List.mem_cons_self
    have h2 := tm_canL ts fun n hn => h n (List.mem_cons_of_mem _ hn)
    simp [tmD, PyData.canLay0, PyData.canLayAll0, h1, h2]
theorem tm_canL : ∀ ts : List Tm, Wok (nodesL ts) → PyData.canLayAll0 (tmDL ts) = true
  | [], _ => by simp [tmDL, PyData.canLayAll0]
  | t :: r, h => by
    rw [nodesL] at h
    have h1 := tm_can t fun n hn => h n (List.mem_append_left _ hn)
    have h2 := tm_canL r fun n hn => h n (List.mem_append_right _ hn)
    simp [tmDL, PyData.canLayAll0, h1, h2]
end
mutual
theorem tm_depth : ∀ t : Tm, PyData.depth (tmD t) ≤ 2 * dep t
  | .mk w ts => by
    have := tm_depthL ts
    simp only [tmD, PyData.depth, PyData.depthAll, dep]
    omega
theorem tm_depthL : ∀ ts : List Tm, PyData.depthAll (tmDL ts) ≤ 2 * depL ts
  | [] => by simp [tmDL, PyData.depthAll]
  | t :: r => by
    have h1 := tm_depth t
    have h2 := tm_depthL r
    simp only [tmDL, PyData.depthAll, depL]
    omega
end
theorem shaped_tm {t : Tm} (h : Wok (nodes t)) (d : dep t ≤ 32) : SeqAt.shaped (tmD t) = true := shaped_of (tm_can t h) (by have := tm_depth t; omega)
section
variable {K : PySem.W.Frag} {H : Hp} {Q : VK}
theorem rd_neTm {x y : V} {a b : Tm} (hx : Tp K H x (tmD a)) (hy : Tp K H y (tmD b)) (h1 : Wok (nodes a)) (h2 : Wok (nodes b)) (d1 : dep a ≤ 32) (d2 : dep b ≤ 32) (k : ∀ bo, (bo = true ↔ a = b) → Q (.bl (!bo)) H) : rNeD K x y H Q :=
  ⟨_, _, hx.dp, hy.dp, shaped_tm h1 d1, shaped_tm h2 d2, k _ (eqv_tm a b)⟩
end
/-! ### put and fill, plainly -/
mutual
theorem wok_put : ∀ (t : Tm) (p : Nat) (o : Tm), Wok (nodes t) → Wok (nodes o) → Wok (nodes (put t p o))
  | .mk w ts, p, o, h, ho => by
    rw [put]
    split
    · exact ho
    · rw [nodes] at h ⊢
      intro n hn
      rcases List.mem_cons.mp hn with rfl | hn
      · exact h (w, ts.length) List.mem_cons_self
      · exact wok_putL ts (p - 1) o (fun n hn => h n (List.mem_cons_of_mem _ hn)) ho n hn
theorem wok_putL : ∀ (ts : List Tm) (p : Nat) (o : Tm), Wok (nodesL ts) → Wok (nodes o) → Wok (nodesL (putL ts p o))
  | [], p, o, _, _ => by rw [putL, nodesL]; intro n hn; cases hn
  | t :: r, p, o, h, ho => by
    rw [nodesL] at h
    have h1 : Wok (nodes t) := fun n hn => h n (List.mem_append_left _ hn)
    have h2 : Wok (nodesL r) := fun n hn => h n (List.mem_append_right _ hn)
    rw [putL]
    split
    · rw [nodesL]
      intro n hn
      rcases List.mem_append.mp hn with hn | hn
      · exact wok_put t p o h1 ho n hn
      · exact h2 n hn
    · rw [nodesL]
      intro n hn
      rcases List.mem_append.mp hn with hn | hn
      · exact h1 n hn
      · exact wok_putL r _ o h2 ho n hn
end
mutual
theorem dep_put : ∀ (t : Tm) (p : Nat) (o : Tm), dep (put t p o) ≤ dep t + dep o
  | .mk w ts, p, o => by
    rw [put]
    split
    · omega
    · rw [dep, dep]; have := dep_putL ts (p - 1) o; omega
theorem dep_putL : ∀ (ts : List Tm) (p : Nat) (o : Tm), depL (putL ts p o) ≤ depL ts + dep o
  | [], p, o => by rw [putL, depL]; omega
  | t :: r, p, o => by
    rw [putL]
    split
    · rw [depL, depL]; have := dep_put t p o; omega
    · rw [depL, depL]; have := dep_putL r (p - size t) o; omega
end
theorem wok_U : Wok (nodes U) := fun n hn => by
  simp only [U, nodes, nodesL, List.mem_singleton] at hn
  subst hn
  decide +kernel
theorem dep_U : dep U = 1 := by decide
/-- the law's word for is_behind -/
def LB (t : Tm) (p : Nat) (k o : Tm) : Prop := ∃ s, At o p s ∧ put t p U = put o p U ∧ fits s k = true ∧ ∀ x ∈ prs s k, lz "_" 0 (nodes x.1) = [] ∧ lz "#" 0 (nodes x.1) = []
section
variable {P : Program} {w : World} {K : PySem.W.Frag} {mg : Str → Option Value} {base : Heap} {C : Ad}
/-- the law's book -/
def LBook (K : PySem.W.Frag) (H : Hp) (v : Addr) (S : List Nd) (R : List (Tm × Tm)) : Prop := ∃ sd rl xs, H v = some (.dK [(.inr "symbols", .ref sd), (.inr "rules", .ref rl)]) ∧ H sd = some (.dK (S.map kvN)) ∧ H rl = some (.lst xs) ∧ Tps K H xs (R.map pairD)
theorem LBook.same {H H' : Hp} {v : Addr} {S : List Nd} {R : List (Tm × Tm)} (h : LBook K H v S R) (s : Same H H') : LBook K H' v S R := by
  obtain ⟨sd, rl, xs, h1, h2, h3, h4⟩ := h
  exact ⟨sd, rl, xs, s _ _ h1, s _ _ h2, s _ _ h3, h4.kp (kp_same s)⟩
theorem lb_rules {H : Hp} {v sd rl : Addr} (h : H v = some (.dK [(.inr "symbols", .ref sd), (.inr "rules", .ref rl)])) : DGet H v (.str "rules") (some (.ref rl)) := dgetS h (by rw [valV_neg (fun q => absurd (inr_inj q) (by decide)), valV_pos rfl])
theorem lb_symbols {H : Hp} {v sd rl : Addr} (h : H v = some (.dK [(.inr "symbols", .ref sd), (.inr "rules", .ref rl)])) : DGet H v (.str "symbols") (some (.ref sd)) := dgetS h (by rw [valV_pos rfl])
theorem tps_pair {H : Hp} {xs : List V} {R : List (Tm × Tm)} {i : Nat} {r : Tm × Tm} (h : Tps K H xs (R.map pairD)) (e : R[i]? = some r) : ∃ a x y, xs[i]? = some (.ref a) ∧ SqT K H a [x, y] ∧ Tp K H x (tmD r.1) ∧ Tp K H y (tmD r.2) := by
  obtain ⟨v, h1, h2⟩ := h.get (i := i) (d := pairD r) (by rw [List.getElem?_map, e]; rfl)
  obtain ⟨a, ys, rfl, h3, h4⟩ := h2.tupE
  cases h4 with
  | cons e1 q =>
    cases q with
    | cons e2 q => cases q; exact ⟨a, _, _, h1, h3, e1, e2⟩
def sp_law_filled (K : PySem.W.Frag) (n : Nat) : Sp := fun vs H Q _ => ∃ v t d xs fs, vs = [v, .ref d] ∧ Tp K H v (tmD t) ∧ dep t ≤ n ∧ size t ≤ 1000 ∧ H d = some (.lst xs) ∧ Tps K H xs (fs.map tmD) ∧ cf t ≤ fs.length ∧
  ∀ y H' xs', FrD d H H' → H' d = some (.lst xs') → Tps K H' xs' ((fs.drop (cf t)).map tmD) → Tp K H' y (tmD (fill t fs)) → Q y H'
theorem ok_law_filled (T : Ty K mg C) : ∀ n, Gf P w K mg base "_law_filled" (n + 1) (sp_law_filled K n)
  | 0 => by
    refine T.d__law_filled.ok sc__law_filled (fun vs H Q E h => ?_) (fun f cdv A outer s H vs Q E hr h => ?_)
    · obtain ⟨v, t, d, xs, fs, rfl, _⟩ := h
      rfl
    · obtain ⟨v, t, d, xs, fs, rfl, _, hd, _⟩ := h
      have := dep_pos t
      omega
  | n + 1 => by
    have G__law_filled := ok_law_filled T n
    refine T.d__law_filled.ok sc__law_filled (fun vs H Q E h => ?_) (fun f cdv A outer s H vs Q E hr h => ?_)
    · obtain ⟨v, t, d, xs, fs, rfl, _⟩ := h
      rfl
    obtain ⟨v, ⟨tw, ts⟩, d, xs, fs, rfl, hv, hd, hz, hdl, hfs, hcf, k⟩ := h
    obtain ⟨a, b, zs, rfl, ha, hb, hx⟩ := tp_tmE hv
    have hzl : zs.length = ts.length := by rw [hx.len, List.length_map]
    have hxl : xs.length = fs.length := by rw [hfs.len, List.length_map]
    have htl := sizes_len ts
    rw [size] at hz
    rw [fill] at k
    rw [cf] at k hcf
    refine ⟨_, (pss_cons (ps_if (pt_cmpR op_eq (pe_ix ix_tup (pv 0) pe_int (fun _ _ => rfl)) pe_str (nomark _)) (pss_one (ps_ret (pe_bm PySem.F.plainAttrs_list PySem.F.slot_list_pop PySem.F.type_list_pop mt_popAt (pv 1) (pa_cons pe_int pa_nil)))) pss_nil)
      (pss_one (ps_ret (pe_tup (pa_cons (pe_ix ix_tup (pv 0) pe_int (fun _ _ => rfl)) (pa_cons (pe_callTy c_tupS rfl T.f_tuple (by decide +kernel) (pa_cons (pe_lc (own := [("_law_one", 2)]) rfl sc__law_filled.nd (pi_tup (pe_ix ix_tup (pv 0) pe_int (fun _ _ => rfl))) (blkOk_by (own := [("_law_one", 2)]) (N := ["_law_term_here", "_law_fillings", "_law_one"]) (sc := defScope s__law_filled) (by decide +kernel)) (fun _ _ _ _ _ => (pg_name (i := 2) sc__law_filled.nd rfl (Or.inl rfl))) (fun _ _ _ _ _ => pts_nil) (fun _ _ _ _ _ => (pe_g G__law_filled (hr.mono (by omega)) (pa_cons (pv 2) (pa_cons (pv 1) pa_nil))))) pa_nil)) pa_nil)))))), ?_⟩
    try dsimp only [nox_K]
    refine rd_st (σ' := [some (.ref a), some (.ref d), none]) rfl ?_
    walk_at "w"
    refine rd_ixT ha (v := .str tw) rfl ?_
    walk_at "w"
    by_cases hw : tw = "_"
    · rw [if_pos hw] at k hcf
      rw [if_pos hw] at k
      refine rd_dT hw ?_
      walk_at "w"
      refine ⟨tyV_l (SqL.of hdl), ?_⟩
      walk_at "w"
      obtain ⟨g, gs, rfl⟩ : ∃ g gs, fs = g :: gs := by
        cases fs with
        | nil => simp at hcf
        | cons g gs => exact ⟨g, gs, rfl⟩
      cases hfs with
      | @cons y ys _ _ hy hys =>
      refine ⟨d, y :: ys, 0, 0, y, rfl, rfl, hdl, by decide, by decide, ?_, rfl, ?_⟩
      · exact (ixN_seq (ixN_nat (j := 0) (by simp))).1
      · refine k y _ ys FrD.upd (by rw [upd_same]; rfl) ?_ ?_
        · exact hys.kp (kp_lst hdl)
        · exact hy.kp (kp_lst hdl)
    rw [if_neg hw] at k hcf
    rw [if_neg hw] at k
    refine rd_dF hw ?_
    walk_at "w"
    refine rd_ixT ha (v := .str tw) rfl ?_
    walk_at "w"
    refine rd_ixT ha (v := .ref b) rfl ?_
    refine rd_oneTup hb fun D hD => ?_
    have hDd : D ≠ d := (ne_of_none hdl hD).symm
    refine lc_gen (walk_tup (xs := zs)) (fun i acc H' => FrD d H H' ∧ ∃ xs', H' d = some (.lst xs') ∧ Tps K H' xs' ((fs.drop (cfL (ts.take i))).map tmD) ∧ Tps K H' acc ((fillL (ts.take i) fs).map tmD)) (by omega) ?_ (fun i acc H' r => sqT_kp (r.1.kp hdl) hb) ?_ ?_
    · refine ⟨FrD.of (same_new hD _), xs, same_new hD _ _ _ hdl, ?_, ?_⟩
      · rw [List.take_zero, cfL, List.drop_zero]; exact hfs.kp (kp_new hD)
      · rw [List.take_zero, fillL]; exact .nil
    · rintro i acc x H2 H1 hi hal hD' ⟨fr, xs', hd1, hx1, hacc⟩ ⟨rfl, hz1⟩
      obtain ⟨t1, ht1, ht2⟩ := tps_tm (hx.kp (fr.kp hdl)) hz1
      have hdp := dep_mem (List.mem_of_getElem? ht1)
      rw [dep] at hd
      have htk := take_succ_get ht1
      have hs1 : sizes (ts.take (i + 1)) ≤ sizes ts := sizes_take ts (i + 1)
      have hs2 : size t1 ≤ sizes (ts.take (i + 1)) := by rw [htk, sizes_app, sizes_one]; omega
      have hc1 : cfL (ts.take (i + 1)) = cfL (ts.take i) + cf t1 := by rw [htk, cfL_app, cfL, cfL]; omega
      have hc2 := cfL_take ts (i + 1)
      walk_at "w"
      refine ⟨rfl, ?_⟩
      walk_at "w"
      refine ⟨x, t1, d, xs', fs.drop (cfL (ts.take i)), rfl, ht2, by omega, by omega, hd1, hx1, by rw [List.length_drop]; omega, fun y H3 xs3 fr3 hd3 hx3 hy => ?_⟩
      have hD3 : H3 D = some (.lst acc) := fr3 _ _ hDd hD'
      refine ⟨acc, hD3, smallL (by omega), acc ++ [y], upd_same, by rw [List.length_append]; simp; omega, ?_, xs3, ?_, ?_, ?_⟩
      · exact fun a o n e => by rw [upd_ne (ne_of_none e hD)]; exact (fr.trans fr3) a o n e
      · rw [upd_ne hDd.symm]; exact hd3
      · rw [hc1, ← List.drop_drop]; exact hx3.kp (kp_lst hD3)
      · rw [htk, fillL_app, List.map_append]
        exact ((hacc.kp (fr3.kp hd1)).app (.cons hy .nil)).kp (kp_lst hD3)
    · rintro acc H1 hD' hal ⟨fr, xs', hd1, hx1, hacc⟩
      walk_at "w"
      refine rd_tupS (SqL.of hD') fun q hq => ?_
      walk_at "w"
      refine ⟨small (by simp), fun q2 hq2 => ?_⟩
      have sq := same_new hq (.tup acc)
      have sq2 := same_new hq2 (.tup [.str tw, .ref q])
      rw [hzl, List.take_length] at hx1 hacc
      refine k _ _ xs' (fr.trans (FrD.of (sq.trans sq2))) ((sq.trans sq2) _ _ hd1) (hx1.kp (kp_same (sq.trans sq2))) ?_
      exact tp_tm (sqT_of upd_same) (sqT_kp (kp_same sq2) (sqT_of upd_same)) (hacc.kp (kp_same (sq.trans sq2)))
end
end FN
set_option maxHeartbeats 4000000
namespace FN
open PySem PySem.Spec PyProof.Rows L2
local macro_rules | `(tactic| walk_at "w") => `(tactic| repeat (with_reducible first
  | refine rd_seq ?_
  | refine rd_asg ?_
  | refine rd_name ?_
  | refine rd_ret ?_
  | refine rd_drop ?_
  | refine rd_if ?_
  | refine rd_next ?_
  | refine rd_var (by k_dflt rfl) ?_
  | refine rd_c ?_
  | refine rd_op ?_
  | refine rd_un ?_
  | refine rd_test ?_
  | refine rd_B ?_
  | refine rd_I0 ?_
  | refine rd_U ?_
  | refine rd_eqI ?_
  | refine rd_neI ?_
  | refine rd_eqS ?_
  | refine rd_neS ?_
  | refine rd_and ?_
  | refine rd_or ?_
  | refine rd_not ?_
  | refine rd_andV ?_
  | refine rd_orV ?_
  | refine rd_notV ?_
  | refine rd_ife ?_
  | refine rd_chain ?_
  | refine rd_exb ?_
  | refine rd_exi ?_
  | refine rd_nil ?_
  | refine rd_cons ?_
  | refine rd_CB ?_
  | refine rd_G ?_
  | refine rd_fld ?_
  | refine rd_sl ?_
  | refine rd_part ?_
  | refine rd_noPart ?_
  | refine rd_leaf ?_
  | refine rd_tup ?_
  | refine rd_lst ?_
  | refine rd_star ?_
  | refine rd_bm ?_
  | refine rd_bm0 ?_
  | refine rd_gsub ?_
  | refine rd_rev ?_
  | refine rd_gnil ?_
  | refine rd_gcons ?_
  | refine rd_yes ?_
  | refine rd_abs ?_
  | refine rd_max2 ?_
  | refine rd_min2 ?_
  | refine rd_int1 ?_
  | refine rd_int1b ?_
  | refine rd_inSign ?_
  | refine rd_niSign ?_
  | refine rd_isN ?_
  | refine rd_ntN ?_
  | refine rd_dcLst ?_
  | refine rd_dcTup ?_
  | refine rd_dcItems ?_
  | refine rd_lcTup ?_
  | refine rd_lcLst ?_
  | refine rd_lcStr ?_
  | refine rd_lcR1 ?_
  | refine rd_lcR2 ?_
  | refine rd_lcKeys ?_
  | refine rd_lcVals ?_
  | refine rd_lcItems ?_
  | refine rd_lcZip ?_
  | refine rd_forTup ?_
  | refine rd_forLst ?_
  | refine rd_forR1 ?_
  | refine rd_forR2 ?_
  | refine rd_forR3 ?_
  | refine rd_forZip ?_
  | refine rd_forItems ?_
  | refine rd_lcEnumT ?_
  | refine rd_forEnumT ?_
  | refine rd_oneStr ?_
  | refine rd_mkR ?_
  | refine rd_mk0 ?_
  | refine rd_mR ?_
  | refine rd_mN ?_
  | refine rd_pr ?_
  | refine rd_cmR ?_
  | refine rd_makeC ?_
  | refine rd_tM1 ?_
  | refine rd_fmtT ?_
  | refine ⟨rd_exs, ?_⟩
  | refine rd_listZip ?_
  | refine rd_lenSetS ?_
  | refine rd_sfld ?_
  | refine rd_jc ?_
  | refine rd_jn ?_
  | refine rd_par ?_
  | refine rd_par3 ?_
  | refine rd_dupd ?_
  | refine rd_disp ?_
  | refine rd_pc ?_
  | refine rd_pn ?_
  | refine rd_dni ?_
  | refine rd_dget ?_
  | refine rd_dget2 ?_
  | refine rd_dput ?_
  | refine rd_T ?_
  | refine rd_F ?_
  | refine rd_nT ?_
  | refine rd_nF ?_))
section
variable {P : Program} {w : World} {K : PySem.W.Frag} {mg : Str → Option Value} {base : Heap} {C : Ad}
def sp_law_rules_at (K : PySem.W.Frag) : Sp := fun vs H Q _ => ∃ b v S R t, vs = [.ref b, v] ∧ LBook K H b S R ∧ Tp K H v (tmD t) ∧ R.length ≤ 6 ∧ (∀ r ∈ R, size r.1 ≤ 40) ∧ ∀ q H', Same H H' → H q = none → H' q = some (.lst ((rat t 0 R).map vI)) → Q (.ref q) H'
theorem ok_law_rules_at (T : Ty K mg C) : Gf P w K mg base "_law_rules_at" 42 (sp_law_rules_at K) := by
  have G__law_fits := ok_law_fits (P := P) (w := w) (base := base) T 40
  refine T.d__law_rules_at.ok sc__law_rules_at (fun vs H Q E h => ?_) (fun f cdv A outer s H vs Q E hr h => ?_)
  · obtain ⟨b, v, S, R, t, rfl, _⟩ := h
    rfl
  obtain ⟨b, v, S, R, t, rfl, LB, hv, hRl, hRz, k⟩ := h
  obtain ⟨sd, rl, xs, hb, hsd, hrl, hx⟩ := LB
  have hxl : xs.length = R.length := by rw [hx.len, List.length_map]
  refine ⟨_, (pss_one (ps_ret (pe_lc (own := [("_law_at", 2)]) rfl sc__law_rules_at.nd (pi_range1 rfl T.f_range (pa_cons (pe_callB c_lenS rfl T.f_len PySem.boot_len (pa_cons (pe_dget (hu1 hr) (pv 0) pe_str (fun _ _ => rfl)) pa_nil)) pa_nil)) (blkOk_by (own := [("_law_at", 2)]) (N := ["_law_book_here", "_law_term_here", "_law_at"]) (sc := defScope s__law_rules_at) (by decide +kernel)) (fun _ _ _ _ _ => (pg_name (i := 2) sc__law_rules_at.nd rfl (Or.inl rfl))) (fun _ _ _ _ _ => (pts_one (pt_val (pe_g G__law_fits (hr.mono (by decide)) (pa_cons (pv 1) (pa_cons (pe_ix (ixT_k (K := K) rfl) (pe_ix (ixL_k (K := K) rfl) (pe_dget (hu1 hr) (pv 0) pe_str (fun _ _ => rfl)) (pv 2) (fun _ _ => rfl)) pe_int (fun _ _ => rfl)) pa_nil)))))) (fun _ _ _ _ _ => (pv 2))))), ?_⟩
  try dsimp only [nox_K]
  refine rd_st (σ' := [some (.ref b), some v, none]) rfl ?_
  walk_at "w"
  refine ⟨b, _, rfl, lb_rules hb, ?_⟩
  walk_at "w"
  refine rd_len (.inl (SqL.of hrl)) ?_
  refine ⟨_, rfl, by omega, by omega, fun D hD => ?_⟩
  rw [show ((xs.length : Nat) : Int).toNat = R.length by omega]
  refine lc_same walk_range (fun i acc _ => acc = (rat t 0 (R.take i)).map vI) (by omega) hD (fun _ _ _ _ h _ => h) rfl (fun _ _ => trivial) ?_ ?_
  · rintro i acc x H1 H2 hi hl s1 hD' rfl ⟨rfl, rfl⟩
    have ei : (0 : Int) + (i : Nat) = ((i : Nat) : Int) := by omega
    dsimp only
    rw [ei]
    have hri : R[i]? = some (R[i]'(by omega)) := List.getElem?_eq_getElem (by omega)
    have htk := take_succ_get hri
    have hrz := hRz _ (List.mem_of_getElem? hri)
    obtain ⟨pa, x1, x2, hpx, hp, h1, h2⟩ := tps_pair (hx.kp (kp_same s1)) hri
    generalize R[i]'(by omega) = r at *
    walk_at "w"
    refine ⟨rfl, ?_⟩
    walk_at "w"
    refine ⟨b, _, rfl, lb_rules (s1 _ _ hb), ?_⟩
    walk_at "w"
    refine rd_ixL (SqL.of (s1 _ _ hrl)) (atI_nat hpx) ?_
    walk_at "w"
    refine rd_ixT hp (v := x1) rfl ?_
    walk_at "w"
    refine ⟨v, t, x1, r.1, rfl, hv.kp (kp_same s1), h1, Nat.le_trans (dep_size _) hrz, by omega, fun H3 s3 => ?_⟩
    refine ⟨_, rfl, ?_⟩
    have hil : (R.take i).length = i := by rw [List.length_take]; omega
    cases hf : fits t r.1 with
    | true =>
      refine rd_T ?_
      walk_at "w"
      refine lc_elt (R := fun i acc _ => acc = (rat t 0 (R.take i)).map vI) (by omega) hl hD' hD s1 s3 (fun _ _ _ _ h _ => h) ?_
      rw [htk, rat_app, List.map_append, hil, Nat.zero_add, rat, if_pos hf]; rfl
    | false =>
      refine rd_F ?_
      refine lc_skip (R := fun i acc _ => acc = (rat t 0 (R.take i)).map vI) hl hD' s1 s3 ?_
      rw [htk, rat_app, List.map_append, hil, Nat.zero_add, rat, if_neg (by rw [hf]; decide), rat]
      simp
  · rintro acc H1 s1 hD' hl1 rfl
    rw [List.take_length] at hD'
    exact k D H1 s1 hD hD'
def sp_law_redexes (K : PySem.W.Frag) : Sp := fun vs H Q _ => ∃ b v S R t, vs = [.ref b, v] ∧ LBook K H b S R ∧ Tp K H v (tmD t) ∧ R.length ≤ 6 ∧ (∀ r ∈ R, size r.1 ≤ 40) ∧ size t ≤ 40 ∧ ∀ q H', Same H H' → H' q = some (.lst ((rdx R t).map vI)) → Q (.ref q) H'
theorem ok_law_redexes (T : Ty K mg C) : Gf P w K mg base "_law_redexes" 43 (sp_law_redexes K) := by
  have G__law_parts := ok_law_parts (P := P) (w := w) (base := base) T 40
  have G__law_rules_at := ok_law_rules_at (P := P) (w := w) (base := base) T
  refine T.d__law_redexes.ok sc__law_redexes (fun vs H Q E h => ?_) (fun f cdv A outer s H vs Q E hr h => ?_)
  · obtain ⟨b, v, S, R, t, rfl, _⟩ := h
    rfl
  obtain ⟨b, v, S, R, t, rfl, LB, hv, hRl, hRz, hz, k⟩ := h
  refine ⟨_, (pss_cons (ps_set (i := 2) sc__law_redexes.nd rfl (Or.inr rfl) (pe_g G__law_parts (hr.mono (by decide)) (pa_cons (pv 1) pa_nil)))
    (pss_one (ps_ret (pe_lc (own := [("_law_at", 3)]) rfl sc__law_redexes.nd (pi_range1 rfl T.f_range (pa_cons (pe_callB c_lenS rfl T.f_len PySem.boot_len (pa_cons (pv 2) pa_nil)) pa_nil)) (blkOk_by (own := [("_law_at", 3)]) (N := ["_law_book_here", "_law_term_here", "_law_rows", "_law_at"]) (sc := defScope s__law_redexes) (by decide +kernel)) (fun _ _ _ _ _ => (pg_name (i := 3) sc__law_redexes.nd rfl (Or.inl rfl))) (fun _ _ _ _ _ => (pts_one (pt_cmpR (neD_k (K := K) rfl hr.units) (pe_g G__law_rules_at (hr.mono (by decide)) (pa_cons (pv 0) (pa_cons (pe_ix (ixL_k (K := K) rfl) (pv 2) (pv 3) (fun _ _ => rfl)) pa_nil))) (pe_lst pa_nil) (nomark _)))) (fun _ _ _ _ _ => (pv 3)))))), ?_⟩
  try dsimp only [nox_K]
  refine rd_st (σ' := [some (.ref b), some v, none, none]) rfl ?_
  walk_at "w"
  refine ⟨v, t, rfl, hv, Nat.le_trans (dep_size t) hz, by omega, fun l H1 ys s1 hl hy => ?_⟩
  walk_at "w"
  have hyl : ys.length = size t := by rw [hy.len, List.length_map, parts_length]
  refine rd_len (.inl (SqL.of hl)) ?_
  refine ⟨_, rfl, by omega, by omega, fun D hD => ?_⟩
  rw [show ((ys.length : Nat) : Int).toNat = size t by omega]
  refine lc_same walk_range (fun i acc _ => acc = (rdxL R 0 ((parts t).take i)).map vI) (by omega) hD (fun _ _ _ _ h _ => h) rfl (fun _ _ => trivial) ?_ ?_
  · rintro i acc x H2 H3 hi hl2 s2 hD' rfl ⟨rfl, rfl⟩
    have ei : (0 : Int) + (i : Nat) = ((i : Nat) : Int) := by omega
    dsimp only
    rw [ei]
    obtain ⟨s, hs⟩ := at_of hi
    have hpt := hs.part
    have htk := take_succ_get hpt
    obtain ⟨nv, hnv, hnd⟩ : ∃ v, ys[i]? = some v ∧ Tp K H3 v (tmD s) := (hy.kp (kp_same s2)).get (i := i) (by rw [List.getElem?_map, hpt]; rfl)
    walk_at "w"
    refine ⟨rfl, ?_⟩
    walk_at "w"
    refine rd_ixL (SqL.of (s2 _ _ hl)) (atI_nat hnv) ?_
    walk_at "w"
    refine ⟨b, nv, S, R, s, rfl, LB.same (s1.trans s2), hnd, hRl, hRz, fun q H4 s4 _ hq => ?_⟩
    walk_at "w"
    refine ⟨small (by simp), fun q2 hq2 => ?_⟩
    have sq := same_new hq2 (.lst [])
    have hq' := sq _ _ hq
    rw [map_vI] at hq'
    refine rd_neLn (SqL.of hq') (SqL.of upd_same) ?_
    walk_at "w"
    have hil : ((parts t).take i).length = i := by rw [List.length_take, parts_length]; omega
    by_cases hf : rat s 0 R = []
    · refine rd_ndT (by rw [hf]; rfl) ?_
      refine lc_skip (R := fun i acc _ => acc = (rdxL R 0 ((parts t).take i)).map vI) hl2 hD' s2 (s4.trans sq) ?_
      rw [htk, rdxL_app, List.map_append, hil, Nat.zero_add, rdxL, if_pos hf, rdxL]
      simp
    · refine rd_ndF (fun z => hf (List.map_eq_nil_iff.mp z)) ?_
      walk_at "w"
      refine lc_elt (R := fun i acc _ => acc = (rdxL R 0 ((parts t).take i)).map vI) (by omega) hl2 hD' hD s2 (s4.trans sq) (fun _ _ _ _ h _ => h) ?_
      rw [htk, rdxL_app, List.map_append, hil, Nat.zero_add, rdxL, if_neg hf]; rfl
  · rintro acc H2 s2 hD' hl2 rfl
    refine k D H2 (s1.trans s2) ?_
    rw [hD', show (parts t).take (size t) = parts t by rw [← parts_length, List.take_length]]; rfl
theorem Wok.sub {t s : Tm} {p : Nat} (h : Wok (nodes t)) (a : At t p s) : Wok (nodes s) := fun n hn => h n (a.sub n hn)
theorem prs_at {s k : Tm} {x : Tm × Tm} (h : x ∈ prs s k) : ∃ p, At s p x.1 := by
  obtain ⟨m, hm⟩ := List.mem_iff_getElem?.mp h
  have hml := (List.getElem?_eq_some_iff.mp hm).1
  rw [← met_length] at hml
  obtain ⟨s', q, h1, h2⟩ := met_at (List.getElem?_eq_getElem hml)
  rw [hm] at h2
  cases h2
  exact ⟨_, h1⟩
def sp_law_is_behind (K : PySem.W.Frag) : Sp := fun vs H Q _ => ∃ v t p u k c o, vs = [v, vI p, u, c] ∧ Tp K H v (tmD t) ∧ Tp K H u (tmD k) ∧ Tp K H c (tmD o) ∧ size t ≤ 40 ∧ size k ≤ 40 ∧ size o ≤ 40 ∧ Wok (nodes t) ∧ Wok (nodes o) ∧ dep t ≤ 30 ∧ dep o ≤ 30 ∧ p < size t ∧
  ∀ bo H', (bo = true ↔ LB t p k o) → Same H H' → Q (.bl bo) H'
theorem ok_law_is_behind (T : Ty K mg C) : Gf P w K mg base "_law_is_behind" 83 (sp_law_is_behind K) := by
  have G__law_parts := ok_law_parts (P := P) (w := w) (base := base) T 40
  have G__law_put := ok_law_put (P := P) (w := w) (base := base) T 40
  have G__law_fits := ok_law_fits (P := P) (w := w) (base := base) T 40
  have G__law_pairs := ok_law_pairs (P := P) (w := w) (base := base) T 40
  have G__law_leaves := ok_law_leaves (P := P) (w := w) (base := base) T
  refine T.d__law_is_behind.ok sc__law_is_behind (fun vs H Q E h => ?_) (fun f cdv A outer s H vs Q E hr h => ?_)
  · obtain ⟨v, t, p, u, k, c, o, rfl, _⟩ := h
    rfl
  obtain ⟨v, t, p, u, kk, c, o, rfl, hv, hu, hc, hz, hkz, hoz, htw, how, htd, hod, hp, k⟩ := h
  refine ⟨_, (pss_cons (ps_set (i := 4) sc__law_is_behind.nd rfl (Or.inl rfl) (pe_g G__law_parts (hr.mono (by decide)) (pa_cons (pv 3) pa_nil)))
    (pss_cons (ps_if (PW.pt (pw_or (pt_cmpR op_ge (pv 1) (pe_callB c_lenS rfl T.f_len PySem.boot_len (pa_cons (pv 4) pa_nil)) (nomark _)) (pw_or1 (pt_cmpR (op_neD hr.units) (pe_g G__law_put (hr.mono (by decide)) (pa_cons (pv 0) (pa_cons (pv 1) (pa_cons (pe_tup (pa_cons pe_str (pa_cons (pe_tup pa_nil) pa_nil))) pa_nil)))) (pe_g G__law_put (hr.mono (by decide)) (pa_cons (pv 3) (pa_cons (pv 1) (pa_cons (pe_tup (pa_cons pe_str (pa_cons (pe_tup pa_nil) pa_nil))) pa_nil)))) (nomark _))))) (pss_one (ps_ret pe_bl)) pss_nil)
    (pss_cons (ps_if (pt_not (pt_val (pe_g G__law_fits (hr.mono (by decide)) (pa_cons (pe_ix ix_list (pv 4) (pv 1) (fun _ _ => rfl)) (pa_cons (pv 2) pa_nil))))) (pss_one (ps_ret pe_bl)) pss_nil)
    (pss_cons (ps_for PassesOwn.never rfl (pi_list (pe_g G__law_pairs (hr.mono (by decide)) (pa_cons (pe_ix ix_list (pv 4) (pv 1) (fun _ _ => rfl)) (pa_cons (pv 2) pa_nil)))) (pg_tup (n := 2) rfl (pgs_cons (pg_name (i := 5) sc__law_is_behind.nd rfl (Or.inl rfl)) (pgs_cons (pg_name (i := 6) sc__law_is_behind.nd rfl (Or.inl rfl)) pgs_nil))) (pss_one (ps_if (pt_cmpR (op_neD hr.units) (pe_op op_cat (pe_g G__law_leaves (hr.mono (by decide)) (pa_cons (pv 5) (pa_cons pe_str pa_nil))) (pe_g G__law_leaves (hr.mono (by decide)) (pa_cons (pv 5) (pa_cons pe_str pa_nil)))) (pe_lst pa_nil) (nomark _)) (pss_one (ps_ret pe_bl)) pss_nil)))
    (pss_one (ps_ret pe_bl)))))), ?_⟩
  try dsimp only [nox_K]
  refine rd_st (σ' := [some v, some (vI p), some u, some c, none, none, none]) rfl ?_
  walk_at "w"
  refine ⟨c, o, rfl, hc, Nat.le_trans (dep_size o) hoz, by omega, fun l H1 ys s1 hl hy => ?_⟩
  walk_at "w"
  have hyl : ys.length = size o := by rw [hy.len, List.length_map, parts_length]
  refine rd_len (.inl (SqL.of hl)) ?_
  walk_at "w"
  by_cases hpo : (p : Int) ≥ (ys.length : Nat)
  · refine rd_dT hpo ?_
    walk_at "w"
    refine k false H1 ⟨(fun z => nomatch z), fun z => ?_⟩ s1
    obtain ⟨s, h1, _⟩ := z
    have := h1.lt
    omega
  refine rd_dF hpo ?_
  walk_at "w"
  obtain ⟨s, hs⟩ := at_of (t := o) (k := p) (by omega)
  refine ⟨small (by simp), fun q1 hq1 => ?_⟩
  walk_at "w"
  refine ⟨small (by simp), fun q2 hq2 => ?_⟩
  walk_at "w"
  have sq1 := same_new hq1 (.tup [])
  have sq2 := same_new hq2 (.tup [.str "_", .ref q1])
  have sA := s1.trans (sq1.trans sq2)
  have hU : Tp K (upd (upd H1 q1 (.tup [])) q2 (.tup [.str "_", .ref q1])) (.ref q2) (tmD U) := tp_tm (sqT_of upd_same) (sqT_kp (kp_same sq2) (sqT_of upd_same)) .nil
  refine ⟨v, t, p, .ref q2, U, rfl, hv.kp (kp_same sA), hU, hp, by omega, hz, fun y1 H3 s3 hy1 => ?_⟩
  walk_at "w"
  refine ⟨small (by simp), fun q3 hq3 => ?_⟩
  walk_at "w"
  refine ⟨small (by simp), fun q4 hq4 => ?_⟩
  walk_at "w"
  have sq3 := same_new hq3 (.tup [])
  have sq4 := same_new hq4 (.tup [.str "_", .ref q3])
  have sB := sA.trans (s3.trans (sq3.trans sq4))
  have hU2 : Tp K (upd (upd H3 q3 (.tup [])) q4 (.tup [.str "_", .ref q3])) (.ref q4) (tmD U) := tp_tm (sqT_of upd_same) (sqT_kp (kp_same sq4) (sqT_of upd_same)) .nil
  refine ⟨c, o, p, .ref q4, U, rfl, hc.kp (kp_same sB), hU2, by omega, by omega, hoz, fun y2 H5 s5 hy2 => ?_⟩
  have d1 := dep_put t p U
  have d2 := dep_put o p U
  rw [dep_U] at d1 d2
  refine rd_neTm (hy1.kp (kp_same ((sq3.trans sq4).trans s5))) hy2 (wok_put t p U htw wok_U) (wok_put o p U how wok_U) (by omega) (by omega) fun bo hbo => ?_
  walk_at "w"
  have sC := sB.trans s5
  have sL : Same H1 H5 := (sq1.trans sq2).trans (s3.trans ((sq3.trans sq4).trans s5))
  cases bo with
  | false =>
    refine rd_nF ?_
    walk_at "w"
    refine k false H5 ⟨(fun z => nomatch z), fun z => ?_⟩ sC
    obtain ⟨s', _, h2, _⟩ := z
    exact absurd (hbo.mpr h2) (by decide)
  | true =>
    have hput := hbo.mp rfl
    refine rd_nT ?_
    walk_at "w"
    have hyp : (parts o)[p]? = some s := hs.part
    obtain ⟨nv, hnv, hnd⟩ : ∃ v, ys[p]? = some v ∧ Tp K H5 v (tmD s) := (hy.kp (kp_same sL)).get (i := p) (by rw [List.getElem?_map, hyp]; rfl)
    refine rd_ixL (SqL.of (sL _ _ hl)) (atI_nat hnv) ?_
    walk_at "w"
    refine ⟨nv, s, u, kk, rfl, hnd, hu.kp (kp_same sC), Nat.le_trans (dep_size kk) hkz, by omega, fun H6 s6 => ?_⟩
    walk_at "w"
    have sD := sC.trans s6
    have lbiff : (fits s kk = true ∧ ∀ x ∈ prs s kk, lz "_" 0 (nodes x.1) = [] ∧ lz "#" 0 (nodes x.1) = []) ↔ LB t p kk o := by
      constructor
      · rintro ⟨h1, h2⟩
        exact ⟨s, hs, hput, h1, h2⟩
      · rintro ⟨s', g2, _, g5, g6⟩
        have e2 := g2.uniq hs
        subst e2
        exact ⟨g5, g6⟩
    cases hf : fits s kk with
    | false =>
      walk_at "w"
      refine k false H6 ⟨(fun z => nomatch z), fun z => ?_⟩ sD
      have := (lbiff.mpr z).1
      rw [hf] at this; cases this
    | true =>
      walk_at "w"
      refine rd_ixL (SqL.of ((sL.trans s6) _ _ hl)) (atI_nat hnv) ?_
      walk_at "w"
      refine ⟨nv, s, u, kk, rfl, hnd.kp (kp_same s6), hu.kp (kp_same sD), Nat.le_trans (dep_size kk) hkz, by omega, fun q H7 zs s7 hq hzs => ?_⟩
      refine rd_oneLst (SqL.of hq) ?_
      have sE := sD.trans s7
      have hzl : zs.length = (prs s kk).length := by rw [hzs.len, List.length_map]
      refine fo_it (walk_list (xs := zs)) (fun i σ H' => ∃ x1 x2, σ = [some v, some (vI p), some u, some c, some (.ref l), x1, x2] ∧ Same H7 H' ∧ ∀ j x, j < i → (prs s kk)[j]? = some x → lz "_" 0 (nodes x.1) = [] ∧ lz "#" 0 (nodes x.1) = []) ⟨none, none, rfl, Same.refl _, fun j x hj => absurd hj (Nat.not_lt_zero _)⟩ (fun i σ H' _ ⟨_, _, _, s, _⟩ => SqL.of (s _ _ hq)) ?_ ?_
      · rintro i x σ H9 H8 hi ⟨x1, x2, rfl, s8, hj⟩ ⟨rfl, hx8⟩
        have hri : (prs s kk)[i]? = some ((prs s kk)[i]'(by omega)) := List.getElem?_eq_getElem (by omega)
        obtain ⟨pa, w1, w2, hpa, hp8, h1, h2⟩ := tps_pair (hzs.kp (kp_same s8)) hri
        rw [hx8] at hpa
        have hxe : x = .ref pa := by simpa using hpa
        subst hxe
        obtain ⟨pp, hat⟩ := prs_at (List.mem_of_getElem? hri)
        generalize (prs s kk)[i]'(by omega) = r at *
        have hrz : size r.1 ≤ 40 := by have := hat.size_le; have := hs.size_le; omega
        have hrw : Wok (nodes r.1) := (how.sub hs).sub hat
        refine rd_gtup hp8 rfl ?_
        walk_at "w"
        refine ⟨w1, r.1, "_", rfl, h1, hrz, hrw, by decide +kernel, fun l1 H10 s10 hl1 => ?_⟩
        walk_at "w"
        refine ⟨w1, r.1, "#", rfl, h1.kp (kp_same s10), hrz, hrw, by decide +kernel, fun l2 H11 s11 hl2 => ?_⟩
        have hl1' := s11 _ _ hl1
        have hlen : ∀ (w : Str) (p : Nat) (A : List Nd), (lz w p A).length ≤ A.length := by
          intro w p A
          induction A generalizing p with
          | nil => rw [lz]; exact Nat.le_refl _
          | cons n A ih =>
            rw [lz]
            have := ih (p + 1)
            split <;> simp <;> omega
        have b1 := hlen "_" 0 (nodes r.1)
        have b2 := hlen "#" 0 (nodes r.1)
        rw [nodes_length] at b1 b2
        refine rd_cat hl1' hl2 (small (by rw [List.length_map, List.length_map]; omega)) fun q5 hq5 => ?_
        walk_at "w"
        refine ⟨small (by simp), fun q6 hq6 => ?_⟩
        have sq6 := same_new hq6 (.lst [])
        have hq5' : upd (upd H11 q5 (.lst ((lz "_" 0 (nodes r.1)).map vI ++ (lz "#" 0 (nodes r.1)).map vI))) q6 (.lst []) q5 = some (.lst (((lz "_" 0 (nodes r.1) ++ lz "#" 0 (nodes r.1)).map Int.ofNat).map V.int)) := by
          rw [sq6 _ _ upd_same, ← map_vI, List.map_append]
        refine rd_neLn (SqL.of hq5') (SqL.of upd_same) ?_
        walk_at "w"
        have sF := s8.trans ((s10.trans s11).trans ((same_new hq5 _).trans sq6))
        by_cases hnil : (lz "_" 0 (nodes r.1) ++ lz "#" 0 (nodes r.1)).map Int.ofNat = []
        · refine rd_ndT hnil ?_
          walk_at "w"
          refine ⟨_, _, rfl, sF, fun j x hji hx => ?_⟩
          by_cases hjj : j = i
          · subst hjj
            rw [hri] at hx; cases hx
            have := List.map_eq_nil_iff.mp hnil
            exact List.append_eq_nil_iff.mp this
          · exact hj j x (by omega) hx
        · refine rd_ndF hnil ?_
          walk_at "w"
          refine k false _ ⟨(fun z => nomatch z), fun z => ?_⟩ (sE.trans sF)
          have := (lbiff.mpr z).2 r (List.mem_of_getElem? hri)
          exact absurd (by rw [this.1, this.2]; rfl) hnil
      · rintro σ H8 ⟨x1, x2, rfl, s8, hj⟩
        walk_at "w"
        refine k true H8 ⟨fun _ => lbiff.mp ⟨hf, fun x hx => ?_⟩, fun _ => rfl⟩ (sE.trans s8)
        obtain ⟨j, hjx⟩ := List.mem_iff_getElem?.mp hx
        exact hj j x (by have := (List.getElem?_eq_some_iff.mp hjx).1; omega) hjx
end
end FN
set_option maxHeartbeats 4000000
namespace FN
open PySem PySem.Spec PyProof.Rows L2
local macro_rules | `(tactic| walk_at "w") => `(tactic| repeat (with_reducible first
  | refine rd_seq ?_
  | refine rd_asg ?_
  | refine rd_name ?_
  | refine rd_ret ?_
  | refine rd_drop ?_
  | refine rd_if ?_
  | refine rd_next ?_
  | refine rd_var (by k_dflt rfl) ?_
  | refine rd_c ?_
  | refine rd_op ?_
  | refine rd_un ?_
  | refine rd_test ?_
  | refine rd_B ?_
  | refine rd_I0 ?_
  | refine rd_U ?_
  | refine rd_eqI ?_
  | refine rd_neI ?_
  | refine rd_eqS ?_
  | refine rd_neS ?_
  | refine rd_and ?_
  | refine rd_or ?_
  | refine rd_not ?_
  | refine rd_andV ?_
  | refine rd_orV ?_
  | refine rd_notV ?_
  | refine rd_ife ?_
  | refine rd_chain ?_
  | refine rd_exb ?_
  | refine rd_exi ?_
  | refine rd_nil ?_
  | refine rd_cons ?_
  | refine rd_CB ?_
  | refine rd_G ?_
  | refine rd_fld ?_
  | refine rd_sl ?_
  | refine rd_part ?_
  | refine rd_noPart ?_
  | refine rd_leaf ?_
  | refine rd_tup ?_
  | refine rd_lst ?_
  | refine rd_star ?_
  | refine rd_bm ?_
  | refine rd_bm0 ?_
  | refine rd_gsub ?_
  | refine rd_rev ?_
  | refine rd_gnil ?_
  | refine rd_gcons ?_
  | refine rd_yes ?_
  | refine rd_abs ?_
  | refine rd_max2 ?_
  | refine rd_min2 ?_
  | refine rd_int1 ?_
  | refine rd_int1b ?_
  | refine rd_inSign ?_
  | refine rd_niSign ?_
  | refine rd_isN ?_
  | refine rd_ntN ?_
  | refine rd_dcLst ?_
  | refine rd_dcTup ?_
  | refine rd_dcItems ?_
  | refine rd_lcTup ?_
  | refine rd_lcLst ?_
  | refine rd_lcStr ?_
  | refine rd_lcR1 ?_
  | refine rd_lcR2 ?_
  | refine rd_lcKeys ?_
  | refine rd_lcVals ?_
  | refine rd_lcItems ?_
  | refine rd_lcZip ?_
  | refine rd_forTup ?_
  | refine rd_forLst ?_
  | refine rd_forR1 ?_
  | refine rd_forR2 ?_
  | refine rd_forR3 ?_
  | refine rd_forZip ?_
  | refine rd_forItems ?_
  | refine rd_lcEnumT ?_
  | refine rd_forEnumT ?_
  | refine rd_oneStr ?_
  | refine rd_mkR ?_
  | refine rd_mk0 ?_
  | refine rd_mR ?_
  | refine rd_mN ?_
  | refine rd_pr ?_
  | refine rd_cmR ?_
  | refine rd_makeC ?_
  | refine rd_tM1 ?_
  | refine rd_fmtT ?_
  | refine ⟨rd_exs, ?_⟩
  | refine rd_listZip ?_
  | refine rd_lenSetS ?_
  | refine rd_sfld ?_
  | refine rd_jc ?_
  | refine rd_jn ?_
  | refine rd_par ?_
  | refine rd_par3 ?_
  | refine rd_dupd ?_
  | refine rd_disp ?_
  | refine rd_pc ?_
  | refine rd_pn ?_
  | refine rd_dni ?_
  | refine rd_dget ?_
  | refine rd_dget2 ?_
  | refine rd_dput ?_
  | refine rd_T ?_
  | refine rd_F ?_
  | refine rd_nT ?_
  | refine rd_nF ?_))
/-! ### the plain law -/
theorem nodesL_inj : ∀ (n : Nat) (F G : List Tm), sizes F = n → F.length = G.length → nodesL F = nodesL G → F = G
  | n, [], [], _, _, _ => rfl
  | n, [], _ :: _, _, h, _ => by simp at h
  | n, _ :: _, [], _, h, _ => by simp at h
  | 0, .mk w ts :: F, _ :: _, h, _, _ => by rw [sizes_cons] at h; omega
  | n + 1, .mk w ts :: F, .mk v us :: G, h, hl, he => by
    rw [sizes_cons] at h
    rw [nodesL_cons, nodesL_cons, List.cons.injEq, Prod.mk.injEq] at he
    obtain ⟨⟨h1, h2⟩, h3⟩ := he
    have := nodesL_inj n (ts ++ F) (us ++ G) (by omega) (by rw [List.length_append, List.length_append, h2]; simp at hl; omega) h3
    obtain ⟨h4, h5⟩ := List.append_inj this h2
    rw [h1, h4, h5]
theorem nodes_inj {a b : Tm} (h : nodes a = nodes b) : a = b := by
  have := nodesL_inj _ [a] [b] rfl rfl (by rw [nodes_one, nodes_one]; exact h)
  exact (List.cons.inj this).1
theorem sf_app_lt : ∀ (q : Nat) (A B : List Tm), q < sizes A → sf q (A ++ B) = sf q A ++ B
  | 0, A, B, _ => rfl
  | q + 1, [], B, h => by rw [sizes] at h; omega
  | q + 1, .mk w ts :: A, B, h => by
    rw [sizes_cons] at h
    show sf q (ts ++ (A ++ B)) = sf q (ts ++ A) ++ B
    rw [← List.append_assoc]
    exact sf_app_lt q (ts ++ A) B (by omega)
theorem sf_ge (q : Nat) (t : Tm) (r : List Tm) (h : size t ≤ q) : sf q (t :: r) = sf (q - size t) r := by
  have e : q = size t + (q - size t) := by omega
  rw [e, sf_add]
  have := sf_app [t] r
  rw [sizes_one] at this
  rw [show t :: r = [t] ++ r from rfl, this]
  congr 1; omega
theorem putL_length : ∀ (ts : List Tm) (p : Nat) (o : Tm), (putL ts p o).length = ts.length
  | [], p, o => by rw [putL]
  | t :: r, p, o => by
    rw [putL]
    split
    · rfl
    · rw [List.length_cons, List.length_cons, putL_length r]
mutual
theorem nodes_put (o : Tm) : ∀ (t : Tm) (p : Nat) (s : Tm), At t p s → nodes (put t p o) = (nodes t).take p ++ (nodes o ++ (nodes t).drop (p + size s))
  | .mk w ts, p, s, h => by
    rw [put]
    split
    · rename_i hp
      subst hp
      have := h.uniq (.root _)
      subst this
      rw [List.take_zero, Nat.zero_add, List.drop_eq_nil_of_le (by rw [nodes_length]; exact Nat.le_refl _), List.append_nil, List.nil_append]
    · rename_i hp
      obtain ⟨q, rfl⟩ : ∃ q, p = q + 1 := ⟨p - 1, by omega⟩
      obtain ⟨G, hG⟩ := h
      have hG' : sf q ts = s :: G := by
        have : sf (q + 1) [Tm.mk w ts] = sf q (ts ++ []) := rfl
        rw [this, List.append_nil] at hG
        exact hG
      rw [nodes, nodes, putL_length, Nat.add_sub_cancel, nodesL_put o ts q s ⟨G, hG'⟩, List.take_succ_cons, List.cons_append, show q + 1 + size s = q + size s + 1 by omega, List.drop_succ_cons]
theorem nodesL_put (o : Tm) : ∀ (ts : List Tm) (q : Nat) (s : Tm), (∃ G, sf q ts = s :: G) → nodesL (putL ts q o) = (nodesL ts).take q ++ (nodes o ++ (nodesL ts).drop (q + size s))
  | [], q, s, h => by
    obtain ⟨G, hG⟩ := h
    rw [sf_nil] at hG; cases hG
  | t :: r, q, s, h => by
    obtain ⟨G, hG⟩ := h
    rw [putL]
    split
    · rename_i hq
      have h1 : sf q ([t] ++ r) = sf q [t] ++ r := sf_app_lt q [t] r (by rw [sizes_one]; exact hq)
      obtain ⟨s2, hs2⟩ := at_of hq
      have hs2' := hs2
      obtain ⟨G2, hG2⟩ := hs2
      have e : s :: G = s2 :: G2 ++ r := by rw [← hG, ← hG2, ← h1]; rfl
      have : s = s2 := (List.cons.inj e).1
      subst this
      have hle := hs2'.size_le
      rw [nodesL, nodesL, nodes_put o t q s hs2', List.take_append_of_le_length (by rw [nodes_length]; omega), List.drop_append_of_le_length (by rw [nodes_length]; omega)]
      simp only [List.append_assoc]
    · rename_i hq
      rw [sf_ge q t r (by omega)] at hG
      rw [nodesL, nodesL, nodesL_put o r (q - size t) s ⟨G, hG⟩]
      have e1 : (nodes t).take q = nodes t := List.take_of_length_le (by rw [nodes_length]; omega)
      have e2 : (nodes t).drop (q + size s) = [] := List.drop_eq_nil_of_le (by rw [nodes_length]; omega)
      rw [List.take_append, List.drop_append, e1, e2, nodes_length, List.nil_append, List.append_assoc, show q + size s - size t = q - size t + size s by omega]
end
theorem size_put {t s : Tm} {p : Nat} (o : Tm) (h : At t p s) : size (put t p o) + size s = size t + size o := by
  have e := congrArg List.length (nodes_put o t p s h)
  have := h.size_le
  rw [List.length_append, List.length_append, List.length_take, List.length_drop, nodes_length, nodes_length, nodes_length] at e
  omega
theorem put_sub {t s : Tm} {p : Nat} (o : Tm) (h : At t p s) : ∀ n ∈ nodes (put t p o), n ∈ nodes t ∨ n ∈ nodes o := fun n hn => by
  rw [nodes_put o t p s h] at hn
  rcases List.mem_append.mp hn with hn | hn
  · exact .inl (List.mem_of_mem_take hn)
  · rcases List.mem_append.mp hn with hn | hn
    · exact .inr hn
    · exact .inl (List.mem_of_mem_drop hn)
theorem NdW.zero {n : Nd} (h : NdW n) (hw : n.1 = "_" ∨ n.1 = "#") : n.2 = 0 := by
  obtain ⟨c, hc, _, hl | hl⟩ := h
  · rw [hc] at hw
    rcases hw with e | e
    · have e2 : [c] = [95] := congrArg (fun z : Str => z.cps.toList) e
      have e3 : c = 95 := (List.cons.inj e2).1
      subst e3; exact absurd hl (by decide)
    · have e2 : [c] = [35] := congrArg (fun z : Str => z.cps.toList) e
      have e3 : c = 35 := (List.cons.inj e2).1
      subst e3; exact absurd hl (by decide)
  · exact hl.2
theorem lz_plw (w : Str) (hw : w = "_" ∨ w = "#") : ∀ (p : Nat) (A : List Nd), (∀ n ∈ A, NdW n) → lz w p A = plw w p A
  | p, [], _ => by rw [lz, plw]
  | p, n :: A, h => by
    rw [lz, plw, lz_plw w hw (p + 1) A fun m hm => h m (List.mem_cons_of_mem _ hm)]
    have hn := h n List.mem_cons_self
    by_cases e : n.1 = w
    · rw [if_pos e, if_pos (Prod.ext e (hn.zero (by rw [e]; exact hw)))]
    · rw [if_neg e, if_neg (fun z => e (by rw [z]))]
theorem gr_iff {t : Tm} (h : ∀ n ∈ nodes t, NdW n) : gr t = true ↔ lz "_" 0 (nodes t) = [] ∧ lz "#" 0 (nodes t) = [] := by
  rw [lz_plw "_" (.inl rfl) 0 _ h, lz_plw "#" (.inr rfl) 0 _ h]
  unfold gr
  rw [decide_eq_true_iff]
theorem bh_lb {t k o : Tm} {p : Nat} (ho : TmW o) (hp : p < size t) : BH t p k o ↔ LB t p k o := by
  have hgr : ∀ s, At o p s → ((∀ x ∈ prs s k, gr x.1 = true) ↔ ∀ x ∈ prs s k, lz "_" 0 (nodes x.1) = [] ∧ lz "#" 0 (nodes x.1) = []) := by
    intro s hs
    have : ∀ x ∈ prs s k, (gr x.1 = true ↔ lz "_" 0 (nodes x.1) = [] ∧ lz "#" 0 (nodes x.1) = []) := fun x hx => by
      obtain ⟨q, hq⟩ := prs_at hx
      exact gr_iff fun n hn => ho.nd n (hs.sub n (hq.sub n hn))
    exact ⟨fun h x hx => (this x hx).mp (h x hx), fun h x hx => (this x hx).mpr (h x hx)⟩
  constructor
  · rintro ⟨s0, s, h0, hs, h1, h2, h3, h4⟩
    refine ⟨s, hs, ?_, h3, (hgr s hs).mp h4⟩
    refine nodes_inj ?_
    rw [nodes_put U t p s0 h0, nodes_put U o p s hs, h1, h2]
  · rintro ⟨s, hs, h1, h3, h4⟩
    obtain ⟨s0, h0⟩ := at_of hp
    have e := congrArg nodes h1
    rw [nodes_put U t p s0 h0, nodes_put U o p s hs] at e
    have l1 := h0.size_le
    have l2 := hs.size_le
    have z1 := size_pos s0
    have z2 := size_pos s
    obtain ⟨e1, e2⟩ := List.append_inj e (by rw [List.length_take, List.length_take, nodes_length, nodes_length]; omega)
    have e3 := List.append_cancel_left e2
    exact ⟨s0, s, h0, hs, e1.symm, e3.symm, h3, (hgr s hs).mpr h4⟩
/-- open leaves have no children -/
def Lf (ns : List Nd) : Prop := ∀ n ∈ ns, n.1 = "_" → n.2 = 0
theorem TmW.lf {t : Tm} (h : TmW t) : Lf (nodes t) := fun n hn e => (h.nd n hn).zero (.inl e)
mutual
theorem cf_cnt : ∀ t : Tm, Lf (nodes t) → cf t = cntU (nodes t)
  | .mk w ts, h => by
    rw [nodes] at h
    have h1 := h _ List.mem_cons_self
    have h2 := cfL_cnt ts fun n hn => h n (List.mem_cons_of_mem _ hn)
    rw [cf, nodes, cntU]
    by_cases hw : w = "_"
    · rw [if_pos hw, if_pos hw]
      have h3 : ts.length = 0 := h1 hw
      rw [List.length_eq_zero_iff.mp h3, nodesL, cntU]
    · rw [if_neg hw, if_neg hw, h2]
theorem cfL_cnt : ∀ ts : List Tm, Lf (nodesL ts) → cfL ts = cntU (nodesL ts)
  | [], _ => by rw [cfL, nodesL, cntU]
  | t :: r, h => by
    rw [nodesL] at h
    rw [cfL, nodesL, cntU_app, cf_cnt t fun n hn => h n (List.mem_append_left _ hn), cfL_cnt r fun n hn => h n (List.mem_append_right _ hn)]
end
theorem fillL_length : ∀ (ts fs : List Tm), (fillL ts fs).length = ts.length
  | [], fs => by rw [fillL]
  | t :: r, fs => by rw [fillL, List.length_cons, List.length_cons, fillL_length r]
theorem nfill_nil : ∀ (A : List Nd) (fs : List Tm), cntU A = 0 → nfill A fs = A
  | [], fs, _ => by rw [nfill]
  | n :: A, fs, h => by
    rw [cntU] at h
    split at h
    · omega
    · rename_i hn
      rw [nfill, if_neg hn, nfill_nil A fs h]
mutual
theorem nodes_fill : ∀ (t : Tm) (fs : List Tm), Lf (nodes t) → cf t ≤ fs.length → nodes (fill t fs) = nfill (nodes t) fs
  | .mk w ts, fs, h, hc => by
    rw [nodes] at h
    have h1 := h _ List.mem_cons_self
    rw [fill, nodes, nfill]
    rw [cf] at hc
    by_cases hw : w = "_"
    · rw [if_pos hw] at hc
      rw [if_pos hw, if_pos hw]
      have h3 : ts.length = 0 := h1 hw
      rw [List.length_eq_zero_iff.mp h3, nodesL, nfill, List.append_nil]
      cases fs with
      | nil => simp at hc
      | cons f g => rfl
    · rw [if_neg hw] at hc
      rw [if_neg hw, if_neg hw, nodes, fillL_length, nodesL_fill ts fs (fun n hn => h n (List.mem_cons_of_mem _ hn)) hc]
theorem nodesL_fill : ∀ (ts fs : List Tm), Lf (nodesL ts) → cfL ts ≤ fs.length → nodesL (fillL ts fs) = nfill (nodesL ts) fs
  | [], fs, _, _ => by rw [fillL, nodesL, nfill]
  | t :: r, fs, h, hc => by
    rw [nodesL] at h
    have h1 : Lf (nodes t) := fun n hn => h n (List.mem_append_left _ hn)
    rw [cfL] at hc
    rw [fillL, nodesL, nodesL, nfill_app, nodes_fill t fs h1 (by omega), nodesL_fill r (fs.drop (cf t)) (fun n hn => h n (List.mem_append_right _ hn)) (by rw [List.length_drop]; omega), cf_cnt t h1]
end
theorem nfill_sub : ∀ (A : List Nd) (fs : List Tm) (n : Nd), n ∈ nfill A fs → n ∈ A ∨ n ∈ nodesL fs
  | [], fs, n, h => by rw [nfill] at h; cases h
  | m :: A, fs, n, h => by
    rw [nfill] at h
    split at h
    · rcases List.mem_append.mp h with h | h
      · cases fs with
        | nil => rw [hdN] at h; cases h
        | cons f g => rw [hdN] at h; rw [nodesL]; exact .inr (List.mem_append_left _ h)
      · rcases nfill_sub A fs.tail n h with h | h
        · exact .inl (List.mem_cons_of_mem _ h)
        · cases fs with
          | nil => exact .inr h
          | cons f g => rw [nodesL]; exact .inr (List.mem_append_right _ h)
    · rcases List.mem_cons.mp h with rfl | h
      · exact .inl List.mem_cons_self
      · rcases nfill_sub A fs n h with h | h
        · exact .inl (List.mem_cons_of_mem _ h)
        · exact .inr h
/-- a filled row's length, exactly -/
theorem nfill_size : ∀ (A : List Nd) (fs : List Tm), cntU A = fs.length → (nfill A fs).length + cntU A = A.length + sizes fs
  | [], fs, h => by
    rw [cntU] at h
    rw [List.length_eq_zero_iff.mp h.symm, nfill, cntU, sizes]
  | n :: A, fs, h => by
    rw [cntU] at h
    rw [nfill, cntU]
    split
    · rename_i hn
      rw [if_pos hn] at h
      cases fs with
      | nil => simp at h
      | cons f g =>
        have := nfill_size A g (by simpa using h)
        rw [hdN, List.tail_cons, List.length_append, nodes_length, sizes, List.length_cons]
        omega
    · rename_i hn
      rw [if_neg hn] at h
      have := nfill_size A fs h
      rw [List.length_cons, List.length_cons]
      omega
mutual
theorem cf_bound : ∀ t : Tm, (∀ n ∈ nodes t, n.2 ≤ 3) → 3 * cf t ≤ 2 * size t + 1
  | .mk w ts, h => by
    rw [nodes] at h
    have h1 : ts.length ≤ 3 := h (w, ts.length) List.mem_cons_self
    have h2 := cfL_bound ts fun n hn => h n (List.mem_cons_of_mem _ hn)
    rw [cf, size]
    split <;> omega
theorem cfL_bound : ∀ ts : List Tm, (∀ n ∈ nodesL ts, n.2 ≤ 3) → 3 * cfL ts ≤ 2 * sizes ts + ts.length
  | [], _ => by rw [cfL, sizes]; simp
  | t :: r, h => by
    rw [nodesL] at h
    have h1 := cf_bound t fun n hn => h n (List.mem_append_left _ hn)
    have h2 := cfL_bound r fun n hn => h n (List.mem_append_right _ hn)
    rw [cfL, sizes, List.length_cons]; omega
end
mutual
theorem dep_fill : ∀ (t : Tm) (fs : List Tm) (d : Nat), (∀ f ∈ fs, dep f ≤ d) → dep (fill t fs) ≤ dep t + d
  | .mk w ts, fs, d, h => by
    rw [fill]
    split
    · cases fs with
      | nil => simp
      | cons f g => have := h f List.mem_cons_self; simp; omega
    · rw [dep, dep]; have := depL_fill ts fs d h; omega
theorem depL_fill : ∀ (ts fs : List Tm) (d : Nat), (∀ f ∈ fs, dep f ≤ d) → depL (fillL ts fs) ≤ depL ts + d
  | [], fs, d, _ => by rw [fillL, depL]; omega
  | t :: r, fs, d, h => by
    rw [fillL, depL, depL]
    have := dep_fill t fs d h
    have := depL_fill r (fs.drop (cf t)) d fun f hf => h f (List.mem_of_mem_drop hf)
    omega
end
end FN
set_option maxHeartbeats 4000000
namespace FN
open PySem PySem.Spec PyProof.Rows L2
local macro_rules | `(tactic| walk_at "w") => `(tactic| repeat (with_reducible first
  | refine rd_seq ?_
  | refine rd_asg ?_
  | refine rd_name ?_
  | refine rd_ret ?_
  | refine rd_drop ?_
  | refine rd_if ?_
  | refine rd_next ?_
  | refine rd_var (by k_dflt rfl) ?_
  | refine rd_c ?_
  | refine rd_op ?_
  | refine rd_un ?_
  | refine rd_test ?_
  | refine rd_B ?_
  | refine rd_I0 ?_
  | refine rd_U ?_
  | refine rd_eqI ?_
  | refine rd_neI ?_
  | refine rd_eqS ?_
  | refine rd_neS ?_
  | refine rd_and ?_
  | refine rd_or ?_
  | refine rd_not ?_
  | refine rd_andV ?_
  | refine rd_orV ?_
  | refine rd_notV ?_
  | refine rd_ife ?_
  | refine rd_chain ?_
  | refine rd_exb ?_
  | refine rd_exi ?_
  | refine rd_nil ?_
  | refine rd_cons ?_
  | refine rd_CB ?_
  | refine rd_G ?_
  | refine rd_fld ?_
  | refine rd_sl ?_
  | refine rd_part ?_
  | refine rd_noPart ?_
  | refine rd_leaf ?_
  | refine rd_tup ?_
  | refine rd_lst ?_
  | refine rd_star ?_
  | refine rd_bm ?_
  | refine rd_bm0 ?_
  | refine rd_gsub ?_
  | refine rd_rev ?_
  | refine rd_gnil ?_
  | refine rd_gcons ?_
  | refine rd_yes ?_
  | refine rd_abs ?_
  | refine rd_max2 ?_
  | refine rd_min2 ?_
  | refine rd_int1 ?_
  | refine rd_int1b ?_
  | refine rd_inSign ?_
  | refine rd_niSign ?_
  | refine rd_isN ?_
  | refine rd_ntN ?_
  | refine rd_dcLst ?_
  | refine rd_dcTup ?_
  | refine rd_dcItems ?_
  | refine rd_lcTup ?_
  | refine rd_lcLst ?_
  | refine rd_lcStr ?_
  | refine rd_lcR1 ?_
  | refine rd_lcR2 ?_
  | refine rd_lcKeys ?_
  | refine rd_lcVals ?_
  | refine rd_lcItems ?_
  | refine rd_lcZip ?_
  | refine rd_forTup ?_
  | refine rd_forLst ?_
  | refine rd_forR1 ?_
  | refine rd_forR2 ?_
  | refine rd_forR3 ?_
  | refine rd_forZip ?_
  | refine rd_forItems ?_
  | refine rd_lcEnumT ?_
  | refine rd_forEnumT ?_
  | refine rd_oneStr ?_
  | refine rd_mkR ?_
  | refine rd_mk0 ?_
  | refine rd_mR ?_
  | refine rd_mN ?_
  | refine rd_pr ?_
  | refine rd_cmR ?_
  | refine rd_makeC ?_
  | refine rd_tM1 ?_
  | refine rd_fmtT ?_
  | refine ⟨rd_exs, ?_⟩
  | refine rd_listZip ?_
  | refine rd_lenSetS ?_
  | refine rd_sfld ?_
  | refine rd_jc ?_
  | refine rd_jn ?_
  | refine rd_par ?_
  | refine rd_par3 ?_
  | refine rd_dupd ?_
  | refine rd_disp ?_
  | refine rd_pc ?_
  | refine rd_pn ?_
  | refine rd_dni ?_
  | refine rd_dget ?_
  | refine rd_dget2 ?_
  | refine rd_dput ?_
  | refine rd_T ?_
  | refine rd_F ?_
  | refine rd_nT ?_
  | refine rd_nF ?_))
theorem bm_k {X : Cx} {K : PySem.W.Frag} {T id : String} {name : Str} {r : V → List V → Hp → VK → Prop} {o e : Expr} {es : List Expr} {to : TE} {t : TA} {apos cpos : Pos} (e0 : X.K = K) (pa : PlainAttrs T) (slot : Slot T name id) (hty : typeOf (.builtin id) = pure (.type "method_descriptor")) (hm : MtR X id r) (ho : PE X o to) (ha : PA X (e :: es) t)
    (hbase : attributeBase o name X.env (eval o X.env) = eval o X.env := by rfl)
    (hfew : ((backTo cpos (starEach (e :: es) X.env)).all (fun x => !x.1) && (backToKw cpos (keywordEach [] X.env)).all (fun x => x.1.isSome)
      && decide ((e :: es).length + ([] : List Keyword).length + (if ([] : List Keyword).isEmpty then 0 else 1) < 30)) = true := by rfl)
    (hline : (apos.endLine == cpos.line) = true := by rfl) (hs : starEach (e :: es) X.env = (false, eval e X.env) :: starEach es X.env := by rfl) (hplain : (backTo cpos (starEach es X.env)).any (·.1) = false := by rfl) :
    PE X (.Call (.Attribute o name apos) (e :: es) [] cpos) (tBM K T r to t) := e0 ▸ pe_bm pa slot hty hm ho ha hbase hfew hline hs hplain
theorem o_powBig {X : Cx} : OpR X (binaryOp .Pow) (rI (fun i j => i = 10 ^ 60 ∧ j = 10) fun i j => .int (i ^ j.toNat)) := opI fun i j t u s Q E hc q => by
  obtain ⟨rfl, rfl⟩ := hc
  exact AutoIntOps.pow_4 (by decide) (by decide) (by decide +kernel) (by decide +kernel) (by decide +kernel) q
theorem erase_perm {α : Type} : ∀ (zs : List α) (r : Nat) (h : r < zs.length), (zs[r] :: zs.eraseIdx r).Perm zs
  | [], r, h => by simp at h
  | z :: zs, 0, _ => .refl _
  | z :: zs, r + 1, h => by
    have := erase_perm zs r (by simpa using h)
    exact (List.Perm.swap z _ _).trans (this.cons z)
/-- the dice: three numbers in a list -/
def Dice (H : Hp) (d : Addr) : Prop := ∃ g b c : Int, H d = some (.lst [.int g, .int b, .int c])
theorem Dice.lst {H : Hp} {d : Addr} (h : Dice H d) : ∃ xs, H d = some (.lst xs) := by
  obtain ⟨g, b, c, h⟩ := h
  exact ⟨_, h⟩
theorem Dice.same {H H' : Hp} {d : Addr} (h : Dice H d) (s : Same H H') : Dice H' d := by
  obtain ⟨g, b, c, h⟩ := h
  exact ⟨g, b, c, s _ _ h⟩
theorem FrD.kpD {d : Addr} {H H' : Hp} (f : FrD d H H') (h : Dice H d) : Kp H H' := by
  obtain ⟨g, b, c, h⟩ := h
  exact f.kp h
theorem Dice.ne {H : Hp} {d l : Addr} (h : Dice H d) (hl : H l = none) : l ≠ d := fun z => by
  subst z
  obtain ⟨g, b, c, h⟩ := h
  rw [hl] at h; cases h
theorem fmod_nat (a : Int) {n : Nat} (h : 0 < n) : ∃ r : Nat, a.fmod (n : Int) = (r : Int) ∧ r < n := by
  have h1 : 0 ≤ a.fmod (n : Int) := Int.fmod_nonneg_of_pos a (by omega)
  have h2 : a.fmod (n : Int) < n := Int.fmod_lt_of_pos a (by omega)
  exact ⟨(a.fmod (n : Int)).toNat, by omega, by omega⟩
section
variable {P : Program} {w : World} {K : PySem.W.Frag} {mg : Str → Option Value} {base : Heap} {C : Ad}
theorem tps_perm {H : Hp} {xs ys : List V} (p : ys.Perm xs) : ∀ {ds : List PyData}, Tps K H xs ds → ∃ es, es.Perm ds ∧ Tps K H ys es := by
  induction p with
  | nil => intro ds h; exact ⟨ds, .refl _, h⟩
  | cons x p ih =>
    intro ds h
    cases h with
    | @cons _ _ d ds' h1 h2 =>
      obtain ⟨es, p2, t⟩ := ih h2
      exact ⟨d :: es, p2.cons _, .cons h1 t⟩
  | swap x y l =>
    intro ds h
    cases h with
    | @cons _ _ d ds' h1 h2 =>
      cases h2 with
      | @cons _ _ e ds2 h3 h4 => exact ⟨e :: d :: ds2, .swap .., .cons h3 (.cons h1 h4)⟩
  | trans p q ih1 ih2 =>
    intro ds h
    obtain ⟨es, p1, t1⟩ := ih2 h
    obtain ⟨fs, p2, t2⟩ := ih1 t1
    exact ⟨fs, p2.trans p1, t2⟩
def sp_law_dice (K : PySem.W.Frag) : Sp := fun vs H Q _ => ∃ (a : Addr) (sp : Nat) (is : List Int), vs = [.ref a, vI sp] ∧ SqL K H a (is.map V.int) ∧ ∀ q H', Same H H' → H q = none → Dice H' q → Q (.ref q) H'
theorem ok_law_dice (T : Ty K mg C) : Gf P w K mg base "_law_dice" 1 (sp_law_dice K) := by
  refine T.d__law_dice.ok sc__law_dice (fun vs H Q E h => ?_) (fun f cdv A outer s H vs Q E hr h => ?_)
  · obtain ⟨a, sp, is, rfl, _⟩ := h
    rfl
  obtain ⟨a, sp, is, rfl, ha, k⟩ := h
  refine ⟨_, (pss_cons (ps_set (i := 2) sc__law_dice.nd rfl (Or.inl rfl) (pe_op op_add (pe_op op_mul pe_int (pv 1)) pe_int))
    (pss_cons (ps_if (pt_cmpR op_lt (pv 1) (pe_callB c_lenS rfl T.f_len PySem.boot_len (pa_cons (pv 0) pa_nil)) (nomark _)) (pss_one (ps_set (i := 2) sc__law_dice.nd rfl (Or.inl rfl) (pe_ix ix_list (pv 0) (pv 1) (fun _ _ => rfl)))) pss_nil)
    (pss_cons (ps_set (i := 3) sc__law_dice.nd rfl (Or.inl rfl) (pe_op op_modN (pe_callTy c_int1 rfl T.f_int (by decide +kernel) (pa_cons (pe_callB c_abs rfl T.f_abs (by decide +kernel) (pa_cons (pv 2) pa_nil)) pa_nil)) (pe_op o_powBig (pe_op op_pow pe_int pe_int) pe_int)))
    (pss_cons (ps_set (i := 4) sc__law_dice.nd rfl (Or.inl rfl) (pe_op op_add (pe_op op_add (pe_op op_add (pe_op op_mul (pe_op op_modN (pe_callTy c_int1 rfl T.f_int (by decide +kernel) (pa_cons (pv 3) pa_nil)) pe_int) pe_int) (pe_op op_mul pe_int (pv 1))) (pe_op op_mul pe_int (pe_callTy c_int1 rfl T.f_int (by decide +kernel) (pa_cons (pe_cmpR op_lt (pv 2) pe_int (nomark _)) pa_nil)))) pe_int))
    (pss_one (ps_ret (pe_lst (pa_cons (pe_callB (c_max2 rfl) rfl T.f_max (by decide +kernel) (pa_cons pe_int (pa_cons (pe_op op_sub (pv 3) (pe_op op_pow pe_int pe_int)) pa_nil))) (pa_cons (pe_op op_modN (pe_callTy c_int1 rfl T.f_int (by decide +kernel) (pa_cons (pv 4) pa_nil)) pe_int) (pa_cons pe_int pa_nil)))))))))), ?_⟩
  try dsimp only [nox_K]
  refine rd_st (σ' := [some (.ref a), some (vI sp), none, none, none]) rfl ?_
  have rest : ∀ cell : Int, tSeq (tAsg (tOp (rI (fun _ j => j ≠ 0) fun i j => .int (i.fmod j)) (tCB rInt1 (tCons (tCB rAbs (tCons (tVar 2) tNil)) tNil)) (tOp (rI (fun i j => i = 10 ^ 60 ∧ j = 10) fun i j => .int (i ^ j.toNat)) (tOp (rI CPow fun i j => .int (i ^ j.toNat)) (tC (.int 10)) (tC (.int 60))) (tC (.int 10)))) (gName 3)) (tSeq (tAsg (tOp (rI0 fun i j => .int (i + j)) (tOp (rI0 fun i j => .int (i + j)) (tOp (rI0 fun i j => .int (i + j)) (tOp (rI CMul fun i j => .int (i * j)) (tOp (rI (fun _ j => j ≠ 0) fun i j => .int (i.fmod j)) (tCB rInt1 (tCons (tVar 3) tNil)) (tC (.int 2305843009213693723))) (tC (.int 1000381))) (tOp (rI CMul fun i j => .int (i * j)) (tC (.int 8053)) (tVar 1))) (tOp (rI CMul fun i j => .int (i * j)) (tC (.int 43)) (tCB rInt1 (tCons (tOp (rI0 fun i j => .bl (decide (i < j))) (tVar 2) (tC (.int 0))) tNil)))) (tC (.int 31))) (gName 4))
      (tRet (tLst (tCons (tCB rMax2 (tCons (tC (.int 0)) (tCons (tOp (rI0 fun i j => .int (i - j)) (tVar 3) (tOp (rI CPow fun i j => .int (i ^ j.toNat)) (tC (.int 10)) (tC (.int 18)))) tNil))) (tCons (tOp (rI (fun _ j => j ≠ 0) fun i j => .int (i.fmod j)) (tCB rInt1 (tCons (tVar 4) tNil)) (tC (.int 2305843009213693723))) (tCons (tC (.int 0)) tNil))))))
      { nx := fun _ H' => Q .non H', rt := Q } [some (.ref a), some (vI sp), some (.int cell), none, none] H := by
    intro cell
    walk_at "w"
    refine rd_I ⟨by decide, by decide, by decide⟩ ?_
    walk_at "w"
    refine rd_I ⟨by decide +kernel, rfl⟩ ?_
    refine rd_I (by decide +kernel) ?_
    walk_at "w"
    refine rd_I (by decide +kernel) ?_
    walk_at "w"
    refine rd_I (.inr ⟨by decide, by decide⟩) ?_
    walk_at "w"
    refine rd_I (.inl ⟨by decide, by decide⟩) ?_
    walk_at "w"
    refine rd_I (.inl ⟨by decide, by decide⟩) ?_
    walk_at "w"
    refine rd_I ⟨by decide, by decide, by decide⟩ ?_
    walk_at "w"
    refine rd_I (by decide +kernel) ?_
    walk_at "w"
    refine ⟨small (by simp), fun q hq => ?_⟩
    exact k q _ (same_new hq _) hq ⟨_, _, _, upd_same⟩
  walk_at "w"
  refine rd_I (.inl ⟨by decide, by decide⟩) ?_
  walk_at "w"
  refine rd_len (.inl ha) ?_
  walk_at "w"
  by_cases hs : ((sp : Nat) : Int) < ((is.map V.int).length : Nat)
  · refine rd_dT hs ?_
    walk_at "w"
    have hsl : sp < is.length := by rw [List.length_map] at hs; omega
    refine rd_ixL ha (v := .int is[sp]) (atI_nat (by rw [List.getElem?_map, List.getElem?_eq_getElem hsl]; rfl)) ?_
    exact rest _
  · refine rd_dF hs ?_
    exact rest _
def sp_law_roll : Sp := fun vs H Q _ => ∃ (d : Addr) (n : Nat), vs = [.ref d, vI n] ∧ Dice H d ∧ 0 < n ∧ n ≤ 1000 ∧ ∀ (r : Nat) H', FrD d H H' → Dice H' d → r < n → Q (vI r) H'
theorem ok_law_roll (T : Ty K mg C) : Gf P w K mg base "_law_roll" 1 sp_law_roll := by
  refine T.d__law_roll.ok sc__law_roll (fun vs H Q E h => ?_) (fun f cdv A outer s H vs Q E hr h => ?_)
  · obtain ⟨d, n, rfl, _⟩ := h
    rfl
  obtain ⟨d, n, rfl, ⟨g, b, c, hd⟩, hn, hn2, k⟩ := h
  refine ⟨_, (pss_cons (ps_if (pt_cmpR op_gt (pe_ix ix_list (pv 0) pe_int (fun _ _ => rfl)) pe_int (nomark _)) (pss_cons (ps_set (i := 4) sc__law_roll.nd rfl (Or.inl rfl) (pe_op op_modN (pe_callTy c_int1 rfl T.f_int (by decide +kernel) (pa_cons (pe_ix ix_list (pv 0) pe_int (fun _ _ => rfl)) pa_nil)) (pv 1)))
      (pss_cons (ps_asg (pe_op op_fdivN (pe_ix ix_list (pv 0) pe_int (fun _ _ => rfl)) (pv 1)) (pg_sub (pv 0) pe_int set_list))
      (pss_one (ps_ret (pv 4))))) pss_nil)
    (pss_cons (ps_asg (pe_op op_add (pe_ix ix_list (pv 0) pe_int (fun _ _ => rfl)) pe_int) (pg_sub (pv 0) pe_int set_list))
    (pss_cons (ps_set (i := 2) sc__law_roll.nd rfl (Or.inl rfl) (pe_op op_modN (pe_callTy c_int1 rfl T.f_int (by decide +kernel) (pa_cons (pe_op op_add (pe_ix ix_list (pv 0) pe_int (fun _ _ => rfl)) (pe_op op_mul pe_int (pe_ix ix_list (pv 0) pe_int (fun _ _ => rfl)))) pa_nil)) pe_int))
    (pss_cons (ps_set (i := 3) sc__law_roll.nd rfl (Or.inl rfl) (pe_op op_add (pe_op op_mul (pe_op op_modN (pe_callTy c_int1 rfl T.f_int (by decide +kernel) (pa_cons (pe_op op_mul (pv 2) (pv 2)) pa_nil)) pe_int) (pv 2)) (pe_op op_mul pe_int (pe_ix ix_list (pv 0) pe_int (fun _ _ => rfl)))))
    (pss_cons (ps_set (i := 3) sc__law_roll.nd rfl (Or.inl rfl) (pe_op op_modN (pe_callTy c_int1 rfl T.f_int (by decide +kernel) (pa_cons (pv 3) pa_nil)) pe_int))
    (pss_one (ps_ret (pe_op op_modN (pe_callTy c_int1 rfl T.f_int (by decide +kernel) (pa_cons (pe_op op_fdivN (pv 3) pe_int) pa_nil)) (pv 1))))))))), ?_⟩
  try dsimp only [nox_K]
  refine rd_st (σ' := [some (.ref d), some (vI n), none, none, none]) rfl ?_
  walk_at "w"
  refine rd_ixL (SqL.of hd) (v := .int g) rfl ?_
  walk_at "w"
  by_cases hg : g > 0
  · refine rd_dT hg ?_
    walk_at "w"
    refine rd_ixL (SqL.of hd) (v := .int g) rfl ?_
    walk_at "w"
    refine rd_I (by show (n : Int) ≠ 0; omega) ?_
    walk_at "w"
    refine rd_ixL (SqL.of hd) (v := .int g) rfl ?_
    walk_at "w"
    refine rd_I ⟨by omega, by omega⟩ ?_
    walk_at "w"
    refine rd_setL hd (ixN_nat (j := 0) (by simp)) ?_
    walk_at "w"
    obtain ⟨r, h1, h2⟩ := fmod_nat g hn
    rw [h1]
    exact k r _ FrD.upd ⟨_, _, _, upd_same⟩ h2
  · refine rd_dF hg ?_
    walk_at "w"
    refine rd_ixL (SqL.of hd) (v := .int c) rfl ?_
    walk_at "w"
    refine rd_setL hd (ixN_nat (j := 2) (by simp)) ?_
    walk_at "w"
    refine rd_ixL (SqL.of upd_same) (v := .int b) rfl ?_
    walk_at "w"
    refine rd_ixL (SqL.of upd_same) (v := .int (c + 1)) rfl ?_
    walk_at "w"
    refine rd_I (.inl ⟨by decide, by decide⟩) ?_
    walk_at "w"
    refine rd_I (by decide) ?_
    walk_at "w"
    obtain ⟨r1, h1, h2⟩ := fmod_nat (b + 998244341 * (c + 1)) (n := 2305843009213693951) (by decide)
    have h1' : (b + 998244341 * (c + 1)).fmod 2305843009213693951 = (r1 : Int) := h1
    rw [h1']
    refine rd_I (.inl ⟨by omega, by omega⟩) ?_
    walk_at "w"
    refine rd_I (by decide) ?_
    walk_at "w"
    refine rd_I (.inr ⟨by omega, by omega⟩) ?_
    walk_at "w"
    refine rd_ixL (SqL.of upd_same) (v := .int (c + 1)) rfl ?_
    walk_at "w"
    refine rd_I (.inl ⟨by decide, by decide⟩) ?_
    walk_at "w"
    refine rd_I (by decide) ?_
    walk_at "w"
    refine rd_I ⟨by decide, by decide⟩ ?_
    walk_at "w"
    refine rd_I (by show (n : Int) ≠ 0; omega) ?_
    obtain ⟨r, h3, h4⟩ := fmod_nat (((((r1 : Int) * r1).fmod 2305843009213693921 * r1 + 9397 * (c + 1)).fmod 2305843009213693723).fdiv 8192) hn
    rw [h3]
    exact k r _ FrD.upd ⟨_, _, _, upd_same⟩ h4
def sp_law_pick : Sp := fun vs H Q _ => ∃ (d l : Addr) (xs : List V), vs = [.ref d, .ref l] ∧ Dice H d ∧ H l = some (.lst xs) ∧ l ≠ d ∧ 0 < xs.length ∧ xs.length ≤ 1000 ∧ ∀ (r : Nat) x H', FrD d H H' → Dice H' d → xs[r]? = some x → Q x H'
theorem ok_law_pick (T : Ty K mg C) : Gf P w K mg base "_law_pick" 2 sp_law_pick := by
  have G__law_roll := ok_law_roll (P := P) (w := w) (base := base) T
  refine T.d__law_pick.ok sc__law_pick (fun vs H Q E h => ?_) (fun f cdv A outer s H vs Q E hr h => ?_)
  · obtain ⟨d, l, xs, rfl, _⟩ := h
    rfl
  obtain ⟨d, l, xs, rfl, hd, hl, hne, h0, h1, k⟩ := h
  refine ⟨_, (pss_one (ps_ret (pe_ix ix_list (pv 1) (pe_g G__law_roll (hr.mono (by decide)) (pa_cons (pv 0) (pa_cons (pe_callB c_lenS rfl T.f_len PySem.boot_len (pa_cons (pv 1) pa_nil)) pa_nil))) (fun _ _ => rfl)))), ?_⟩
  try dsimp only [nox_K]
  refine rd_st (σ' := [some (.ref d), some (.ref l)]) rfl ?_
  walk_at "w"
  refine rd_len (.inl (SqL.of hl)) ?_
  walk_at "w"
  refine ⟨d, xs.length, rfl, hd, h0, h1, fun r H1 f1 hd1 hr1 => ?_⟩
  have hx : xs[r]? = some xs[r] := List.getElem?_eq_getElem hr1
  refine rd_ixL (SqL.of (f1 _ _ hne hl)) (atI_nat hx) ?_
  exact k r _ H1 f1 hd1 hx
def sp_law_some (K : PySem.W.Frag) : Sp := fun vs H Q _ => ∃ (d l : Addr) (n : Nat) (xs : List V), vs = [.ref d, .ref l, vI n] ∧ Dice H d ∧ H l = some (.lst xs) ∧ xs.length ≤ 1000 ∧ ∀ q H' ys zs, FrD d H H' → Dice H' d → H q = none → H' q = some (.lst ys) → (ys ++ zs).Perm xs → ys.length ≤ n → ys.length = min n xs.length → Q (.ref q) H'
theorem ok_law_some (T : Ty K mg C) : Gf P w K mg base "_law_some" 2 (sp_law_some K) := by
  have G__law_roll := ok_law_roll (P := P) (w := w) (base := base) T
  refine T.d__law_some.ok sc__law_some (fun vs H Q E h => ?_) (fun f cdv A outer s H vs Q E hr h => ?_)
  · obtain ⟨d, l, n, xs, rfl, _⟩ := h
    rfl
  obtain ⟨d, l, n, xs, rfl, hd, hl, h1, k⟩ := h
  refine ⟨_, (pss_cons (ps_set (i := 3) sc__law_some.nd rfl (Or.inr rfl) (pe_callTy c_listS rfl T.f_list (by decide +kernel) (pa_cons (pv 1) pa_nil)))
    (pss_one (ps_ret (pe_lc (own := [("_law_turn", 4)]) rfl sc__law_some.nd (pi_range1 rfl T.f_range (pa_cons (pe_callB (c_min2 rfl) rfl T.f_min (by decide +kernel) (pa_cons (pv 2) (pa_cons (pe_callB c_lenS rfl T.f_len PySem.boot_len (pa_cons (pv 3) pa_nil)) pa_nil))) pa_nil)) (blkOk_by (own := [("_law_turn", 4)]) (N := ["_law_dice_here", "_law_items", "_law_size", "_law_left", "_law_turn"]) (sc := defScope s__law_some) (by decide +kernel)) (fun _ _ _ _ _ => (pg_name (i := 4) sc__law_some.nd rfl (Or.inl rfl))) (fun _ _ _ _ _ => pts_nil) (fun _ _ _ _ _ => (bm_k (K := K) rfl PySem.F.plainAttrs_list PySem.F.slot_list_pop PySem.F.type_list_pop mt_popAt (pv 3) (pa_cons (pe_g G__law_roll (hr.mono (by decide)) (pa_cons (pv 0) (pa_cons (pe_callB (lenS_k (K := K) rfl) rfl T.f_len PySem.boot_len (pa_cons (pv 3) pa_nil)) pa_nil))) pa_nil))))))), ?_⟩
  try dsimp only [nox_K]
  refine rd_st (σ' := [some (.ref d), some (.ref l), some (vI n), none, none]) rfl ?_
  walk_at "w"
  refine rd_listS (.inl (SqL.of hl)) fun m hm => ?_
  walk_at "w"
  refine rd_len (.inl (SqL.of upd_same)) ?_
  have hmd := hd.ne hm
  walk_at "w"
  refine ⟨_, rfl, by split <;> omega, by split <;> omega, fun D hD => ?_⟩
  have emin : (if ((xs.length : Nat) : Int) < (n : Int) then ((xs.length : Nat) : Int) else (n : Int)).toNat = min n xs.length := by split <;> omega
  rw [emin]
  have hD0 : H D = none := (same_new hm (.lst xs)).free hD
  have hDm : D ≠ m := fun z => by subst z; rw [upd_same] at hD; cases hD
  have hDd := hd.ne hD0
  refine lc_gen walk_range (fun i acc H' => FrD d H H' ∧ Dice H' d ∧ acc.length = i ∧ ∃ zs, H' m = some (.lst zs) ∧ (acc ++ zs).Perm xs) (by omega) ?_ (fun _ _ _ _ => trivial) ?_ ?_
  · have s0 : Same H (upd (upd H m (.lst xs)) D (.lst [])) := (same_new hm _).trans (same_new hD _)
    exact ⟨FrD.of s0, hd.same s0, rfl, xs, by rw [upd_ne hDm.symm, upd_same], .refl _⟩
  · rintro i acc x H2 H1 hi hal hD' ⟨fr, hd1, hai, zs, hm1, hp⟩ ⟨rfl, rfl⟩
    have hzl : i + zs.length = xs.length := by
      have := hp.length_eq
      rw [List.length_append] at this
      omega
    walk_at "w"
    refine ⟨rfl, ?_⟩
    walk_at "w"
    refine ⟨tyV_l (SqL.of hm1), ?_⟩
    walk_at "w"
    refine rd_len (.inl (SqL.of hm1)) ?_
    walk_at "w"
    refine ⟨d, zs.length, rfl, hd1, by omega, by omega, fun r H3 f3 hd3 hr3 => ?_⟩
    walk_at "w"
    have hm3 := f3 _ _ hmd hm1
    have hzr : zs[r]? = some zs[r] := List.getElem?_eq_getElem hr3
    have hD3 := f3 _ _ hDd hD'
    refine ⟨m, zs, _, r, _, rfl, rfl, hm3, by omega, by omega, (ixN_seq (ixN_nat hr3)).1, hzr, ?_⟩
    have hD4 : upd H3 m (.lst (zs.eraseIdx r)) D = some (.lst acc) := by rw [upd_ne hDm]; exact hD3
    refine ⟨acc, hD4, smallL (by omega), acc ++ [zs[r]], upd_same, by rw [List.length_append]; simp; omega, ?_, ?_, by rw [List.length_append, hai]; rfl, zs.eraseIdx r, ?_, ?_⟩
    · exact fun a o na e => by
        rw [upd_ne (ne_of_none e hD0), upd_ne (ne_of_none e hm)]
        exact (fr.trans f3) a o na e
    · obtain ⟨g, b, c, hd3⟩ := hd3
      exact ⟨g, b, c, by rw [upd_ne hDd.symm, upd_ne hmd.symm]; exact hd3⟩
    · rw [upd_ne hDm.symm, upd_same]
    · refine List.Perm.trans ?_ hp
      rw [List.append_assoc]
      refine List.Perm.append_left _ ?_
      exact erase_perm zs r hr3
  · rintro acc H1 hD' hal ⟨fr, hd1, hai, zs, hm1, hp⟩
    exact k D H1 acc zs fr hd1 hD0 hD' hp (by omega) hai
end
end FN
set_option maxHeartbeats 4000000
namespace FN
open PySem PySem.Spec PyProof.Rows L2
local macro_rules | `(tactic| walk_at "w") => `(tactic| repeat (with_reducible first
  | refine rd_seq ?_
  | refine rd_asg ?_
  | refine rd_name ?_
  | refine rd_ret ?_
  | refine rd_drop ?_
  | refine rd_if ?_
  | refine rd_next ?_
  | refine rd_var (by k_dflt rfl) ?_
  | refine rd_c ?_
  | refine rd_op ?_
  | refine rd_un ?_
  | refine rd_test ?_
  | refine rd_B ?_
  | refine rd_I0 ?_
  | refine rd_U ?_
  | refine rd_eqI ?_
  | refine rd_neI ?_
  | refine rd_eqS ?_
  | refine rd_neS ?_
  | refine rd_and ?_
  | refine rd_or ?_
  | refine rd_not ?_
  | refine rd_andV ?_
  | refine rd_orV ?_
  | refine rd_notV ?_
  | refine rd_ife ?_
  | refine rd_chain ?_
  | refine rd_exb ?_
  | refine rd_exi ?_
  | refine rd_nil ?_
  | refine rd_cons ?_
  | refine rd_CB ?_
  | refine rd_G ?_
  | refine rd_fld ?_
  | refine rd_sl ?_
  | refine rd_part ?_
  | refine rd_noPart ?_
  | refine rd_leaf ?_
  | refine rd_tup ?_
  | refine rd_lst ?_
  | refine rd_star ?_
  | refine rd_bm ?_
  | refine rd_bm0 ?_
  | refine rd_gsub ?_
  | refine rd_rev ?_
  | refine rd_gnil ?_
  | refine rd_gcons ?_
  | refine rd_yes ?_
  | refine rd_abs ?_
  | refine rd_max2 ?_
  | refine rd_min2 ?_
  | refine rd_int1 ?_
  | refine rd_int1b ?_
  | refine rd_inSign ?_
  | refine rd_niSign ?_
  | refine rd_isN ?_
  | refine rd_ntN ?_
  | refine rd_dcLst ?_
  | refine rd_dcTup ?_
  | refine rd_dcItems ?_
  | refine rd_lcTup ?_
  | refine rd_lcLst ?_
  | refine rd_lcStr ?_
  | refine rd_lcR1 ?_
  | refine rd_lcR2 ?_
  | refine rd_lcKeys ?_
  | refine rd_lcVals ?_
  | refine rd_lcItems ?_
  | refine rd_lcZip ?_
  | refine rd_forTup ?_
  | refine rd_forLst ?_
  | refine rd_forR1 ?_
  | refine rd_forR2 ?_
  | refine rd_forR3 ?_
  | refine rd_forZip ?_
  | refine rd_forItems ?_
  | refine rd_lcEnumT ?_
  | refine rd_forEnumT ?_
  | refine rd_oneStr ?_
  | refine rd_mkR ?_
  | refine rd_mk0 ?_
  | refine rd_mR ?_
  | refine rd_mN ?_
  | refine rd_pr ?_
  | refine rd_cmR ?_
  | refine rd_makeC ?_
  | refine rd_tM1 ?_
  | refine rd_fmtT ?_
  | refine ⟨rd_exs, ?_⟩
  | refine rd_listZip ?_
  | refine rd_lenSetS ?_
  | refine rd_sfld ?_
  | refine rd_jc ?_
  | refine rd_jn ?_
  | refine rd_par ?_
  | refine rd_par3 ?_
  | refine rd_dupd ?_
  | refine rd_disp ?_
  | refine rd_pc ?_
  | refine rd_pn ?_
  | refine rd_dni ?_
  | refine rd_dget ?_
  | refine rd_dget2 ?_
  | refine rd_dput ?_
  | refine rd_T ?_
  | refine rd_F ?_
  | refine rd_nT ?_
  | refine rd_nF ?_))
/-! ### d.update(e), both dicts of texts and numbers -/
def rDUpd : V → List V → Hp → VK → Prop := fun x xs H Q => ∃ (d o : Addr) (kvs more : List (Key × V)), x = V.ref d ∧ xs = [V.ref o] ∧ d ≠ o ∧ H d = some (.dK kvs) ∧ H o = some (.dK more) ∧ kvs.length + more.length ≤ sizeLine ∧ Q .non (upd H d (.dK (mergeK kvs more)))
theorem mt_dupdate {X : Cx} : MtR X "dict.update" rDUpd := by
  intro pins s σ H x xs v us Q I rx rxs h
  obtain ⟨d, o, kvs, more, rfl, rfl, hdo, hd, ho, hz, q⟩ := h
  cases rx
  cases rxs with
  | cons ry rt =>
    cases rt
    cases ry
    obtain ⟨z1, m1, vs1, r1, d1⟩ := dk_of I.hok hd
    obtain ⟨z2, m2, vs2, r2, d2⟩ := dk_of I.hok ho
    refine call_meetsIn PySem.F.slot_dict_update d1.typeIs PySem.F.entry_dict_update (PySem.F.args_dict_update_2 _ _) (meets_dict_update (mixKind X.prog X.w) d o hdo m2) ⟨vs1, vs2, d1, d2, by rw [← r1.length, ← r2.length]; exact hz, fun h' dd _ sb => ?_⟩
    have rm : KV (mergeK kvs more) (merged vs1 vs2) := KV.merge r2 r1
    have hl : (mergeK kvs more).length ≤ sizeLine := by
      rw [rm.length]
      refine Nat.le_trans (merged_length_le vs1 vs2) ?_
      rw [← r1.length, ← r2.length]; exact hz
    have he : ∃ u, h'.get? d = some u := by
      obtain ⟨ob, _, _, h1, _⟩ := dd
      exact ⟨ob, h1⟩
    exact ⟨.non, upd H d (.dK (mergeK kvs more)), I.write (e := d) (t' := s.toks) (by rw [hd]; trivial) (.inl rfl) (fun b u hb hu => (sb.2 b hb).trans hu) he ⟨hl, m1, _, rm, dd⟩, rfl, q⟩
/-- x.update(e) -/
def tDUpd (to : TE) (t : TA) : TE := fun σ H Q => to σ H fun x H1 => (∃ d kvs, x = V.ref d ∧ H1 d = some (.dK kvs)) ∧ t σ H1 fun xs H2 => rDUpd x xs H2 Q
theorem rd_dupd {to : TE} {t : TA} {σ : L2.St} {H : Hp} {Q : VK} (h : to σ H fun x H1 => (∃ d kvs, x = V.ref d ∧ H1 d = some (.dK kvs)) ∧ t σ H1 fun xs H2 => rDUpd x xs H2 Q) : tDUpd to t σ H Q := h
theorem pe_dupd {X : Cx} {o e : Expr} {es : List Expr} {to : TE} {t : TA} {apos cpos : Pos} (ho : PE X o to) (ha : PA X (e :: es) t)
    (hbase : attributeBase o "update" X.env (eval o X.env) = eval o X.env := by rfl)
    (hfew : ((backTo cpos (starEach (e :: es) X.env)).all (fun x => !x.1) && (backToKw cpos (keywordEach [] X.env)).all (fun x => x.1.isSome)
      && decide ((e :: es).length + ([] : List Keyword).length + (if ([] : List Keyword).isEmpty then 0 else 1) < 30)) = true := by rfl)
    (hline : (apos.endLine == cpos.line) = true := by rfl) (hs : starEach (e :: es) X.env = (false, eval e X.env) :: starEach es X.env := by rfl) (hplain : (backTo cpos (starEach es X.env)).any (·.1) = false := by rfl) :
    PE X (.Call (.Attribute o "update" apos) (e :: es) [] cpos) (tDUpd to t) := by
  refine ⟨fun pins s σ H Q I h => ?_⟩
  refine wpAny_Call_method_late hbase hfew hline rfl (thn (ho.run pins s σ H _ I h) fun v s1 ⟨x, H1, I1, r1, ty, q1⟩ => ?_)
  obtain ⟨d, kvs, rfl, hd⟩ := ty
  cases r1
  obtain ⟨z1, m1, vs1, rr, d1⟩ := dk_of I1.hok hd
  refine ⟨"dict", "dict.update", PySem.F.plainAttrs_dict, PySem.F.slot_dict_update, PySem.F.type_dict_update, d1.typeIs, (fun b q => by
    cases q
    obtain ⟨ob, _, _, h1, h2, _⟩ := d1
    exact ⟨ob, h1, h2.2.1⟩), ?_⟩
  have hA := ha.run cpos pins s1 σ H1 _ I1 q1
  rw [hs] at hA ⊢
  refine Calls.callWith_builtin (by show (false || (backTo cpos (starEach es X.env)).any (·.1)) = false; rw [hplain] <;> rfl) (Calls.evalArgs_plain ?_)
  exact thn hA fun us s2 ⟨vs, H2, I2, r2, q2⟩ => mt_dupdate pins s2 σ H2 (.ref d) vs (.ref d) us Q I2 rfl r2 q2
/-- a dict display of texts and numbers -/
theorem rd_disp {trs : List (TE × TE)} {σ : L2.St} {H : Hp} {Q : VK} (h : ∀ p, H p = none → tPairs trs σ (upd H p (.dK [])) fun ps H2 => H2 p = some (.dK []) ∧ ∃ kvs : List (Key × V), ps = kvs.map (fun kv => (kV kv.1, kv.2)) ∧ kvs.length ≤ 15 ∧ Q (.ref p) (upd H2 p (.dK (mergeK [] kvs)))) : tDisp trs σ H Q := h
theorem rd_pn {σ : L2.St} {H : Hp} {Q : List (V × V) → Hp → Prop} (h : Q [] H) : tPairs [] σ H Q := h
theorem rd_pc {tk tv : TE} {r : List (TE × TE)} {σ : L2.St} {H : Hp} {Q : List (V × V) → Hp → Prop} (h : tk σ H fun x H1 => tv σ H1 fun y H2 => tPairs r σ H2 fun ps H3 => Q ((x, y) :: ps) H3) : tPairs ((tk, tv) :: r) σ H Q := h
def rSortD : List V → Hp → VK → Prop := fun xs H Q => ∃ (a : Addr) (kvs : List (Key × V)) (ks : List Str), xs = [.ref a] ∧ Rd H a (.dK kvs) ∧ kvs.map (·.1) = ks.map Sum.inr ∧ ks.length < 64 ∧
    ∀ ys p, ys.Perm ks → sortedS ys = true → H p = none → Q (.ref p) (upd H p (.lst (ys.map V.str)))
theorem c_sortD {X : Cx} (hc : X.calm = true) : CallR X (.builtin "sorted") rSortD := call_sortedD hc
theorem rd_sortD {H : Hp} {Q : VK} {a : Addr} {S : List Nd} (h : H a = some (.dK (S.map kvN))) (hz : S.length < 64) (k : ∀ ys p, ys.Perm (S.map (·.1)) → sortedS ys = true → H p = none → Q (.ref p) (upd H p (.lst (ys.map V.str)))) : rSortD [.ref a] H Q :=
  ⟨a, _, S.map (·.1), rfl, .inl h, by rw [List.map_map, List.map_map]; rfl, by rw [List.length_map]; exact hz, k⟩
end FN
set_option maxHeartbeats 4000000
namespace FN
open PySem PySem.Spec PyProof.Rows L2
local macro_rules | `(tactic| walk_at "w") => `(tactic| repeat (with_reducible first
  | refine rd_seq ?_
  | refine rd_asg ?_
  | refine rd_name ?_
  | refine rd_ret ?_
  | refine rd_drop ?_
  | refine rd_if ?_
  | refine rd_next ?_
  | refine rd_var (by k_dflt rfl) ?_
  | refine rd_c ?_
  | refine rd_op ?_
  | refine rd_un ?_
  | refine rd_test ?_
  | refine rd_B ?_
  | refine rd_I0 ?_
  | refine rd_U ?_
  | refine rd_eqI ?_
  | refine rd_neI ?_
  | refine rd_eqS ?_
  | refine rd_neS ?_
  | refine rd_and ?_
  | refine rd_or ?_
  | refine rd_not ?_
  | refine rd_andV ?_
  | refine rd_orV ?_
  | refine rd_notV ?_
  | refine rd_ife ?_
  | refine rd_chain ?_
  | refine rd_exb ?_
  | refine rd_exi ?_
  | refine rd_nil ?_
  | refine rd_cons ?_
  | refine rd_CB ?_
  | refine rd_G ?_
  | refine rd_fld ?_
  | refine rd_sl ?_
  | refine rd_part ?_
  | refine rd_noPart ?_
  | refine rd_leaf ?_
  | refine rd_tup ?_
  | refine rd_lst ?_
  | refine rd_star ?_
  | refine rd_bm ?_
  | refine rd_bm0 ?_
  | refine rd_gsub ?_
  | refine rd_rev ?_
  | refine rd_gnil ?_
  | refine rd_gcons ?_
  | refine rd_yes ?_
  | refine rd_abs ?_
  | refine rd_max2 ?_
  | refine rd_min2 ?_
  | refine rd_int1 ?_
  | refine rd_int1b ?_
  | refine rd_inSign ?_
  | refine rd_niSign ?_
  | refine rd_isN ?_
  | refine rd_ntN ?_
  | refine rd_dcLst ?_
  | refine rd_dcTup ?_
  | refine rd_dcItems ?_
  | refine rd_lcTup ?_
  | refine rd_lcLst ?_
  | refine rd_lcStr ?_
  | refine rd_lcR1 ?_
  | refine rd_lcR2 ?_
  | refine rd_lcKeys ?_
  | refine rd_lcVals ?_
  | refine rd_lcItems ?_
  | refine rd_lcZip ?_
  | refine rd_forTup ?_
  | refine rd_forLst ?_
  | refine rd_forR1 ?_
  | refine rd_forR2 ?_
  | refine rd_forR3 ?_
  | refine rd_forZip ?_
  | refine rd_forItems ?_
  | refine rd_lcEnumT ?_
  | refine rd_forEnumT ?_
  | refine rd_oneStr ?_
  | refine rd_mkR ?_
  | refine rd_mk0 ?_
  | refine rd_mR ?_
  | refine rd_mN ?_
  | refine rd_pr ?_
  | refine rd_cmR ?_
  | refine rd_makeC ?_
  | refine rd_tM1 ?_
  | refine rd_fmtT ?_
  | refine ⟨rd_exs, ?_⟩
  | refine rd_listZip ?_
  | refine rd_lenSetS ?_
  | refine rd_sfld ?_
  | refine rd_jc ?_
  | refine rd_jn ?_
  | refine rd_par ?_
  | refine rd_par3 ?_
  | refine rd_dupd ?_
  | refine rd_disp ?_
  | refine rd_pc ?_
  | refine rd_pn ?_
  | refine rd_dni ?_
  | refine rd_dget ?_
  | refine rd_dget2 ?_
  | refine rd_dput ?_
  | refine rd_T ?_
  | refine rd_F ?_
  | refine rd_nT ?_
  | refine rd_nF ?_))
/-- terms as the law draws them -/
def TmG (S : List Nd) (L : List Str) (t : Tm) : Prop := ∀ n ∈ nodes t, n ∈ S ∨ (n.1 ∈ L ∧ n.2 = 0)
def Lvs (L : List Str) : Prop := L.length ≤ 2 ∧ ∀ w ∈ L, w = "_" ∨ w = "#"
theorem SG.ok {S : List Nd} (h : SG S) {n : Nd} (hn : n ∈ S) : NdW n ∧ n.1 ∉ [("_" : Str), ("#" : Str)] := by
  obtain ⟨c, h1, h2, h3⟩ := h.row n hn
  refine ⟨⟨c, h1, h3, .inl h2⟩, fun q => ?_⟩
  rw [h1] at q
  rcases List.mem_cons.mp q with e | q
  · have e2 : [c] = [95] := congrArg (fun z : Str => z.cps.toList) e
    have e3 : c = 95 := (List.cons.inj e2).1
    subst e3; exact absurd h2 (by decide)
  · have e2 : [c] = [35] := congrArg (fun z : Str => z.cps.toList) (List.mem_singleton.mp q)
    have e3 : c = 35 := (List.cons.inj e2).1
    subst e3; exact absurd h2 (by decide)
theorem ndw_leaf {w : Str} (h : w = "_" ∨ w = "#") : NdW (w, 0) := by
  rcases h with rfl | rfl
  · exact ⟨95, rfl, by decide, .inr ⟨List.mem_cons_self, rfl⟩⟩
  · exact ⟨35, rfl, by decide, .inr ⟨List.mem_cons_of_mem _ List.mem_cons_self, rfl⟩⟩
theorem TmG.nd {S : List Nd} {L : List Str} {t : Tm} (h : TmG S L t) (hS : SG S) (hL : Lvs L) : ∀ n ∈ nodes t, NdW n := fun n hn => by
  rcases h n hn with h | ⟨h1, h2⟩
  · exact (hS.ok h).1
  · have := ndw_leaf (hL.2 _ h1)
    rw [show n = (n.1, 0) from Prod.ext rfl h2]; exact this
theorem nodk_inj {S : List Nd} (h : NodK S) {n m : Nd} (hn : n ∈ S) (hm : m ∈ S) (e : n.1 = m.1) : n = m := by
  have h1 := valV_in h hn
  have h2 := valV_in h hm
  rw [e, h2] at h1
  have h3 : ((n.2 : Nat) : Int) = (m.2 : Nat) := by simpa using h1.symm
  exact Prod.ext e (by omega)
theorem TmG.w {S : List Nd} {L : List Str} {t : Tm} (h : TmG S L t) (hS : SG S) (hL : Lvs L) (hz : size t ≤ 40) : TmW t := by
  refine ⟨h.nd hS hL, fun n hn m hm e => ?_, hz⟩
  rcases h n hn with h1 | ⟨h1, h2⟩ <;> rcases h m hm with g1 | ⟨g1, g2⟩
  · exact nodk_inj hS.nod h1 g1 e
  · have := (hS.ok h1).2
    rw [e] at this
    exact absurd (by rcases hL.2 _ g1 with q | q <;> rw [q] <;> simp) this
  · have := (hS.ok g1).2
    rw [← e] at this
    exact absurd (by rcases hL.2 _ h1 with q | q <;> rw [q] <;> simp) this
  · exact Prod.ext e (by rw [h2, g2])
theorem TmG.b {S : List Nd} {L : List Str} {t : Tm} (h : TmG S L t) (hS : SG S) (hL : Lvs L) (hz : size t ≤ 40) : TmB S t := ⟨h.w hS hL hz, fun n hn hw => by
  rcases h n hn with h1 | ⟨h1, _⟩
  · exact h1
  · exact absurd (by rcases hL.2 _ h1 with q | q <;> rw [q] <;> simp) hw⟩
mutual
theorem size_dep : ∀ t : Tm, (∀ n ∈ nodes t, n.2 ≤ 3) → 2 * size t + 1 ≤ 3 ^ dep t
  | .mk w ts, h => by
    rw [nodes] at h
    have h1 : ts.length ≤ 3 := h (w, ts.length) List.mem_cons_self
    have h2 := sizes_dep ts fun n hn => h n (List.mem_cons_of_mem _ hn)
    rw [size, dep, Nat.pow_succ]
    have h4 : 1 ≤ 3 ^ depL ts := Nat.one_le_pow _ _ (by decide)
    have h5 : ts.length = 0 ∨ ts.length = 1 ∨ ts.length = 2 ∨ ts.length = 3 := by omega
    rcases h5 with h | h | h | h <;> rw [h] at h2 <;> omega
theorem sizes_dep : ∀ ts : List Tm, (∀ n ∈ nodesL ts, n.2 ≤ 3) → 2 * sizes ts + ts.length ≤ ts.length * 3 ^ depL ts
  | [], _ => by rw [sizes]; simp
  | t :: r, h => by
    rw [nodesL] at h
    have h1 := size_dep t fun n hn => h n (List.mem_append_left _ hn)
    have h2 := sizes_dep r fun n hn => h n (List.mem_append_right _ hn)
    rw [sizes, depL, List.length_cons, Nat.add_mul, Nat.one_mul]
    have h3 : 3 ^ dep t ≤ 3 ^ max (dep t) (depL r) := Nat.pow_le_pow_right (by decide) (Nat.le_max_left _ _)
    have h4 : r.length * 3 ^ depL r ≤ r.length * 3 ^ max (dep t) (depL r) := Nat.mul_le_mul_left _ (Nat.pow_le_pow_right (by decide) (Nat.le_max_right _ _))
    omega
end
theorem TmG.size {S : List Nd} {L : List Str} {t : Tm} (h : TmG S L t) (hS : SG S) (hL : Lvs L) {n : Nat} (hd : dep t ≤ n) : 2 * size t + 1 ≤ 3 ^ n :=
  Nat.le_trans (size_dep t fun m hm => by obtain ⟨c, _, h3, _⟩ := h.nd hS hL m hm; exact h3) (Nat.pow_le_pow_right (by decide) hd)
def vW (n : Nd) : V := .str n.1
section
variable {P : Program} {w : World} {K : PySem.W.Frag} {mg : Str → Option Value} {base : Heap} {C : Ad}
theorem tp_leaf {H : Hp} {a b : Addr} {z : Str} (h1 : SqT K H a [.str z, .ref b]) (h2 : SqT K H b []) : Tp K H (.ref a) (tmD (.mk z [])) := tp_tm h1 h2 .nil
/-- the dict of symbols at sd -/
structure Sy (H : Hp) (sd : Addr) (S : List Nd) : Prop where
  at_ : H sd = some (.dK (S.map kvN))
  sg : SG S
theorem Sy.ne {H : Hp} {sd d : Addr} {S : List Nd} (h : Sy H sd S) (hd : Dice H d) : sd ≠ d := fun z => by
  subst z
  obtain ⟨g, b, c, q⟩ := hd
  rw [h.at_] at q; cases q
theorem Sy.fr {H H' : Hp} {sd d : Addr} {S : List Nd} (h : Sy H sd S) (hd : Dice H d) (f : FrD d H H') : Sy H' sd S := ⟨f _ _ (h.ne hd) h.at_, h.sg⟩
theorem Sy.same {H H' : Hp} {sd : Addr} {S : List Nd} (h : Sy H sd S) (f : Same H H') : Sy H' sd S := ⟨f _ _ h.at_, h.sg⟩
theorem Sy.get {H : Hp} {sd : Addr} {S : List Nd} (h : Sy H sd S) {n : Nd} (hn : n ∈ S) : DGet H sd (.str n.1) (some (vI n.2)) := dgetS h.at_ (valV_in h.sg.nod hn)
def sp_law_term (K : PySem.W.Frag) (n : Nat) : Sp := fun vs H Q _ => ∃ (d sd lv : Addr) (S : List Nd) (L : List Str) (k : Nat), vs = [.ref d, .ref sd, .ref lv, vI k] ∧ Dice H d ∧ Sy H sd S ∧ H lv = some (.lst (L.map V.str)) ∧ lv ≠ d ∧ Lvs L ∧ k ≤ n ∧
  ∀ y H' t, FrD d H H' → Dice H' d → Tp K H' y (tmD t) → TmG S L t → dep t ≤ k + 1 → Q y H'
theorem ok_law_term (T : Ty K mg C) : ∀ n, Gf P w K mg base "_law_term" (n + 3) (sp_law_term K n)
  | n => by
    have G__law_roll := ok_law_roll (P := P) (w := w) (base := base) T
    have G__law_pick := ok_law_pick (P := P) (w := w) (base := base) T
    have G__law_term : Gf P w K mg base "_law_term" (n + 2) (fun vs H Q E => ∃ m, n = m + 1 ∧ sp_law_term K m vs H Q E) := by
      cases n with
      | zero =>
        refine T.d__law_term.ok (k := 1) sc__law_term (fun vs H Q E h => ?_) (fun f cdv A outer s H vs Q E hr h => ?_)
        · obtain ⟨m, h, _⟩ := h
          omega
        · obtain ⟨m, h, _⟩ := h
          omega
      | succ m =>
        obtain ⟨f, F, a, b⟩ := ok_law_term T m
        refine ⟨f, F.imp fun vs H Q E h => ?_, a, b⟩
        obtain ⟨m', e, h⟩ := h
        have : m = m' := by omega
        subst this
        exact h
    refine T.d__law_term.ok sc__law_term (fun vs H Q E h => ?_) (fun f cdv A outer s H vs Q E hr h => ?_)
    · obtain ⟨d, sd, lv, S, L, k, rfl, _⟩ := h
      rfl
    obtain ⟨d, sd, lv, S, L, kd, rfl, hd, hsy, hlv, hlvd, hL, hkn, k⟩ := h
    have hSl := hsy.sg.len
    refine ⟨_, (pss_cons (ps_setLc (i := 4) (own := [("_law_word", 5)]) rfl sc__law_term.nd rfl rfl (sw_true rfl rfl rfl (by decide +kernel)) (pi_list (pe_callB (c_sortD rfl) rfl T.f_sorted (by decide +kernel) (pa_cons (pv 1) pa_nil))) (blkOk_by (own := [("_law_word", 5)]) (N := ["_law_dice_here", "_law_symbols_here", "_law_leaves_here", "_law_deep", "_law_bare", "_law_word", "_law_one", "_law_at"]) (sc := defScope s__law_term) (by decide +kernel)) (fun _ _ _ _ _ => (pg_name (i := 5) sc__law_term.nd rfl (Or.inl rfl))) (fun _ _ _ _ _ => (pts_one (pt_cmpR op_eq (pe_dget (hu1 hr) (pv 1) (pv 5) (fun _ _ => rfl)) pe_int (nomark _)))) (fun _ _ _ _ _ => (pv 5)))
      (pss_cons (ps_if (PW.pt (pw_or (pt_cmpR op_eq (pv 3) pe_int (nomark _)) (pw_or1 (pt_cmpR op_eq (pe_g G__law_roll (hr.mono (by omega)) (pa_cons (pv 0) (pa_cons pe_int pa_nil))) pe_int (nomark _))))) (pss_one (ps_ret (pe_tup (pa_cons (pe_g G__law_pick (hr.mono (by omega)) (pa_cons (pv 0) (pa_cons (pe_op op_cat (pe_op op_cat (pv 4) (pv 2)) (pv 2)) pa_nil))) (pa_cons (pe_tup pa_nil) pa_nil))))) pss_nil)
      (pss_cons (ps_set (i := 5) sc__law_term.nd rfl (Or.inl rfl) (pe_g G__law_pick (hr.mono (by omega)) (pa_cons (pv 0) (pa_cons (pe_op op_cat (pe_callB (c_sortD rfl) rfl T.f_sorted (by decide +kernel) (pa_cons (pv 1) pa_nil)) (pe_lc (own := [("_law_one", 6)]) rfl sc__law_term.nd (pi_list (pe_callB (c_sortD rfl) rfl T.f_sorted (by decide +kernel) (pa_cons (pv 1) pa_nil))) (blkOk_by (own := [("_law_one", 6)]) (N := ["_law_dice_here", "_law_symbols_here", "_law_leaves_here", "_law_deep", "_law_bare", "_law_word", "_law_one", "_law_at"]) (sc := defScope s__law_term) (by decide +kernel)) (fun _ _ _ _ _ => (pg_name (i := 6) sc__law_term.nd rfl (Or.inl rfl))) (fun _ _ _ _ _ => (pts_one (pt_cmpR op_gt (pe_dget (hu1 hr) (pv 1) (pv 6) (fun _ _ => rfl)) pe_int (nomark _)))) (fun _ _ _ _ _ => (pv 6)))) pa_nil))))
      (pss_one (ps_ret (pe_tup (pa_cons (pv 5) (pa_cons (pe_callTy c_tupS rfl T.f_tuple (by decide +kernel) (pa_cons (pe_lc (own := [("_law_at", 7)]) rfl sc__law_term.nd (pi_range1 rfl T.f_range (pa_cons (pe_dget (hu1 hr) (pv 1) (pv 5) (fun _ _ => rfl)) pa_nil)) (blkOk_by (own := [("_law_at", 7)]) (N := ["_law_dice_here", "_law_symbols_here", "_law_leaves_here", "_law_deep", "_law_bare", "_law_word", "_law_one", "_law_at"]) (sc := defScope s__law_term) (by decide +kernel)) (fun _ _ _ _ _ => (pg_name (i := 7) sc__law_term.nd rfl (Or.inl rfl))) (fun _ _ _ _ _ => pts_nil) (fun _ _ _ _ _ => (pe_g G__law_term (hr.mono (by omega)) (pa_cons (pv 0) (pa_cons (pv 1) (pa_cons (pv 2) (pa_cons (pe_op op_sub (pv 3) pe_int) pa_nil))))))) pa_nil)) pa_nil)))))))), ?_⟩
    try dsimp only [nox_K]
    refine rd_st (σ' := [some (.ref d), some (.ref sd), some (.ref lv), some (vI kd), none, none, none, none]) rfl ?_
    walk_at "w"
    refine rd_sortD hsy.at_ (by omega) fun ys q hys _ hq => ?_
    obtain ⟨S', hS', rfl⟩ := perm_map_inv hys
    have hSl' := hS'.length_eq
    have sq := same_new hq (.lst ((S'.map (·.1)).map V.str))
    have esm : (S'.map (·.1)).map V.str = S'.map vW := by rw [List.map_map]; rfl
    rw [esm] at sq ⊢
    have hsy1 := hsy.same sq
    refine rd_oneLst (SqL.of upd_same) fun D hD => ?_
    -- words without children
    refine lc_same (walk_list (xs := S'.map vW)) (fun i acc _ => acc = ((S'.take i).filter fun n => decide (n.2 = 0)).map vW) (by rw [List.length_map]; omega) hD (fun _ _ _ _ h _ => h) rfl (fun H' s => SqL.of (s _ _ upd_same)) ?_ ?_
    · rintro i acc x H2 H1 hi hl s1 hD' rfl ⟨rfl, hx1⟩
      rw [List.length_map] at hi
      have hni : S'[i]? = some S'[i] := List.getElem?_eq_getElem hi
      rw [List.getElem?_map, hni] at hx1
      have hxe : x = vW S'[i] := by simpa using hx1.symm
      subst hxe
      have htk := take_succ_get hni
      have hmS := hS'.subset (List.mem_of_getElem? hni)
      generalize S'[i] = n at *
      walk_at "w"
      refine ⟨rfl, ?_⟩
      walk_at "w"
      refine ⟨sd, _, rfl, (hsy1.same s1).get hmS, ?_⟩
      walk_at "w"
      by_cases h0 : ((n.2 : Nat) : Int) = 0
      · refine rd_dT h0 ?_
        walk_at "w"
        refine lc_elt (R := fun i acc _ => acc = ((S'.take i).filter fun n => decide (n.2 = 0)).map vW) (by omega) hl hD' hD s1 (Same.refl _) (fun _ _ _ _ h _ => h) ?_
        rw [htk, List.filter_append, filt_yes (p := fun n : Nd => decide (n.2 = 0)) (decide_eq_true (by omega)), List.map_append]; rfl
      · refine rd_dF h0 ?_
        refine lc_skip (R := fun i acc _ => acc = ((S'.take i).filter fun n => decide (n.2 = 0)).map vW) hl hD' s1 (Same.refl _) ?_
        rw [htk, List.filter_append, filt_no (p := fun n : Nd => decide (n.2 = 0)) (decide_eq_false (by omega)), List.append_nil]
    rintro acc H1 s1 hD1 hl1 rfl
    rw [List.length_map, List.take_length] at hD1
    have sA := sq.trans s1
    have hd1 := hd.same sA
    have hsyA := hsy.same sA
    have hlv1 := sA _ _ hlv
    have hDd : D ≠ d := hd.ne (sq.free hD)
    generalize hB : S'.filter (fun n => decide (n.2 = 0)) = B at *
    have hBl : B.length ≤ 8 := by rw [← hB]; exact Nat.le_trans (List.length_filter_le _ _) (by omega)
    have hBm : ∀ n ∈ B, n ∈ S ∧ n.2 = 0 := fun n hn => by
      rw [← hB] at hn
      obtain ⟨h1, h2⟩ := List.mem_filter.mp hn
      exact ⟨hS'.subset h1, of_decide_eq_true h2⟩
    have hB0 : 0 < B.length := by
      obtain ⟨z, r, hz⟩ := hsy.sg.zero
      refine List.length_pos_of_mem (a := (z, 0)) ?_
      rw [← hB]
      exact List.mem_filter.mpr ⟨hS'.mem_iff.mpr (by rw [hz]; exact List.mem_cons_self), decide_eq_true rfl⟩
    walk_at "w"
    -- a leaf
    have leaf : ∀ (H2 : Hp), FrD d H H2 → Dice H2 d → H2 D = some (.lst (B.map vW)) → H2 lv = some (.lst (L.map V.str)) →
        tRet (tTup (tCons (tG sp_law_pick (tCons (tVar 0) (tCons (tOp rCat (tOp rCat (tVar 4) (tVar 2)) (tVar 2)) tNil))) (tCons (tTup tNil) tNil)))
          { nx := fun _ H' => Q .non H', rt := Q } [some (.ref d), some (.ref sd), some (.ref lv), some (vI kd), some (.ref D), none, none, none] H2 := by
      intro H2 f2 hd2 hD2 hlv2
      walk_at "w"
      refine rd_cat hD2 hlv2 (small (by rw [List.length_map, List.length_map]; have := hL.1; omega)) fun c1 hc1 => ?_
      walk_at "w"
      have sc1 := same_new hc1 (.lst (B.map vW ++ L.map V.str))
      refine rd_cat upd_same (sc1 _ _ hlv2) (small (by rw [List.length_append, List.length_map, List.length_map]; have := hL.1; omega)) fun c2 hc2 => ?_
      walk_at "w"
      have sc2 := same_new hc2 (.lst (B.map vW ++ L.map V.str ++ L.map V.str))
      have hd3 := hd2.same (sc1.trans sc2)
      refine ⟨d, c2, _, rfl, hd3, upd_same, (hd2.same sc1).ne hc2, by simp; omega, by have := hL.1; simp; omega, fun r x H3 f3 hd3' hx => ?_⟩
      walk_at "w"
      refine ⟨small (by simp), fun e he => ?_⟩
      walk_at "w"
      refine ⟨small (by simp), fun y hy => ?_⟩
      have se := same_new he (.tup [])
      have sy := same_new hy (.tup [x, .ref e])
      have fA := (f2.trans (FrD.of (sc1.trans sc2))).trans (f3.trans (FrD.of (se.trans sy)))
      have hdE := hd3'.same (se.trans sy)
      rw [List.append_assoc, List.getElem?_append] at hx
      split at hx
      · rename_i hr1
        rw [List.getElem?_map] at hx
        cases q : B[r]? with
        | none => rw [q] at hx; cases hx
        | some n =>
          rw [q] at hx
          have hxe : x = .str n.1 := by simpa [vW] using hx.symm
          subst hxe
          obtain ⟨h1, h2⟩ := hBm n (List.mem_of_getElem? q)
          refine k _ _ (.mk n.1 []) fA hdE (tp_leaf (sqT_of upd_same) (sqT_kp (kp_same sy) (sqT_of upd_same))) ?_ (by rw [dep, depL]; omega)
          intro m hm
          rw [nodes, nodesL, List.mem_singleton] at hm
          subst hm
          exact .inl (by rw [show (n.1, ([] : List Tm).length) = n from Prod.ext rfl h2.symm]; exact h1)
      · rw [← List.map_append, List.getElem?_map] at hx
        cases q : (L ++ L)[r - (B.map vW).length]? with
        | none => rw [q] at hx; cases hx
        | some z =>
          rw [q] at hx
          have hxe : x = .str z := by simpa using hx.symm
          subst hxe
          have hzL : z ∈ L := by
            rcases List.mem_append.mp (List.mem_of_getElem? q) with h | h <;> exact h
          refine k _ _ (.mk z []) fA hdE (tp_leaf (sqT_of upd_same) (sqT_kp (kp_same sy) (sqT_of upd_same))) ?_ (by rw [dep, depL]; omega)
          intro m hm
          rw [nodes, nodesL, List.mem_singleton] at hm
          subst hm
          exact .inr ⟨hzL, rfl⟩
    by_cases hk0 : ((kd : Nat) : Int) = 0
    · refine rd_dT hk0 ?_
      exact leaf H1 (FrD.of sA) hd1 hD1 hlv1
    refine rd_dF hk0 ?_
    walk_at "w"
    refine ⟨d, 4, rfl, hd1, by decide, by decide, fun r4 H2 f2 hd2 _ => ?_⟩
    walk_at "w"
    have fA2 := (FrD.of sA).trans f2
    have hsy2 := hsyA.fr hd1 f2
    have hD2 := f2 _ _ hDd hD1
    have hlv2 := f2 _ _ hlvd hlv1
    by_cases hr4 : ((r4 : Nat) : Int) = 0
    · refine rd_dT hr4 ?_
      exact leaf H2 fA2 hd2 hD2 hlv2
    refine rd_dF hr4 ?_
    walk_at "w"
    refine rd_sortD hsy2.at_ (by omega) fun ys2 q2 hys2 _ hq2 => ?_
    obtain ⟨S2, hS2, rfl⟩ := perm_map_inv hys2
    have hSl2 := hS2.length_eq
    have sq2 := same_new hq2 (.lst ((S2.map (·.1)).map V.str))
    have esm2 : (S2.map (·.1)).map V.str = S2.map vW := by rw [List.map_map]; rfl
    rw [esm2] at sq2 ⊢
    walk_at "w"
    refine rd_sortD (sq2 _ _ hsy2.at_) (by omega) fun ys3 q3 hys3 _ hq3 => ?_
    obtain ⟨S3, hS3, rfl⟩ := perm_map_inv hys3
    have hSl3 := hS3.length_eq
    have sq3 := same_new hq3 (.lst ((S3.map (·.1)).map V.str))
    have esm3 : (S3.map (·.1)).map V.str = S3.map vW := by rw [List.map_map]; rfl
    rw [esm3] at sq3 ⊢
    have hsy3 := hsy2.same (sq2.trans sq3)
    refine rd_oneLst (SqL.of upd_same) fun D3 hD3 => ?_
    refine lc_same (walk_list (xs := S3.map vW)) (fun i acc _ => acc = ((S3.take i).filter fun n => decide (0 < n.2)).map vW) (by rw [List.length_map]; omega) hD3 (fun _ _ _ _ h _ => h) rfl (fun H' s => SqL.of (s _ _ upd_same)) ?_ ?_
    · rintro i acc x H4 H3 hi hl s3 hD' rfl ⟨rfl, hx1⟩
      rw [List.length_map] at hi
      have hni : S3[i]? = some S3[i] := List.getElem?_eq_getElem hi
      rw [List.getElem?_map, hni] at hx1
      have hxe : x = vW S3[i] := by simpa using hx1.symm
      subst hxe
      have htk := take_succ_get hni
      have hmS := hS3.subset (List.mem_of_getElem? hni)
      generalize S3[i] = n at *
      walk_at "w"
      refine ⟨rfl, ?_⟩
      walk_at "w"
      refine ⟨sd, _, rfl, (hsy3.same s3).get hmS, ?_⟩
      walk_at "w"
      by_cases h0 : ((n.2 : Nat) : Int) > 0
      · refine rd_dT h0 ?_
        walk_at "w"
        refine lc_elt (R := fun i acc _ => acc = ((S3.take i).filter fun n => decide (0 < n.2)).map vW) (by omega) hl hD' hD3 s3 (Same.refl _) (fun _ _ _ _ h _ => h) ?_
        rw [htk, List.filter_append, filt_yes (p := fun n : Nd => decide (0 < n.2)) (decide_eq_true (by omega)), List.map_append]; rfl
      · refine rd_dF h0 ?_
        refine lc_skip (R := fun i acc _ => acc = ((S3.take i).filter fun n => decide (0 < n.2)).map vW) hl hD' s3 (Same.refl _) ?_
        rw [htk, List.filter_append, filt_no (p := fun n : Nd => decide (0 < n.2)) (decide_eq_false (by omega)), List.append_nil]
    rintro acc H3 s3 hD3' hl3 rfl
    rw [List.length_map, List.take_length] at hD3'
    have hBl3 : (S3.filter fun n => decide (0 < n.2)).length ≤ 8 := Nat.le_trans (List.length_filter_le _ _) (by omega)
    have hBm3 : ∀ n ∈ S3.filter (fun n => decide (0 < n.2)), n ∈ S := fun n hn => hS3.subset (List.mem_filter.mp hn).1
    generalize S3.filter (fun n => decide (0 < n.2)) = B3 at *
    have hq2' : H3 q2 = some (.lst (S2.map vW)) := (sq3.trans s3) _ _ upd_same
    refine rd_cat hq2' hD3' (small (by rw [List.length_map, List.length_map]; omega)) fun c1 hc1 => ?_
    walk_at "w"
    have sc1 := same_new hc1 (.lst (S2.map vW ++ B3.map vW))
    have sB := (sq2.trans sq3).trans (s3.trans sc1)
    have hd4 := hd2.same sB
    refine ⟨d, c1, _, rfl, hd4, upd_same, (hd2.same ((sq2.trans sq3).trans s3)).ne hc1, by simp; omega, by simp; omega, fun r x H4 f4 hd5 hx => ?_⟩
    rw [← List.map_append, List.getElem?_map] at hx
    obtain ⟨n0, hn0, rfl⟩ : ∃ n0 ∈ S, x = vW n0 := by
      cases q : (S2 ++ B3)[r]? with
      | none => rw [q] at hx; cases hx
      | some n0 =>
        rw [q] at hx
        refine ⟨n0, ?_, by simpa using hx.symm⟩
        rcases List.mem_append.mp (List.mem_of_getElem? q) with h | h
        · exact hS2.subset h
        · exact hBm3 n0 h
    have fA4 := (fA2.trans (FrD.of sB)).trans f4
    have hsy4 := (hsy2.same sB).fr hd4 f4
    have hlv4 := f4 _ _ hlvd (sB _ _ hlv2)
    obtain ⟨c0, hc0, _, ha3⟩ := hsy.sg.row n0 hn0
    walk_at "w"
    refine ⟨sd, _, rfl, hsy4.get hn0, ?_⟩
    walk_at "w"
    refine ⟨_, rfl, by omega, by omega, fun D5 hD5 => ?_⟩
    rw [show ((n0.2 : Nat) : Int).toNat = n0.2 by omega]
    have hD5d := hd5.ne hD5
    refine lc_gen walk_range (fun i acc H' => FrD d H4 H' ∧ Dice H' d ∧ ∃ us : List Tm, us.length = i ∧ acc.length = i ∧ Tps K H' acc (us.map tmD) ∧ ∀ u ∈ us, TmG S L u ∧ dep u ≤ kd) (by omega) ?_ (fun _ _ _ _ => trivial) ?_ ?_
    · exact ⟨FrD.of (same_new hD5 _), hd5.same (same_new hD5 _), [], rfl, rfl, .nil, fun u hu => by cases hu⟩
    · rintro i acc x H6 H5 hi hal hD' ⟨fr, hd6, us, hul, hacl, hacc, hus⟩ ⟨rfl, rfl⟩
      obtain ⟨m, rfl⟩ : ∃ m, kd = m + 1 := ⟨kd - 1, by omega⟩
      obtain ⟨n', rfl⟩ : ∃ n', n = n' + 1 := ⟨n - 1, by omega⟩
      walk_at "w"
      refine ⟨rfl, ?_⟩
      walk_at "w"
      refine ⟨n', rfl, d, sd, lv, S, L, m, ?_, hd6, hsy4.fr hd5 fr, fr _ _ hlvd hlv4, hlvd, hL, by omega, fun y H7 t f7 hd7 hy htg htd => ?_⟩
      · congr 4
        show V.int _ = V.int _
        congr 1; omega
      · have hD7 := f7 _ _ hD5d hD'
        refine ⟨acc, hD7, smallL (by omega), acc ++ [y], upd_same, by rw [List.length_append]; simp; omega, ?_, ?_, us ++ [t], by rw [List.length_append, hul]; rfl, by rw [List.length_append, hacl]; rfl, ?_, ?_⟩
        · exact fun a o na e => by rw [upd_ne (ne_of_none e hD5)]; exact (fr.trans f7) a o na e
        · obtain ⟨g, b, c, hd7⟩ := hd7
          exact ⟨g, b, c, by rw [upd_ne hD5d.symm]; exact hd7⟩
        · rw [List.map_append]
          exact ((hacc.kp (f7.kpD hd6)).app (.cons hy .nil)).kp (kp_lst hD7)
        · intro u hu
          rcases List.mem_append.mp hu with hu | hu
          · exact hus u hu
          · rw [List.mem_singleton] at hu
            subst hu
            exact ⟨htg, by omega⟩
    · rintro acc H5 hD' hal ⟨fr, hd6, us, hul, hacl, hacc, hus⟩
      walk_at "w"
      refine rd_tupS (SqL.of hD') fun e he => ?_
      walk_at "w"
      refine ⟨small (by simp), fun y hy => ?_⟩
      have se := same_new he (.tup acc)
      have sy := same_new hy (.tup [.str n0.1, .ref e])
      refine k _ _ (.mk n0.1 us) ((fA4.trans fr).trans (FrD.of (se.trans sy))) (hd6.same (se.trans sy)) (tp_tm (sqT_of upd_same) (sqT_kp (kp_same sy) (sqT_of upd_same)) (hacc.kp (kp_same (se.trans sy)))) ?_ ?_
      · intro m hm
        rw [nodes] at hm
        rcases List.mem_cons.mp hm with rfl | hm
        · exact .inl (by rw [show (n0.1, us.length) = n0 from Prod.ext rfl hul]; exact hn0)
        · have h9 : ∀ (us : List Tm), (∀ u ∈ us, TmG S L u ∧ dep u ≤ kd) → ∀ m ∈ nodesL us, m ∈ S ∨ (m.1 ∈ L ∧ m.2 = 0) := by
            intro us
            induction us with
            | nil => intro _ m hm; rw [nodesL] at hm; cases hm
            | cons u r ih =>
              intro h m hm
              rw [nodesL] at hm
              rcases List.mem_append.mp hm with hm | hm
              · exact (h u List.mem_cons_self).1 m hm
              · exact ih (fun u hu => h u (List.mem_cons_of_mem _ hu)) m hm
          exact h9 us hus m hm
      · rw [dep]
        have h9 : ∀ (us : List Tm), (∀ u ∈ us, TmG S L u ∧ dep u ≤ kd) → depL us ≤ kd := by
          intro us
          induction us with
          | nil => intro _; rw [depL]; omega
          | cons u r ih =>
            intro h
            rw [depL]
            have := (h u List.mem_cons_self).2
            have := ih (fun u hu => h u (List.mem_cons_of_mem _ hu))
            omega
        have := h9 us hus
        omega
end
end FN
set_option maxHeartbeats 4000000
namespace FN
open PySem PySem.Spec PyProof.Rows L2
local macro_rules | `(tactic| walk_at "w") => `(tactic| repeat (with_reducible first
  | refine rd_seq ?_
  | refine rd_asg ?_
  | refine rd_name ?_
  | refine rd_ret ?_
  | refine rd_drop ?_
  | refine rd_if ?_
  | refine rd_next ?_
  | refine rd_var (by k_dflt rfl) ?_
  | refine rd_c ?_
  | refine rd_op ?_
  | refine rd_un ?_
  | refine rd_test ?_
  | refine rd_B ?_
  | refine rd_I0 ?_
  | refine rd_U ?_
  | refine rd_eqI ?_
  | refine rd_neI ?_
  | refine rd_eqS ?_
  | refine rd_neS ?_
  | refine rd_and ?_
  | refine rd_or ?_
  | refine rd_not ?_
  | refine rd_andV ?_
  | refine rd_orV ?_
  | refine rd_notV ?_
  | refine rd_ife ?_
  | refine rd_chain ?_
  | refine rd_exb ?_
  | refine rd_exi ?_
  | refine rd_nil ?_
  | refine rd_cons ?_
  | refine rd_CB ?_
  | refine rd_G ?_
  | refine rd_fld ?_
  | refine rd_sl ?_
  | refine rd_part ?_
  | refine rd_noPart ?_
  | refine rd_leaf ?_
  | refine rd_tup ?_
  | refine rd_lst ?_
  | refine rd_star ?_
  | refine rd_bm ?_
  | refine rd_bm0 ?_
  | refine rd_gsub ?_
  | refine rd_rev ?_
  | refine rd_gnil ?_
  | refine rd_gcons ?_
  | refine rd_yes ?_
  | refine rd_abs ?_
  | refine rd_max2 ?_
  | refine rd_min2 ?_
  | refine rd_int1 ?_
  | refine rd_int1b ?_
  | refine rd_inSign ?_
  | refine rd_niSign ?_
  | refine rd_isN ?_
  | refine rd_ntN ?_
  | refine rd_dcLst ?_
  | refine rd_dcTup ?_
  | refine rd_dcItems ?_
  | refine rd_lcTup ?_
  | refine rd_lcLst ?_
  | refine rd_lcStr ?_
  | refine rd_lcR1 ?_
  | refine rd_lcR2 ?_
  | refine rd_lcKeys ?_
  | refine rd_lcVals ?_
  | refine rd_lcItems ?_
  | refine rd_lcZip ?_
  | refine rd_forTup ?_
  | refine rd_forLst ?_
  | refine rd_forR1 ?_
  | refine rd_forR2 ?_
  | refine rd_forR3 ?_
  | refine rd_forZip ?_
  | refine rd_forItems ?_
  | refine rd_lcEnumT ?_
  | refine rd_forEnumT ?_
  | refine rd_oneStr ?_
  | refine rd_mkR ?_
  | refine rd_mk0 ?_
  | refine rd_mR ?_
  | refine rd_mN ?_
  | refine rd_pr ?_
  | refine rd_cmR ?_
  | refine rd_makeC ?_
  | refine rd_tM1 ?_
  | refine rd_fmtT ?_
  | refine ⟨rd_exs, ?_⟩
  | refine rd_listZip ?_
  | refine rd_lenSetS ?_
  | refine rd_sfld ?_
  | refine rd_jc ?_
  | refine rd_jn ?_
  | refine rd_par ?_
  | refine rd_par3 ?_
  | refine rd_dupd ?_
  | refine rd_disp ?_
  | refine rd_pc ?_
  | refine rd_pn ?_
  | refine rd_dni ?_
  | refine rd_dget ?_
  | refine rd_dget2 ?_
  | refine rd_dput ?_
  | refine rd_T ?_
  | refine rd_F ?_
  | refine rd_nT ?_
  | refine rd_nF ?_))
abbrev nd (s : Str) (n : Nat) : Nd := (s, n)
theorem upd_upd {H : Hp} {p : Addr} {a b : HO} : upd (upd H p a) p b = upd H p b := by
  funext x
  by_cases z : x = p
  · subst z; rw [upd_same, upd_same]
  · rw [upd_ne z, upd_ne z, upd_ne z]
theorem merge_app : ∀ (F G : List Nd), NodK (G ++ F) → mergeK (G.map kvN) (F.map kvN) = (G ++ F).map kvN
  | [], G, _ => by rw [List.append_nil]; rfl
  | n :: F, G, h => by
    have e : mergeK (G.map kvN) ((n :: F).map kvN) = mergeK (putK (G.map kvN) (.inr n.1) (vI n.2)) (F.map kvN) := rfl
    have hout : n.1 ∉ G.map (·.1) := by
      unfold NodK at h
      rw [List.map_append, List.map_cons] at h
      intro hm
      exact (List.nodup_append.mp h).2.2 n.1 hm n.1 List.mem_cons_self rfl
    rw [e, putK_out hout, merge_app F (G ++ [n]) (by rw [List.append_assoc]; exact h), List.append_assoc]
    rfl
theorem merge_nil {F : List Nd} (h : NodK F) : mergeK [] (F.map kvN) = F.map kvN := merge_app F [] h
/-- the dicts that are mixed in -/
def FSets : List (List Nd) := [[nd "f" 2, nd "g" 0], [nd "f" 3, nd "g" 0], [nd "f" 2, nd "k" 1], [nd "f" 2, nd "g" 0, nd "k" 1], [nd "f" 2, nd "h" 2], [nd "k" 1, nd "g" 0], [nd "f" 2, nd "g" 0]]
def AB : List Nd := [nd "a" 0, nd "b" 0]
/-- the law's symbols -/
def SETS : List (List Nd) := FSets.map fun F => AB ++ F
theorem fs_nod : ∀ F ∈ FSets, NodK F ∧ NodK (AB ++ F) := by decide +kernel
theorem sg_of {S : List Nd} (h1 : NodK S) (h2 : 1 ≤ S.length ∧ S.length ≤ 8) (h3 : ∀ n ∈ S, n.1.cps.size = 1 ∧ n.1.cps[0]! ∈ LET ∧ n.2 ≤ 3) (h4 : S.head? = some (nd "a" 0)) : SG S := by
  refine ⟨h1, h2, fun n hn => ?_, ?_⟩
  · obtain ⟨q1, q2, q3⟩ := h3 n hn
    refine ⟨n.1.cps[0]!, ?_, q2, q3⟩
    obtain ⟨⟨⟨l⟩⟩, m⟩ := n
    match l, q1 with
    | [c], _ => rfl
  · cases S with
    | nil => cases h4
    | cons n r =>
      have : n = nd "a" 0 := by simpa using h4
      subst this
      exact ⟨("a" : Str), r, rfl⟩
theorem sets_sg : ∀ S ∈ SETS, SG S := fun S hS => sg_of
  ((show ∀ S ∈ SETS, NodK S by decide +kernel) S hS)
  ((show ∀ S ∈ SETS, 1 ≤ S.length ∧ S.length ≤ 8 by decide +kernel) S hS)
  ((show ∀ S ∈ SETS, ∀ n ∈ S, n.1.cps.size = 1 ∧ n.1.cps[0]! ∈ LET ∧ n.2 ≤ 3 by decide +kernel) S hS)
  ((show ∀ S ∈ SETS, S.head? = some (nd "a" 0) by decide +kernel) S hS)
def AR : List Tm := [.mk "_" [], .mk "a" [], .mk "b" [], .mk "k" [.mk "_" []], .mk "k" [.mk "a" []]]
theorem lvs_u : Lvs ["_"] := ⟨by decide, fun w hw => .inl (List.mem_singleton.mp hw)⟩
theorem lvs_0 : Lvs [] := ⟨by decide, fun w hw => by cases hw⟩
theorem tmg_leaf {S : List Nd} {L : List Str} {z : Str} (h : nd z 0 ∈ S ∨ z ∈ L) : TmG S L (.mk z []) := fun n hn => by
  rw [nodes, nodesL, List.mem_singleton] at hn
  subst hn
  rcases h with h | h
  · exact .inl h
  · exact .inr ⟨h, rfl⟩
theorem sets_ab : ∀ S ∈ SETS, nd "a" 0 ∈ S ∧ nd "b" 0 ∈ S := by decide +kernel
theorem sets_k : ∀ S ∈ SETS, ("k" : Str) ∈ S.map (·.1) → nd "k" 1 ∈ S := by decide +kernel
section
variable {P : Program} {w : World} {K : PySem.W.Frag} {mg : Str → Option Value} {base : Heap} {C : Ad}
def sp_small_term (K : PySem.W.Frag) : Sp := fun vs H Q _ => ∃ (d sd lv : Addr) (S : List Nd) (L : List Str) (k m : Nat), vs = [.ref d, .ref sd, .ref lv, vI k, vI m] ∧ Dice H d ∧ Sy H sd S ∧ H lv = some (.lst (L.map V.str)) ∧ lv ≠ d ∧ Lvs L ∧ 1 ≤ k ∧ k ≤ 3 ∧ 4 ≤ m ∧ m ≤ 100 ∧
  ∀ y H' t, FrD d H H' → Dice H' d → Tp K H' y (tmD t) → TmG S L t → size t ≤ m → dep t ≤ k + 1 → Q y H'
theorem ok_small_term (T : Ty K mg C) : Gf P w K mg base "_law_small_term" 42 (sp_small_term K) := by
  have G__law_term := ok_law_term (P := P) (w := w) (base := base) T 3
  have G__law_nodes := ok_law_nodes (P := P) (w := w) (base := base) T 40
  have G__law_pick := ok_law_pick (P := P) (w := w) (base := base) T
  refine T.d__law_small_term.ok sc__law_small_term (fun vs H Q E h => ?_) (fun f cdv A outer s H vs Q E hr h => ?_)
  · obtain ⟨d, sd, lv, S, L, k, m, rfl, _⟩ := h
    rfl
  obtain ⟨d, sd, lv, S, L, k0, m, rfl, hd, hsy, hlv, hlvd, hL, h1k, hk3, h4m, hm, k⟩ := h
  refine ⟨_, (pss_cons (ps_set (i := 5) sc__law_small_term.nd rfl (Or.inl rfl) (pe_g G__law_term (hr.mono (by decide)) (pa_cons (pv 0) (pa_cons (pv 1) (pa_cons (pv 2) (pa_cons (pv 3) pa_nil))))))
    (pss_cons (ps_if (pt_cmpR op_le (pe_callB c_lenS rfl T.f_len PySem.boot_len (pa_cons (pe_g G__law_nodes (hr.mono (by decide)) (pa_cons (pv 5) pa_nil)) pa_nil)) (pv 4) (nomark _)) (pss_one (ps_ret (pv 5))) pss_nil)
    (pss_cons (ps_set (i := 5) sc__law_small_term.nd rfl (Or.inl rfl) (pe_g G__law_term (hr.mono (by decide)) (pa_cons (pv 0) (pa_cons (pv 1) (pa_cons (pv 2) (pa_cons pe_int pa_nil))))))
    (pss_cons (ps_if (pt_cmpR op_le (pe_callB c_lenS rfl T.f_len PySem.boot_len (pa_cons (pe_g G__law_nodes (hr.mono (by decide)) (pa_cons (pv 5) pa_nil)) pa_nil)) (pv 4) (nomark _)) (pss_one (ps_ret (pv 5))) pss_nil)
    (pss_one (ps_ret (pe_tup (pa_cons (pe_g G__law_pick (hr.mono (by decide)) (pa_cons (pv 0) (pa_cons (pe_ifExp (pt_cmpR (op_neD hr.units) (pv 2) (pe_lst pa_nil) (nomark _)) (pv 2) (pe_lst (pa_cons pe_str pa_nil))) pa_nil))) (pa_cons (pe_tup pa_nil) pa_nil))))))))), ?_⟩
  try dsimp only [nox_K]
  refine rd_st (σ' := [some (.ref d), some (.ref sd), some (.ref lv), some (vI k0), some (vI m), none]) rfl ?_
  walk_at "w"
  refine ⟨d, sd, lv, S, L, k0, rfl, hd, hsy, hlv, hlvd, hL, hk3, fun y H1 t f1 hd1 hy htg htd => ?_⟩
  walk_at "w"
  have hz := htg.size hsy.sg hL (n := 4) (by omega)
  refine ⟨y, t, rfl, hy, by omega, by omega, fun l H2 ns s2 hl hns => ?_⟩
  have hnl : ns.length = size t := by rw [hns.len, List.length_map, nodes_length]
  walk_at "w"
  refine rd_len (.inl (SqL.of hl)) ?_
  walk_at "w"
  by_cases hzm : ((ns.length : Nat) : Int) ≤ (m : Int)
  · refine rd_dT hzm ?_
    walk_at "w"
    exact k y H2 t (f1.trans (FrD.of s2)) (hd1.same s2) (hy.kp (kp_same s2)) htg (by omega) htd
  refine rd_dF hzm ?_
  walk_at "w"
  have hd2 := hd1.same s2
  have fA := f1.trans (FrD.of s2)
  refine ⟨d, sd, lv, S, L, 1, rfl, hd2, (hsy.fr hd f1).same s2, s2 _ _ (f1 _ _ hlvd hlv), hlvd, hL, by decide, fun y3 H3 t3 f3 hd3 hy3 htg3 htd3 => ?_⟩
  walk_at "w"
  have hz3 := htg3.size hsy.sg hL (n := 2) (by omega)
  refine ⟨y3, t3, rfl, hy3, by omega, by omega, fun l4 H4 ns4 s4 hl4 hns4 => ?_⟩
  have hnl4 : ns4.length = size t3 := by rw [hns4.len, List.length_map, nodes_length]
  walk_at "w"
  refine rd_len (.inl (SqL.of hl4)) ?_
  walk_at "w"
  refine rd_dT (by omega) ?_
  walk_at "w"
  exact k y3 H4 t3 ((fA.trans f3).trans (FrD.of s4)) (hd3.same s4) (hy3.kp (kp_same s4)) htg3 (by omega) (by omega)
def sp_law_symbols : Sp := fun vs H Q _ => ∃ d : Addr, vs = [.ref d] ∧ Dice H d ∧ ∀ sd H' S, FrD d H H' → Dice H' d → H sd = none → Sy H' sd S → S ∈ SETS → Q (.ref sd) H'
theorem ok_law_symbols (T : Ty K mg C) : Gf P w K mg base "_law_symbols" 3 sp_law_symbols := by
  have G__law_pick := ok_law_pick (P := P) (w := w) (base := base) T
  refine T.d__law_symbols.ok sc__law_symbols (fun vs H Q E h => ?_) (fun f cdv A outer s H vs Q E hr h => ?_)
  · obtain ⟨d, rfl, _⟩ := h
    rfl
  obtain ⟨d, rfl, hd, k⟩ := h
  refine ⟨_, (pss_cons (ps_set (i := 1) sc__law_symbols.nd rfl (Or.inl rfl) (pe_lst (pa_cons (pe_disp (pps_cons pe_str pe_int (pps_cons pe_str pe_int pps_nil)) (by rfl) (by rfl) (fun z => by cases z) (by decide)) (pa_cons (pe_disp (pps_cons pe_str pe_int (pps_cons pe_str pe_int pps_nil)) (by rfl) (by rfl) (fun z => by cases z) (by decide)) (pa_cons (pe_disp (pps_cons pe_str pe_int (pps_cons pe_str pe_int pps_nil)) (by rfl) (by rfl) (fun z => by cases z) (by decide)) (pa_cons (pe_disp (pps_cons pe_str pe_int (pps_cons pe_str pe_int (pps_cons pe_str pe_int pps_nil))) (by rfl) (by rfl) (fun z => by cases z) (by decide)) (pa_cons (pe_disp (pps_cons pe_str pe_int (pps_cons pe_str pe_int pps_nil)) (by rfl) (by rfl) (fun z => by cases z) (by decide)) pa_nil)))))))
    (pss_cons (ps_set (i := 2) sc__law_symbols.nd rfl (Or.inl rfl) (pe_disp (pps_cons pe_str pe_int (pps_cons pe_str pe_int pps_nil)) (by rfl) (by rfl) (fun z => by cases z) (by decide)))
    (pss_cons (ps_expr (pe_dupd (pv 2) (pa_cons (pe_g G__law_pick (hr.mono (by decide)) (pa_cons (pv 0) (pa_cons (pe_op op_cat (pv 1) (pe_lst (pa_cons (pe_disp (pps_cons pe_str pe_int (pps_cons pe_str pe_int pps_nil)) (by rfl) (by rfl) (fun z => by cases z) (by decide)) (pa_cons (pe_disp (pps_cons pe_str pe_int (pps_cons pe_str pe_int pps_nil)) (by rfl) (by rfl) (fun z => by cases z) (by decide)) pa_nil)))) pa_nil))) pa_nil)))
    (pss_one (ps_ret (pv 2)))))), ?_⟩
  try dsimp only [nox_K]
  refine rd_st (σ' := [some (.ref d), none, none]) rfl ?_
  walk_at "w"
  intro p1 h1
  walk_at "w"
  refine ⟨upd_same, [nd "f" 2, nd "g" 0].map kvN, rfl, by decide, ?_⟩
  rw [upd_upd, merge_nil (by decide +kernel)]
  have s1 := same_new h1 (.dK ([nd "f" 2, nd "g" 0].map kvN))
  have g1 : upd H p1 (.dK ([nd "f" 2, nd "g" 0].map kvN)) p1 = some (.dK ([nd "f" 2, nd "g" 0].map kvN)) := upd_same
  generalize upd H p1 (.dK ([nd "f" 2, nd "g" 0].map kvN)) = H1 at *
  walk_at "w"
  intro p2 h2
  walk_at "w"
  refine ⟨upd_same, [nd "f" 3, nd "g" 0].map kvN, rfl, by decide, ?_⟩
  rw [upd_upd, merge_nil (by decide +kernel)]
  have s2 := same_new h2 (.dK ([nd "f" 3, nd "g" 0].map kvN))
  have g2 : upd H1 p2 (.dK ([nd "f" 3, nd "g" 0].map kvN)) p2 = some (.dK ([nd "f" 3, nd "g" 0].map kvN)) := upd_same
  generalize upd H1 p2 (.dK ([nd "f" 3, nd "g" 0].map kvN)) = H2 at *
  walk_at "w"
  intro p3 h3
  walk_at "w"
  refine ⟨upd_same, [nd "f" 2, nd "k" 1].map kvN, rfl, by decide, ?_⟩
  rw [upd_upd, merge_nil (by decide +kernel)]
  have s3 := same_new h3 (.dK ([nd "f" 2, nd "k" 1].map kvN))
  have g3 : upd H2 p3 (.dK ([nd "f" 2, nd "k" 1].map kvN)) p3 = some (.dK ([nd "f" 2, nd "k" 1].map kvN)) := upd_same
  generalize upd H2 p3 (.dK ([nd "f" 2, nd "k" 1].map kvN)) = H3 at *
  walk_at "w"
  intro p4 h4
  walk_at "w"
  refine ⟨upd_same, [nd "f" 2, nd "g" 0, nd "k" 1].map kvN, rfl, by decide, ?_⟩
  rw [upd_upd, merge_nil (by decide +kernel)]
  have s4 := same_new h4 (.dK ([nd "f" 2, nd "g" 0, nd "k" 1].map kvN))
  have g4 : upd H3 p4 (.dK ([nd "f" 2, nd "g" 0, nd "k" 1].map kvN)) p4 = some (.dK ([nd "f" 2, nd "g" 0, nd "k" 1].map kvN)) := upd_same
  generalize upd H3 p4 (.dK ([nd "f" 2, nd "g" 0, nd "k" 1].map kvN)) = H4 at *
  walk_at "w"
  intro p5 h5
  walk_at "w"
  refine ⟨upd_same, [nd "f" 2, nd "h" 2].map kvN, rfl, by decide, ?_⟩
  rw [upd_upd, merge_nil (by decide +kernel)]
  have s5 := same_new h5 (.dK ([nd "f" 2, nd "h" 2].map kvN))
  have g5 : upd H4 p5 (.dK ([nd "f" 2, nd "h" 2].map kvN)) p5 = some (.dK ([nd "f" 2, nd "h" 2].map kvN)) := upd_same
  generalize upd H4 p5 (.dK ([nd "f" 2, nd "h" 2].map kvN)) = H5 at *
  walk_at "w"
  refine ⟨small (by simp), fun l hl => ?_⟩
  walk_at "w"
  have sl := same_new hl (.lst [V.ref p1, .ref p2, .ref p3, .ref p4, .ref p5])
  have gl : upd H5 l (.lst [V.ref p1, .ref p2, .ref p3, .ref p4, .ref p5]) l = some (.lst [V.ref p1, .ref p2, .ref p3, .ref p4, .ref p5]) := upd_same
  generalize upd H5 l (.lst [V.ref p1, .ref p2, .ref p3, .ref p4, .ref p5]) = H6 at *
  intro fd hfd
  walk_at "w"
  refine ⟨upd_same, AB.map kvN, rfl, by decide, ?_⟩
  rw [upd_upd, merge_nil (by decide +kernel)]
  have sf := same_new hfd (.dK (AB.map kvN))
  have gf : upd H6 fd (.dK (AB.map kvN)) fd = some (.dK (AB.map kvN)) := upd_same
  have e5 := s2.trans (s3.trans (s4.trans (s5.trans sl)))
  have n1 : p1 ≠ fd := ne_of_none (e5 _ _ g1) hfd
  have n2 : p2 ≠ fd := ne_of_none ((s3.trans (s4.trans (s5.trans sl))) _ _ g2) hfd
  have n3 : p3 ≠ fd := ne_of_none ((s4.trans (s5.trans sl)) _ _ g3) hfd
  have n4 : p4 ≠ fd := ne_of_none ((s5.trans sl) _ _ g4) hfd
  have n5 : p5 ≠ fd := ne_of_none (sl _ _ g5) hfd
  generalize upd H6 fd (.dK (AB.map kvN)) = H7 at *
  walk_at "w"
  have s07 : Same H H7 := s1.trans (e5.trans sf)
  have hfd0 : H fd = none := (s1.trans e5).free hfd
  refine ⟨⟨fd, _, rfl, gf⟩, ?_⟩
  walk_at "w"
  intro p6 h6
  walk_at "w"
  refine ⟨upd_same, [nd "k" 1, nd "g" 0].map kvN, rfl, by decide, ?_⟩
  rw [upd_upd, merge_nil (by decide +kernel)]
  have s6 := same_new h6 (.dK ([nd "k" 1, nd "g" 0].map kvN))
  have g6 : upd H7 p6 (.dK ([nd "k" 1, nd "g" 0].map kvN)) p6 = some (.dK ([nd "k" 1, nd "g" 0].map kvN)) := upd_same
  have n6 : p6 ≠ fd := (ne_of_none gf h6).symm
  generalize upd H7 p6 (.dK ([nd "k" 1, nd "g" 0].map kvN)) = H8 at *
  walk_at "w"
  intro p7 h7
  walk_at "w"
  refine ⟨upd_same, [nd "f" 2, nd "g" 0].map kvN, rfl, by decide, ?_⟩
  rw [upd_upd, merge_nil (by decide +kernel)]
  have s7 := same_new h7 (.dK ([nd "f" 2, nd "g" 0].map kvN))
  have g7 : upd H8 p7 (.dK ([nd "f" 2, nd "g" 0].map kvN)) p7 = some (.dK ([nd "f" 2, nd "g" 0].map kvN)) := upd_same
  have n7 : p7 ≠ fd := (ne_of_none (s6 _ _ gf) h7).symm
  generalize upd H8 p7 (.dK ([nd "f" 2, nd "g" 0].map kvN)) = H9 at *
  walk_at "w"
  refine ⟨small (by simp), fun l2 hl2 => ?_⟩
  walk_at "w"
  have sl2 := same_new hl2 (.lst [V.ref p6, .ref p7])
  have gl2 : upd H9 l2 (.lst [V.ref p6, .ref p7]) l2 = some (.lst [V.ref p6, .ref p7]) := upd_same
  generalize upd H9 l2 (.lst [V.ref p6, .ref p7]) = H10 at *
  have s710 : Same H7 H10 := s6.trans (s7.trans sl2)
  refine rd_cat (s710 _ _ (sf _ _ gl)) gl2 (small (by simp)) fun c hc => ?_
  walk_at "w"
  have sc := same_new hc (.lst ([V.ref p1, .ref p2, .ref p3, .ref p4, .ref p5] ++ [.ref p6, .ref p7]))
  have s011 := s07.trans (s710.trans sc)
  refine ⟨d, c, _, rfl, hd.same s011, upd_same, (hd.same (s07.trans s710)).ne hc, by simp, by simp, fun r x H12 f12 hd12 hx => ?_⟩
  have hpf : ∃ p F, x = .ref p ∧ p ≠ fd ∧ H10 p = some (.dK (F.map kvN)) ∧ F ∈ FSets := by
    have e7 : Same H6 H10 := sf.trans s710
    match r, hx with
    | 0, hx => cases hx; exact ⟨p1, _, rfl, n1, (e5.trans e7) _ _ g1, by decide +kernel⟩
    | 1, hx => cases hx; exact ⟨p2, _, rfl, n2, ((s3.trans (s4.trans (s5.trans sl))).trans e7) _ _ g2, by decide +kernel⟩
    | 2, hx => cases hx; exact ⟨p3, _, rfl, n3, ((s4.trans (s5.trans sl)).trans e7) _ _ g3, by decide +kernel⟩
    | 3, hx => cases hx; exact ⟨p4, _, rfl, n4, ((s5.trans sl).trans e7) _ _ g4, by decide +kernel⟩
    | 4, hx => cases hx; exact ⟨p5, _, rfl, n5, (sl.trans e7) _ _ g5, by decide +kernel⟩
    | 5, hx => cases hx; exact ⟨p6, _, rfl, n6, (s7.trans sl2) _ _ g6, by decide +kernel⟩
    | 6, hx => cases hx; exact ⟨p7, _, rfl, n7, sl2 _ _ g7, by decide +kernel⟩
    | r + 7, hx => cases hx
  obtain ⟨p, F, rfl, hpfd, hpF, hFS⟩ := hpf
  walk_at "w"
  have dK_fr : ∀ (q : Addr) (kvs : List (Key × V)), H10 q = some (.dK kvs) → H12 q = some (.dK kvs) := fun q kvs e => by
    refine f12 _ _ (fun z => ?_) (sc _ _ e)
    subst z
    obtain ⟨g, b, c', q'⟩ := hd.same (s07.trans s710)
    rw [e] at q'; cases q'
  have hf12 := dK_fr fd _ (s710 _ _ gf)
  refine ⟨fd, p, _, _, rfl, rfl, hpfd.symm, hf12, dK_fr p _ hpF, small (by
    rw [List.length_map, List.length_map]
    have : ∀ F ∈ FSets, F.length ≤ 8 := by decide +kernel
    have := this F hFS
    have : AB.length = 2 := rfl
    omega), ?_⟩
  walk_at "w"
  have hmem : AB ++ F ∈ SETS := List.mem_map.mpr ⟨F, hFS, rfl⟩
  have hfdd := hd.ne hfd0
  refine k fd _ (AB ++ F) ?_ ?_ hfd0 ⟨?_, sets_sg _ hmem⟩ hmem
  · exact fun a o na e => by rw [upd_ne (ne_of_none e hfd0)]; exact f12 _ _ na (s011 _ _ e)
  · obtain ⟨g, b, c', q'⟩ := hd12
    exact ⟨g, b, c', by rw [upd_ne hfdd.symm]; exact q'⟩
  · rw [upd_same, merge_app F AB (fs_nod F hFS).2]
end
/-- what a leaf's tuple is -/
def LfAt (H H' : Hp) (z : Str) (y : Addr) : Prop := Same H H' ∧ H y = none ∧ ∃ e, H' y = some (.tup [.str z, .ref e]) ∧ H' e = some (.tup [])
theorem LfAt.tp {K : PySem.W.Frag} {H H' : Hp} {z : Str} {y : Addr} (h : LfAt H H' z y) : Tp K H' (.ref y) (tmD (.mk z [])) := by
  obtain ⟨_, _, e, h1, h2⟩ := h
  exact tp_leaf (sqT_of h1) (sqT_of h2)
theorem rd_leaf {z : Str} {σ : L2.St} {H : Hp} {Q : VK} (k : ∀ y H', LfAt H H' z y → Q (.ref y) H') : tTup (tCons (tC (.str z)) (tCons (tTup tNil) tNil)) σ H Q := by
  refine ⟨small (by simp), fun e he => ⟨small (by simp), fun y hy => ?_⟩⟩
  have se := same_new he (.tup [])
  have sy := same_new hy (.tup [.str z, .ref e])
  exact k y _ ⟨se.trans sy, se.free hy, e, upd_same, sy _ _ upd_same⟩
theorem rd_dni {ty td : TE} {σ : L2.St} {H : Hp} {Q : VK} (h : ty σ H fun y H1 => td σ H1 fun x H2 => ∃ a o, x = .ref a ∧ DGet H2 a y o ∧ Q (.bl (!o.isSome)) H2) : tDNotIn ty td σ H Q := h
end FN
set_option maxHeartbeats 4000000
namespace FN
open PySem PySem.Spec PyProof.Rows L2
local macro_rules | `(tactic| walk_at "w") => `(tactic| repeat (with_reducible first
  | refine rd_seq ?_
  | refine rd_asg ?_
  | refine rd_name ?_
  | refine rd_ret ?_
  | refine rd_drop ?_
  | refine rd_if ?_
  | refine rd_next ?_
  | refine rd_var (by k_dflt rfl) ?_
  | refine rd_c ?_
  | refine rd_op ?_
  | refine rd_un ?_
  | refine rd_test ?_
  | refine rd_B ?_
  | refine rd_I0 ?_
  | refine rd_U ?_
  | refine rd_eqI ?_
  | refine rd_neI ?_
  | refine rd_eqS ?_
  | refine rd_neS ?_
  | refine rd_and ?_
  | refine rd_or ?_
  | refine rd_not ?_
  | refine rd_andV ?_
  | refine rd_orV ?_
  | refine rd_notV ?_
  | refine rd_ife ?_
  | refine rd_chain ?_
  | refine rd_exb ?_
  | refine rd_exi ?_
  | refine rd_nil ?_
  | refine rd_cons ?_
  | refine rd_CB ?_
  | refine rd_G ?_
  | refine rd_fld ?_
  | refine rd_sl ?_
  | refine rd_part ?_
  | refine rd_noPart ?_
  | refine rd_leaf ?_
  | refine rd_tup ?_
  | refine rd_lst ?_
  | refine rd_star ?_
  | refine rd_bm ?_
  | refine rd_bm0 ?_
  | refine rd_gsub ?_
  | refine rd_rev ?_
  | refine rd_gnil ?_
  | refine rd_gcons ?_
  | refine rd_yes ?_
  | refine rd_abs ?_
  | refine rd_max2 ?_
  | refine rd_min2 ?_
  | refine rd_int1 ?_
  | refine rd_int1b ?_
  | refine rd_inSign ?_
  | refine rd_niSign ?_
  | refine rd_isN ?_
  | refine rd_ntN ?_
  | refine rd_dcLst ?_
  | refine rd_dcTup ?_
  | refine rd_dcItems ?_
  | refine rd_lcTup ?_
  | refine rd_lcLst ?_
  | refine rd_lcStr ?_
  | refine rd_lcR1 ?_
  | refine rd_lcR2 ?_
  | refine rd_lcKeys ?_
  | refine rd_lcVals ?_
  | refine rd_lcItems ?_
  | refine rd_lcZip ?_
  | refine rd_forTup ?_
  | refine rd_forLst ?_
  | refine rd_forR1 ?_
  | refine rd_forR2 ?_
  | refine rd_forR3 ?_
  | refine rd_forZip ?_
  | refine rd_forItems ?_
  | refine rd_lcEnumT ?_
  | refine rd_forEnumT ?_
  | refine rd_oneStr ?_
  | refine rd_mkR ?_
  | refine rd_mk0 ?_
  | refine rd_mR ?_
  | refine rd_mN ?_
  | refine rd_pr ?_
  | refine rd_cmR ?_
  | refine rd_makeC ?_
  | refine rd_tM1 ?_
  | refine rd_fmtT ?_
  | refine ⟨rd_exs, ?_⟩
  | refine rd_listZip ?_
  | refine rd_lenSetS ?_
  | refine rd_sfld ?_
  | refine rd_jc ?_
  | refine rd_jn ?_
  | refine rd_par ?_
  | refine rd_par3 ?_
  | refine rd_dupd ?_
  | refine rd_disp ?_
  | refine rd_pc ?_
  | refine rd_pn ?_
  | refine rd_dni ?_
  | refine rd_dget ?_
  | refine rd_dget2 ?_
  | refine rd_dput ?_
  | refine rd_T ?_
  | refine rd_F ?_
  | refine rd_nT ?_
  | refine rd_nF ?_))
section
variable {P : Program} {w : World} {K : PySem.W.Frag} {mg : Str → Option Value} {base : Heap} {C : Ad}
theorem ar_tmg : ∀ S ∈ SETS, ∀ t ∈ AR, (∀ u, t = .mk "k" u → ("k" : Str) ∈ S.map (·.1)) → TmG S ["_"] t := by
  intro S hS t ht hk n hn
  have hab := sets_ab S hS
  simp only [AR, List.mem_cons, List.not_mem_nil, or_false] at ht
  rcases ht with rfl | rfl | rfl | rfl | rfl
  · exact tmg_leaf (.inr List.mem_cons_self) n hn
  · exact tmg_leaf (.inl hab.1) n hn
  · exact tmg_leaf (.inl hab.2) n hn
  · have h1 := sets_k S hS (hk _ rfl)
    simp only [nodes, nodesL, List.append_nil, List.mem_cons, List.not_mem_nil, or_false, List.length_cons, List.length_nil] at hn
    rcases hn with rfl | rfl
    · exact .inl h1
    · exact .inr ⟨List.mem_cons_self, rfl⟩
  · have h1 := sets_k S hS (hk _ rfl)
    simp only [nodes, nodesL, List.append_nil, List.mem_cons, List.not_mem_nil, or_false, List.length_cons, List.length_nil] at hn
    rcases hn with rfl | rfl
    · exact .inl h1
    · exact .inl hab.1
def sp_law_argument (K : PySem.W.Frag) : Sp := fun vs H Q _ => ∃ (d sd : Addr) (S : List Nd), vs = [.ref d, .ref sd] ∧ Dice H d ∧ Sy H sd S ∧ S ∈ SETS ∧ ∀ y H' t, FrD d H H' → Dice H' d → Tp K H' y (tmD t) → t ∈ AR → TmG S ["_"] t → Q y H'
theorem ok_law_argument (T : Ty K mg C) : Gf P w K mg base "_law_argument" 3 (sp_law_argument K) := by
  have G__law_roll := ok_law_roll (P := P) (w := w) (base := base) T
  have G__law_pick := ok_law_pick (P := P) (w := w) (base := base) T
  refine T.d__law_argument.ok sc__law_argument (fun vs H Q E h => ?_) (fun f cdv A outer s H vs Q E hr h => ?_)
  · obtain ⟨d, sd, S, rfl, _⟩ := h
    rfl
  obtain ⟨d, sd, S, rfl, hd, hsy, hS, k⟩ := h
  refine ⟨_, (pss_cons (ps_set (i := 2) sc__law_argument.nd rfl (Or.inl rfl) (pe_g G__law_roll (hr.mono (by decide)) (pa_cons (pv 0) (pa_cons pe_int pa_nil))))
    (pss_cons (ps_if (pt_cmpR op_lt (pv 2) pe_int (nomark _)) (pss_one (ps_ret (pe_tup (pa_cons pe_str (pa_cons (pe_tup pa_nil) pa_nil))))) pss_nil)
    (pss_cons (ps_if (PW.pt (pw_or (pt_cmpR op_lt (pv 2) pe_int (nomark _)) (pw_or1 (pt_cmp (pc_dnotin (hu1 hr) pe_str (pv 1)))))) (pss_one (ps_ret (pe_tup (pa_cons (pe_g G__law_pick (hr.mono (by decide)) (pa_cons (pv 0) (pa_cons (pe_lst (pa_cons pe_str (pa_cons pe_str pa_nil))) pa_nil))) (pa_cons (pe_tup pa_nil) pa_nil))))) pss_nil)
    (pss_one (ps_ret (pe_tup (pa_cons pe_str (pa_cons (pe_tup (pa_cons (pe_g G__law_pick (hr.mono (by decide)) (pa_cons (pv 0) (pa_cons (pe_lst (pa_cons (pe_tup (pa_cons pe_str (pa_cons (pe_tup pa_nil) pa_nil))) (pa_cons (pe_tup (pa_cons pe_str (pa_cons (pe_tup pa_nil) pa_nil))) (pa_cons (pe_tup (pa_cons pe_str (pa_cons (pe_tup pa_nil) pa_nil))) pa_nil)))) pa_nil))) pa_nil)) pa_nil)))))))), ?_⟩
  try dsimp only [nox_K]
  refine rd_st (σ' := [some (.ref d), some (.ref sd), none]) rfl ?_
  walk_at "w"
  refine ⟨d, 9, rfl, hd, by decide, by decide, fun r H1 f1 hd1 hr9 => ?_⟩
  walk_at "w"
  by_cases h4 : ((r : Nat) : Int) < 4
  · refine rd_dT h4 ?_
    walk_at "w"
    rintro y H2 hy
    have s2 := hy.1
    exact k _ H2 _ (f1.trans (FrD.of s2)) (hd1.same s2) hy.tp (by simp [AR]) (tmg_leaf (.inr List.mem_cons_self))
  refine rd_dF h4 ?_
  walk_at "w"
  -- a or b
  have ab : tRet (tTup (tCons (tG sp_law_pick (tCons (tVar 0) (tCons (tLst (tCons (tC (.str "a")) (tCons (tC (.str "b")) tNil))) tNil))) (tCons (tTup tNil) tNil))) { nx := fun _ H' => Q .non H', rt := Q } [some (.ref d), some (.ref sd), some (vI r)] H1 := by
    walk_at "w"
    refine ⟨small (by simp), fun l hl => ?_⟩
    walk_at "w"
    have sl := same_new hl (.lst [V.str "a", .str "b"])
    refine ⟨d, l, _, rfl, hd1.same sl, upd_same, hd1.ne hl, by simp, by simp, fun r2 x H2 f2 hd2 hx => ?_⟩
    walk_at "w"
    refine ⟨small (by simp), fun e he => ?_⟩
    walk_at "w"
    refine ⟨small (by simp), fun y hy => ?_⟩
    have se := same_new he (.tup [])
    have sy := same_new hy (.tup [x, .ref e])
    have fA := (f1.trans (FrD.of sl)).trans (f2.trans (FrD.of (se.trans sy)))
    have hab := sets_ab S hS
    match r2, hx with
    | 0, hx =>
      cases hx
      exact k _ _ (.mk "a" []) fA (hd2.same (se.trans sy)) (tp_leaf (sqT_of upd_same) (sqT_kp (kp_same sy) (sqT_of upd_same))) (by simp [AR]) (tmg_leaf (.inl hab.1))
    | 1, hx =>
      cases hx
      exact k _ _ (.mk "b" []) fA (hd2.same (se.trans sy)) (tp_leaf (sqT_of upd_same) (sqT_kp (kp_same sy) (sqT_of upd_same))) (by simp [AR]) (tmg_leaf (.inl hab.2))
    | r + 2, hx => cases hx
  by_cases h8 : ((r : Nat) : Int) < 8
  · refine rd_dT h8 ?_
    exact ab
  refine rd_dF h8 ?_
  have hsy1 := hsy.fr hd f1
  walk_at "w"
  by_cases hk : ("k" : Str) ∈ S.map (·.1)
  · refine ⟨sd, _, rfl, dgetS hsy1.at_ (valV_in (n := nd "k" 1) hsy.sg.nod (sets_k S hS hk)), ?_⟩
    refine ⟨_, rfl, ?_⟩
    show tNext _ _ _
    walk_at "w"
    rintro y1 H2 hy1
    have s2 := hy1.1
    walk_at "w"
    rintro y2 H3 hy2
    have s3 := hy2.1
    walk_at "w"
    rintro y3 H4 hy3
    have s4 := hy3.1
    walk_at "w"
    refine ⟨small (by simp), fun l hl => ?_⟩
    walk_at "w"
    have sl := same_new hl (.lst [V.ref y1, .ref y2, .ref y3])
    have sA := s2.trans (s3.trans (s4.trans sl))
    refine ⟨d, l, _, rfl, hd1.same sA, upd_same, (hd1.same (s2.trans (s3.trans s4))).ne hl, by simp, by simp, fun r2 x H5 f5 hd5 hx => ?_⟩
    walk_at "w"
    have fA := (f1.trans (FrD.of sA)).trans f5
    have kp5 : Kp (upd H4 l (.lst [V.ref y1, .ref y2, .ref y3])) H5 := f5.kpD (hd1.same sA)
    refine ⟨small (by simp), fun e he => ?_⟩
    walk_at "w"
    refine ⟨small (by simp), fun y hy => ?_⟩
    have se := same_new he (.tup [x])
    have sy := same_new hy (.tup [.str "k", .ref e])
    have fin : ∀ u : Tm, Tp K H5 x (tmD u) → Tm.mk "k" [u] ∈ AR → Q (.ref y) (upd (upd H5 e (.tup [x])) y (.tup [.str "k", .ref e])) := fun u hu hm =>
      k _ _ (.mk "k" [u]) (fA.trans (FrD.of (se.trans sy))) (hd5.same (se.trans sy)) (tp_tm (sqT_of upd_same) (sqT_kp (kp_same sy) (sqT_of upd_same)) (.cons (hu.kp (kp_same (se.trans sy))) .nil)) hm (ar_tmg S hS _ hm fun _ _ => hk)
    match r2, hx with
    | 0, hx => cases hx; exact fin _ ((hy1.tp.kp (kp_same (s3.trans (s4.trans sl)))).kp kp5) (by simp [AR])
    | 1, hx => cases hx; exact fin _ ((hy2.tp.kp (kp_same (s4.trans sl))).kp kp5) (by simp [AR])
    | 2, hx => cases hx; exact fin _ ((hy3.tp.kp (kp_same sl)).kp kp5) (by simp [AR])
    | r + 3, hx => cases hx
  · refine ⟨sd, _, rfl, dgetS hsy1.at_ (valV_out hk), ?_⟩
    exact ⟨_, rfl, ab⟩
def sp_law_sketch (K : PySem.W.Frag) : Sp := fun vs H Q _ => ∃ (d sd : Addr) (S : List Nd), vs = [.ref d, .ref sd] ∧ Dice H d ∧ Sy H sd S ∧ S ∈ SETS ∧ ∀ y H' t, FrD d H H' → Dice H' d → Tp K H' y (tmD t) → TmG S ["_"] t → size t ≤ 7 → dep t ≤ 3 → Q y H'
theorem ok_law_sketch (T : Ty K mg C) : Gf P w K mg base "_law_sketch" 42 (sp_law_sketch K) := by
  have G__law_roll := ok_law_roll (P := P) (w := w) (base := base) T
  have G__law_pick := ok_law_pick (P := P) (w := w) (base := base) T
  have G__law_term := ok_law_term (P := P) (w := w) (base := base) T 3
  have G__law_nodes := ok_law_nodes (P := P) (w := w) (base := base) T 40
  refine T.d__law_sketch.ok sc__law_sketch (fun vs H Q E h => ?_) (fun f cdv A outer s H vs Q E hr h => ?_)
  · obtain ⟨d, sd, S, rfl, _⟩ := h
    rfl
  obtain ⟨d, sd, S, rfl, hd, hsy, hS, k⟩ := h
  have z1 : ∀ z : Str, size (.mk z []) = 1 ∧ dep (.mk z []) = 1 := fun z => ⟨by rw [size, sizes], by rw [dep, depL]⟩
  refine ⟨_, (pss_cons (ps_if (pt_cmpR op_eq (pe_g G__law_roll (hr.mono (by decide)) (pa_cons (pv 0) (pa_cons pe_int pa_nil))) pe_int (nomark _)) (pss_one (ps_ret (pe_tup (pa_cons pe_str (pa_cons (pe_tup pa_nil) pa_nil))))) pss_nil)
    (pss_cons (ps_set (i := 2) sc__law_sketch.nd rfl (Or.inl rfl) (pe_g G__law_term (hr.mono (by decide)) (pa_cons (pv 0) (pa_cons (pv 1) (pa_cons (pe_lst (pa_cons pe_str pa_nil)) (pa_cons (pe_g G__law_roll (hr.mono (by decide)) (pa_cons (pv 0) (pa_cons pe_int pa_nil))) pa_nil))))))
    (pss_one (ps_ret (pe_ifExp (pt_cmpR op_le (pe_callB c_lenS rfl T.f_len PySem.boot_len (pa_cons (pe_g G__law_nodes (hr.mono (by decide)) (pa_cons (pv 2) pa_nil)) pa_nil)) pe_int (nomark _)) (pv 2) (pe_tup (pa_cons (pe_g G__law_pick (hr.mono (by decide)) (pa_cons (pv 0) (pa_cons (pe_lst (pa_cons pe_str (pa_cons pe_str (pa_cons pe_str pa_nil)))) pa_nil))) (pa_cons (pe_tup pa_nil) pa_nil)))))))), ?_⟩
  try dsimp only [nox_K]
  refine rd_st (σ' := [some (.ref d), some (.ref sd), none]) rfl ?_
  walk_at "w"
  refine ⟨d, 3, rfl, hd, by decide, by decide, fun r H1 f1 hd1 _ => ?_⟩
  walk_at "w"
  by_cases h0 : ((r : Nat) : Int) = 0
  · refine rd_dT h0 ?_
    walk_at "w"
    rintro y H2 hy
    have s2 := hy.1
    exact k _ H2 _ (f1.trans (FrD.of s2)) (hd1.same s2) hy.tp (tmg_leaf (.inr List.mem_cons_self)) (by rw [(z1 _).1]; decide) (by rw [(z1 _).2]; decide)
  refine rd_dF h0 ?_
  walk_at "w"
  refine ⟨small (by simp), fun l hl => ?_⟩
  walk_at "w"
  have sl := same_new hl (.lst [V.str "_"])
  have hld := hd1.ne hl
  refine ⟨d, 3, rfl, hd1.same sl, by decide, by decide, fun r2 H2 f2 hd2 hr2 => ?_⟩
  walk_at "w"
  have fA := (f1.trans (FrD.of sl)).trans f2
  have hsy1 := (hsy.fr hd f1).same sl
  refine ⟨d, sd, l, S, ["_"], r2, rfl, hd2, hsy1.fr (hd1.same sl) f2, f2 _ _ hld upd_same, hld, lvs_u, by omega, fun y H3 t f3 hd3 hy htg htd => ?_⟩
  walk_at "w"
  have hz := htg.size hsy.sg lvs_u (n := 4) (by omega)
  refine ⟨y, t, rfl, hy, by omega, by omega, fun l4 H4 ns s4 hl4 hns => ?_⟩
  have hnl : ns.length = size t := by rw [hns.len, List.length_map, nodes_length]
  walk_at "w"
  refine rd_len (.inl (SqL.of hl4)) ?_
  walk_at "w"
  have fB := (fA.trans f3).trans (FrD.of s4)
  by_cases h7 : ((ns.length : Nat) : Int) ≤ 7
  · refine rd_dT h7 ?_
    walk_at "w"
    exact k y H4 t fB (hd3.same s4) (hy.kp (kp_same s4)) htg (by omega) (by omega)
  refine rd_dF h7 ?_
  walk_at "w"
  refine ⟨small (by simp), fun l5 hl5 => ?_⟩
  walk_at "w"
  have sl5 := same_new hl5 (.lst [V.str "a", .str "b", .str "_"])
  have hd4 := hd3.same s4
  refine ⟨d, l5, _, rfl, hd4.same sl5, upd_same, hd4.ne hl5, by simp, by simp, fun r6 x H6 f6 hd6 hx => ?_⟩
  walk_at "w"
  refine ⟨small (by simp), fun e he => ?_⟩
  walk_at "w"
  refine ⟨small (by simp), fun y6 hy6 => ?_⟩
  have se := same_new he (.tup [])
  have sy := same_new hy6 (.tup [x, .ref e])
  have fC := (fB.trans (FrD.of sl5)).trans (f6.trans (FrD.of (se.trans sy)))
  have hab := sets_ab S hS
  have fin : ∀ z : Str, x = .str z → (nd z 0 ∈ S ∨ z ∈ [("_" : Str)]) → Q (.ref y6) (upd (upd H6 e (.tup [])) y6 (.tup [x, .ref e])) := fun z hz hm => by
    subst hz
    exact k _ _ (.mk z []) fC (hd6.same (se.trans sy)) (tp_leaf (sqT_of upd_same) (sqT_kp (kp_same sy) (sqT_of upd_same))) (tmg_leaf hm) (by rw [(z1 _).1]; decide) (by rw [(z1 _).2]; decide)
  match r6, hx with
  | 0, hx => exact fin "a" (by cases hx; rfl) (.inl hab.1)
  | 1, hx => exact fin "b" (by cases hx; rfl) (.inl hab.2)
  | 2, hx => exact fin "_" (by cases hx; rfl) (.inr List.mem_cons_self)
  | r + 3, hx => cases hx
end
end FN
set_option maxHeartbeats 4000000
namespace FN
open PySem PySem.Spec PyProof.Rows L2
local macro_rules | `(tactic| walk_at "w") => `(tactic| repeat (with_reducible first
  | refine rd_seq ?_
  | refine rd_asg ?_
  | refine rd_name ?_
  | refine rd_ret ?_
  | refine rd_drop ?_
  | refine rd_if ?_
  | refine rd_next ?_
  | refine rd_var (by k_dflt rfl) ?_
  | refine rd_c ?_
  | refine rd_op ?_
  | refine rd_un ?_
  | refine rd_test ?_
  | refine rd_B ?_
  | refine rd_I0 ?_
  | refine rd_U ?_
  | refine rd_eqI ?_
  | refine rd_neI ?_
  | refine rd_eqS ?_
  | refine rd_neS ?_
  | refine rd_and ?_
  | refine rd_or ?_
  | refine rd_not ?_
  | refine rd_andV ?_
  | refine rd_orV ?_
  | refine rd_notV ?_
  | refine rd_ife ?_
  | refine rd_chain ?_
  | refine rd_exb ?_
  | refine rd_exi ?_
  | refine rd_nil ?_
  | refine rd_cons ?_
  | refine rd_CB ?_
  | refine rd_G ?_
  | refine rd_fld ?_
  | refine rd_sl ?_
  | refine rd_part ?_
  | refine rd_noPart ?_
  | refine rd_leaf ?_
  | refine rd_tup ?_
  | refine rd_lst ?_
  | refine rd_star ?_
  | refine rd_bm ?_
  | refine rd_bm0 ?_
  | refine rd_gsub ?_
  | refine rd_rev ?_
  | refine rd_gnil ?_
  | refine rd_gcons ?_
  | refine rd_yes ?_
  | refine rd_abs ?_
  | refine rd_max2 ?_
  | refine rd_min2 ?_
  | refine rd_int1 ?_
  | refine rd_int1b ?_
  | refine rd_inSign ?_
  | refine rd_niSign ?_
  | refine rd_isN ?_
  | refine rd_ntN ?_
  | refine rd_dcLst ?_
  | refine rd_dcTup ?_
  | refine rd_dcItems ?_
  | refine rd_lcTup ?_
  | refine rd_lcLst ?_
  | refine rd_lcStr ?_
  | refine rd_lcR1 ?_
  | refine rd_lcR2 ?_
  | refine rd_lcKeys ?_
  | refine rd_lcVals ?_
  | refine rd_lcItems ?_
  | refine rd_lcZip ?_
  | refine rd_forTup ?_
  | refine rd_forLst ?_
  | refine rd_forR1 ?_
  | refine rd_forR2 ?_
  | refine rd_forR3 ?_
  | refine rd_forZip ?_
  | refine rd_forItems ?_
  | refine rd_lcEnumT ?_
  | refine rd_forEnumT ?_
  | refine rd_oneStr ?_
  | refine rd_mkR ?_
  | refine rd_mk0 ?_
  | refine rd_mR ?_
  | refine rd_mN ?_
  | refine rd_pr ?_
  | refine rd_cmR ?_
  | refine rd_makeC ?_
  | refine rd_tM1 ?_
  | refine rd_fmtT ?_
  | refine ⟨rd_exs, ?_⟩
  | refine rd_listZip ?_
  | refine rd_lenSetS ?_
  | refine rd_sfld ?_
  | refine rd_jc ?_
  | refine rd_jn ?_
  | refine rd_par ?_
  | refine rd_par3 ?_
  | refine rd_dupd ?_
  | refine rd_disp ?_
  | refine rd_pc ?_
  | refine rd_pn ?_
  | refine rd_dni ?_
  | refine rd_dget ?_
  | refine rd_dget2 ?_
  | refine rd_dput ?_
  | refine rd_T ?_
  | refine rd_F ?_
  | refine rd_nT ?_
  | refine rd_nF ?_))
/-! ### the patterns of the law's books -/
def tups : Nat → List (List Tm)
  | 0 => [[]]
  | n + 1 => AR.flatMap fun a => (tups n).map (a :: ·)
def HDS : List Nd := [nd "f" 2, nd "f" 3, nd "g" 0, nd "k" 1, nd "h" 2]
def PATS : List Tm := HDS.flatMap fun n => (tups n.2).map fun ts => .mk n.1 ts
def code (z : Str) : Nat := z.cps.toList.foldl (fun a c => a * 256 + c) 0
def PL : List Str := ["a", "b", "k(_)", "k(a)"]
theorem mem_tups : ∀ (n : Nat) (ts : List Tm), ts.length = n → (∀ t ∈ ts, t ∈ AR) → ts ∈ tups n
  | 0, [], _, _ => List.mem_singleton.mpr rfl
  | n + 1, t :: r, h, k => List.mem_flatMap.mpr ⟨t, k t List.mem_cons_self, List.mem_map.mpr ⟨r, mem_tups n r (by simpa using h) fun u hu => k u (List.mem_cons_of_mem _ hu), rfl⟩⟩
theorem mem_pats {n : Nd} {ts : List Tm} (hn : n ∈ HDS) (h : ts.length = n.2) (k : ∀ t ∈ ts, t ∈ AR) : .mk n.1 ts ∈ PATS := List.mem_flatMap.mpr ⟨n, hn, List.mem_map.mpr ⟨ts, mem_tups _ ts h k, rfl⟩⟩
theorem pats_code : (PATS.map fun t => code (tx t)).Nodup := by decide +kernel
theorem pats_fact : ∀ p ∈ PATS, size p ≤ 7 ∧ p.w ≠ "_" ∧ ∀ s ∈ (parts p).drop 1, s.w ≠ "_" → tx s ∈ PL := by decide +kernel
theorem pats_inj {a b : Tm} (ha : a ∈ PATS) (hb : b ∈ PATS) (e : tx a = tx b) : a = b := by
  obtain ⟨i, hi, rfl⟩ := List.mem_iff_getElem.mp ha
  obtain ⟨j, hj, rfl⟩ := List.mem_iff_getElem.mp hb
  have h := pats_code
  have q : i = j := by
    refine (List.getElem_inj (h₀ := by simpa using hi) (h₁ := by simpa using hj) h).mp ?_
    rw [List.getElem_map, List.getElem_map, e]
  subst q; rfl
theorem pats_parts {p : Tm} (h : p ∈ PATS) : PartsIn PL p := fun k s ha hw => by
  refine (pats_fact p h).2.2 s ?_ hw
  have := ha.part
  refine List.mem_iff_getElem?.mpr ⟨k, ?_⟩
  rw [List.getElem?_drop, Nat.add_comm]
  exact this
/-- the rules that the law makes -/
structure LRule (S : List Nd) (r : Tm × Tm) : Prop where
  pat : r.1 ∈ PATS
  g1 : TmG S ["_"] r.1
  g2 : TmG S ["_"] r.2
  z2 : size r.2 ≤ 7
  d2 : dep r.2 ≤ 3
structure LRs (S : List Nd) (R : List (Tm × Tm)) : Prop where
  st : S ∈ SETS
  len : R.length ≤ 5
  ok : ∀ r ∈ R, LRule S r
  nod : (R.map (·.1)).Nodup
theorem tmg_hash {S : List Nd} {t : Tm} (h : TmG S ["_"] t) (hS : SG S) : lv "#" t = [] := by
  have key : ∀ (ns : List Nd) (p : Nat), (∀ n ∈ ns, n.1 ≠ "#") → plw "#" p ns = [] := by
    intro ns
    induction ns with
    | nil => intro p _; rfl
    | cons n r ih =>
      intro p hn
      rw [plw, if_neg (hn n List.mem_cons_self), ih _ fun m hm => hn m (List.mem_cons_of_mem _ hm)]
  refine key _ 0 fun n hn e => ?_
  rcases h n hn with h1 | h1
  · refine (hS.ok h1).2 ?_
    rw [e]; decide
  · rw [e] at h1
    exact absurd h1.1 (by decide)
theorem LRule.ok {S : List Nd} {r : Tm × Tm} (h : LRule S r) (hS : SG S) : RuleOk S r := by
  have f := pats_fact _ h.pat
  have b1 := h.g1.b hS lvs_u (by omega)
  have b2 := h.g2.b hS lvs_u (by have := h.z2; omega)
  exact ⟨b1.w, b2.w, b1.s, b2.s, tmg_hash h.g1 hS, tmg_hash h.g2 hS, f.1, h.z2, f.2.1⟩
theorem nodup_tx : ∀ R : List (Tm × Tm), (∀ r ∈ R, r.1 ∈ PATS) → (R.map (·.1)).Nodup → (R.map fun r => tx r.1).Nodup
  | [], _, _ => List.nodup_nil
  | r :: R, h, k => by
    rw [List.map_cons, List.nodup_cons] at k ⊢
    refine ⟨fun hm => k.1 ?_, nodup_tx R (fun q hq => h q (List.mem_cons_of_mem _ hq)) k.2⟩
    obtain ⟨q, hq, e⟩ := List.mem_map.mp hm
    have := pats_inj (h q (List.mem_cons_of_mem _ hq)) (h r List.mem_cons_self) e
    exact List.mem_map.mpr ⟨q, hq, this⟩
theorem LRs.rules {S : List Nd} {R : List (Tm × Tm)} (h : LRs S R) : RulesOk S R := ⟨by have := h.len; omega, fun r hr => (h.ok r hr).ok (sets_sg S h.st), nodup_tx R (fun r hr => (h.ok r hr).pat) h.nod, PL, by decide, fun r hr => pats_parts (h.ok r hr).pat⟩
theorem LRs.book {S : List Nd} {R : List (Tm × Tm)} (h : LRs S R) : BookOk S R := ⟨sets_sg S h.st, h.rules⟩
end FN
set_option maxHeartbeats 4000000
namespace FN
open PySem PySem.Spec PyProof.Rows L2
local macro_rules | `(tactic| walk_at "w") => `(tactic| repeat (with_reducible first
  | refine rd_seq ?_
  | refine rd_asg ?_
  | refine rd_name ?_
  | refine rd_ret ?_
  | refine rd_drop ?_
  | refine rd_if ?_
  | refine rd_next ?_
  | refine rd_var (by k_dflt rfl) ?_
  | refine rd_c ?_
  | refine rd_op ?_
  | refine rd_un ?_
  | refine rd_test ?_
  | refine rd_B ?_
  | refine rd_I0 ?_
  | refine rd_U ?_
  | refine rd_eqI ?_
  | refine rd_neI ?_
  | refine rd_eqS ?_
  | refine rd_neS ?_
  | refine rd_and ?_
  | refine rd_or ?_
  | refine rd_not ?_
  | refine rd_andV ?_
  | refine rd_orV ?_
  | refine rd_notV ?_
  | refine rd_ife ?_
  | refine rd_chain ?_
  | refine rd_exb ?_
  | refine rd_exi ?_
  | refine rd_nil ?_
  | refine rd_cons ?_
  | refine rd_CB ?_
  | refine rd_G ?_
  | refine rd_fld ?_
  | refine rd_sl ?_
  | refine rd_part ?_
  | refine rd_noPart ?_
  | refine rd_leaf ?_
  | refine rd_tup ?_
  | refine rd_lst ?_
  | refine rd_star ?_
  | refine rd_bm ?_
  | refine rd_bm0 ?_
  | refine rd_gsub ?_
  | refine rd_rev ?_
  | refine rd_gnil ?_
  | refine rd_gcons ?_
  | refine rd_yes ?_
  | refine rd_abs ?_
  | refine rd_max2 ?_
  | refine rd_min2 ?_
  | refine rd_int1 ?_
  | refine rd_int1b ?_
  | refine rd_inSign ?_
  | refine rd_niSign ?_
  | refine rd_isN ?_
  | refine rd_ntN ?_
  | refine rd_dcLst ?_
  | refine rd_dcTup ?_
  | refine rd_dcItems ?_
  | refine rd_lcTup ?_
  | refine rd_lcLst ?_
  | refine rd_lcStr ?_
  | refine rd_lcR1 ?_
  | refine rd_lcR2 ?_
  | refine rd_lcKeys ?_
  | refine rd_lcVals ?_
  | refine rd_lcItems ?_
  | refine rd_lcZip ?_
  | refine rd_forTup ?_
  | refine rd_forLst ?_
  | refine rd_forR1 ?_
  | refine rd_forR2 ?_
  | refine rd_forR3 ?_
  | refine rd_forZip ?_
  | refine rd_forItems ?_
  | refine rd_lcEnumT ?_
  | refine rd_forEnumT ?_
  | refine rd_oneStr ?_
  | refine rd_mkR ?_
  | refine rd_mk0 ?_
  | refine rd_mR ?_
  | refine rd_mN ?_
  | refine rd_pr ?_
  | refine rd_cmR ?_
  | refine rd_makeC ?_
  | refine rd_tM1 ?_
  | refine rd_fmtT ?_
  | refine ⟨rd_exs, ?_⟩
  | refine rd_listZip ?_
  | refine rd_lenSetS ?_
  | refine rd_sfld ?_
  | refine rd_jc ?_
  | refine rd_jn ?_
  | refine rd_par ?_
  | refine rd_par3 ?_
  | refine rd_dupd ?_
  | refine rd_disp ?_
  | refine rd_pc ?_
  | refine rd_pn ?_
  | refine rd_dni ?_
  | refine rd_dget ?_
  | refine rd_dget2 ?_
  | refine rd_dput ?_
  | refine rd_T ?_
  | refine rd_F ?_
  | refine rd_nT ?_
  | refine rd_nF ?_))
section
variable {P : Program} {w : World} {K : PySem.W.Frag} {mg : Str → Option Value} {base : Heap} {C : Ad}
def sp_law_made (K : PySem.W.Frag) (C : Ad) : Sp := fun vs H Q _ => ∃ (b : Addr) (S : List Nd) (R : List (Tm × Tm)), vs = [.ref b] ∧ LBook K H b S R ∧ LRs S R ∧ ∀ m H', Same H H' → BookAt K C H' m S R → Q (.ref m) H'
theorem ok_law_made (T : Ty K mg C) : Gf P w K mg base "_law_made" 50 (sp_law_made K C) := by
  have G__law_made_term := ok_made_term (P := P) (w := w) (base := base) T
  have G_Book___init__ := (ok_Book (P := P) (w := w) (base := base) T).rf
  refine T.d__law_made.ok sc__law_made (fun vs H Q E h => ?_) (fun f cdv A outer s H vs Q E hr h => ?_)
  · obtain ⟨b, S, R, rfl, _⟩ := h
    rfl
  obtain ⟨b, S, R, rfl, LB, ok, k⟩ := h
  obtain ⟨sd, rl, xs, hb, hsd, hrl, hx⟩ := LB
  have hxl : xs.length = R.length := by rw [hx.len, List.length_map]
  have hRl := ok.len
  refine ⟨_, (pss_cons (ps_setLc (i := 1) (own := [("_law_pattern", 2), ("_law_sketch_here", 3)]) rfl sc__law_made.nd rfl rfl (sw_true rfl rfl rfl (by decide +kernel)) (pi_list (pe_dget (hu1 hr) (pv 0) pe_str (fun _ _ => rfl))) (blkOk_by (own := [("_law_pattern", 2), ("_law_sketch_here", 3)]) (N := ["_law_book_here", "_law_pairs_here", "_law_pattern", "_law_sketch_here"]) (sc := defScope s__law_made) (by decide +kernel)) (fun _ _ _ _ _ => (tupG_k (K := K) (n := 2) rfl rfl (pgs_cons (pg_name (i := 2) sc__law_made.nd rfl (Or.inl rfl)) (pgs_cons (pg_name (i := 3) sc__law_made.nd rfl (Or.inl rfl)) pgs_nil)))) (fun _ _ _ _ _ => pts_nil) (fun _ _ _ _ _ => (pe_tup (pa_cons (pe_g G__law_made_term (hr.mono (by decide)) (pa_cons (pv 2) pa_nil)) (pa_cons (pe_g G__law_made_term (hr.mono (by decide)) (pa_cons (pv 3) pa_nil)) pa_nil)))))
    (pss_one (ps_ret (pe_mk G_Book___init__ (hr.mono (by decide)) T.g_Book (pa_cons (pe_dget (hu1 hr) (pv 0) pe_str (fun _ _ => rfl)) (pa_cons (pe_callTy c_tupS rfl T.f_tuple (by decide +kernel) (pa_cons (pv 1) pa_nil)) pa_nil)))))), ?_⟩
  try dsimp only [nox_K]
  refine rd_st (σ' := [some (.ref b), none, none, none]) rfl ?_
  walk_at "w"
  refine ⟨b, _, rfl, lb_rules hb, ?_⟩
  refine rd_oneLst (SqL.of hrl) fun D hD => ?_
  refine lc_map (walk_list (xs := xs)) (fun i y H => ∃ r, R[i]? = some r ∧ PairAt K C H y r) (by omega) hD (fun i y H H' q kk => ?_) (fun H' s => SqL.of (s _ _ hrl)) ?_ ?_
  · obtain ⟨r, h1, h2⟩ := q
    exact ⟨r, h1, h2.kp kk⟩
  · rintro i acc x H3 H2 hi hl s2 hD' rr ⟨rfl, hx1⟩
    have hri : R[i]? = some (R[i]'(by omega)) := List.getElem?_eq_getElem (by omega)
    obtain ⟨pa, x1, x2, hpx, hp, h1, h2⟩ := tps_pair (hx.kp (kp_same s2)) hri
    have hrk := ok.rules.ok _ (List.mem_of_getElem? hri)
    generalize R[i]'(by omega) = r at *
    rw [hx1] at hpx
    cases hpx
    refine rd_gtup hp rfl ?_
    walk_at "w"
    refine ⟨rfl, ?_⟩
    walk_at "w"
    refine ⟨x1, r.1, rfl, h1, hrk.w1, fun a H4 s4 ha => ?_⟩
    walk_at "w"
    refine ⟨x2, r.2, rfl, h2.kp (kp_same s4), hrk.w2, fun c H5 s5 hc => ?_⟩
    walk_at "w"
    refine ⟨small (by simp), fun q hq => ?_⟩
    have sq := same_new hq (.tup [V.ref a, .ref c])
    refine lc_put (by omega) hl hD' hD s2 (s4.trans (s5.trans sq)) (fun i y H H' q kk => ?_) rr ⟨r, hri, q, a, c, rfl, sqT_of upd_same, (ha.kp (kp_same s5)).kp (kp_same sq), hc.kp (kp_same sq)⟩
    obtain ⟨r, h1, h2⟩ := q
    exact ⟨r, h1, h2.kp kk⟩
  · intro acc H1 s1 hD' hl1 hf
    walk_at "w"
    refine ⟨b, _, rfl, lb_symbols (s1 _ _ hb), ?_⟩
    walk_at "w"
    refine rd_tupS (SqL.of hD') fun l hl => ?_
    have sl := same_new hl (.tup acc)
    walk_at "w"
    intro x dx hx0 hdx hne
    have s2 : Same H1 (upd (upd (upd H1 l (.tup acc)) dx (.own x)) x (.ins C.b dx [])) := sl.trans (same_make hx0 hdx)
    have s3 : Same (upd H1 l (.tup acc)) (upd (upd (upd H1 l (.tup acc)) dx (.own x)) x (.ins C.b dx [])) := same_make hx0 hdx
    refine ⟨x, dx, sd, l, acc, S, R, rfl, upd_same, s2 _ _ (s1 _ _ hsd), sets_sg S ok.st, sqT_of (s3 _ _ upd_same), ⟨by rw [hl1, hxl], fun i y r h1 h2 => ?_⟩, ok.rules, fun H' fr hB => ⟨rfl, k x H' (s1.trans (sl.trans (same_made hx0 hdx fr))) hB⟩⟩
    obtain ⟨r', g1, g2⟩ := hf i y h1
    rw [h2] at g1
    cases g1
    exact g2.kp (kp_same s2)
end
end FN
set_option maxHeartbeats 4000000
namespace FN
open PySem PySem.Spec PyProof.Rows L2
local macro_rules | `(tactic| walk_at "w") => `(tactic| repeat (with_reducible first
  | refine rd_seq ?_
  | refine rd_asg ?_
  | refine rd_name ?_
  | refine rd_ret ?_
  | refine rd_drop ?_
  | refine rd_if ?_
  | refine rd_next ?_
  | refine rd_var (by k_dflt rfl) ?_
  | refine rd_c ?_
  | refine rd_op ?_
  | refine rd_un ?_
  | refine rd_test ?_
  | refine rd_B ?_
  | refine rd_I0 ?_
  | refine rd_U ?_
  | refine rd_eqI ?_
  | refine rd_neI ?_
  | refine rd_eqS ?_
  | refine rd_neS ?_
  | refine rd_and ?_
  | refine rd_or ?_
  | refine rd_not ?_
  | refine rd_andV ?_
  | refine rd_orV ?_
  | refine rd_notV ?_
  | refine rd_ife ?_
  | refine rd_chain ?_
  | refine rd_exb ?_
  | refine rd_exi ?_
  | refine rd_nil ?_
  | refine rd_cons ?_
  | refine rd_CB ?_
  | refine rd_G ?_
  | refine rd_fld ?_
  | refine rd_sl ?_
  | refine rd_part ?_
  | refine rd_noPart ?_
  | refine rd_leaf ?_
  | refine rd_tup ?_
  | refine rd_lst ?_
  | refine rd_star ?_
  | refine rd_bm ?_
  | refine rd_bm0 ?_
  | refine rd_gsub ?_
  | refine rd_rev ?_
  | refine rd_gnil ?_
  | refine rd_gcons ?_
  | refine rd_yes ?_
  | refine rd_abs ?_
  | refine rd_max2 ?_
  | refine rd_min2 ?_
  | refine rd_int1 ?_
  | refine rd_int1b ?_
  | refine rd_inSign ?_
  | refine rd_niSign ?_
  | refine rd_isN ?_
  | refine rd_ntN ?_
  | refine rd_dcLst ?_
  | refine rd_dcTup ?_
  | refine rd_dcItems ?_
  | refine rd_lcTup ?_
  | refine rd_lcLst ?_
  | refine rd_lcStr ?_
  | refine rd_lcR1 ?_
  | refine rd_lcR2 ?_
  | refine rd_lcKeys ?_
  | refine rd_lcVals ?_
  | refine rd_lcItems ?_
  | refine rd_lcZip ?_
  | refine rd_forTup ?_
  | refine rd_forLst ?_
  | refine rd_forR1 ?_
  | refine rd_forR2 ?_
  | refine rd_forR3 ?_
  | refine rd_forZip ?_
  | refine rd_forItems ?_
  | refine rd_lcEnumT ?_
  | refine rd_forEnumT ?_
  | refine rd_oneStr ?_
  | refine rd_mkR ?_
  | refine rd_mk0 ?_
  | refine rd_mR ?_
  | refine rd_mN ?_
  | refine rd_pr ?_
  | refine rd_cmR ?_
  | refine rd_makeC ?_
  | refine rd_tM1 ?_
  | refine rd_fmtT ?_
  | refine ⟨rd_exs, ?_⟩
  | refine rd_listZip ?_
  | refine rd_lenSetS ?_
  | refine rd_sfld ?_
  | refine rd_jc ?_
  | refine rd_jn ?_
  | refine rd_par ?_
  | refine rd_par3 ?_
  | refine rd_dupd ?_
  | refine rd_disp ?_
  | refine rd_pc ?_
  | refine rd_pn ?_
  | refine rd_dni ?_
  | refine rd_dget ?_
  | refine rd_dget2 ?_
  | refine rd_dput ?_
  | refine rd_T ?_
  | refine rd_F ?_
  | refine rd_nT ?_
  | refine rd_nF ?_))
section
variable {P : Program} {w : World} {K : PySem.W.Frag} {mg : Str → Option Value} {base : Heap} {C : Ad}
/-- all but the lists at d and p stays -/
def Fr2 (d p : Addr) (H H' : Hp) : Prop := ∀ a o, a ≠ d → a ≠ p → H a = some o → H' a = some o
theorem Fr2.trans {d p : Addr} {H H1 H2 : Hp} (a : Fr2 d p H H1) (b : Fr2 d p H1 H2) : Fr2 d p H H2 := fun x o n m h => b x o n m (a x o n m h)
theorem Fr2.of {d p : Addr} {H H' : Hp} (s : FrD d H H') : Fr2 d p H H' := fun a o n _ h => s a o n h
theorem Fr2.same {d p : Addr} {H H' : Hp} (s : Same H H') : Fr2 d p H H' := fun a o _ _ h => s a o h
theorem Fr2.put {d p : Addr} {H : Hp} {o : HO} : Fr2 d p H (upd H p o) := fun a u _ n e => by rw [upd_ne n]; exact e
theorem Fr2.kp {d p : Addr} {H H' : Hp} {xs : List V} (f : Fr2 d p H H') (h : Dice H d) (hp : H p = some (.lst xs)) : Kp H H' := fun a o e n => f a o (fun z => by
  subst z
  obtain ⟨g, b, c, q⟩ := h
  rw [q] at e
  exact n _ (Option.some.inj e).symm) (fun z => by
  subst z
  rw [hp] at e
  exact n _ (Option.some.inj e).symm) e
/-- a list of pairs under way -/
structure PrsAt (K : PySem.W.Frag) (H : Hp) (p : Addr) (R : List (Tm × Tm)) : Prop where
  at_ : ∃ vs, H p = some (.lst vs) ∧ Tps K H vs (R.map pairD)
theorem tps_len {H : Hp} {xs : List V} {ds : List PyData} (h : Tps K H xs ds) : xs.length = ds.length := h.len
/-- one more pair -/
theorem PrsAt.push {H H' : Hp} {d p q : Addr} {x y : V} {R : List (Tm × Tm)} {a b : Tm} (h : PrsAt K H p R) (hd : Dice H d) (f : Fr2 d p H H') (hp : H' p = H p) (e : SqT K H' q [x, y]) (hx : Tp K H' x (tmD a)) (hy : Tp K H' y (tmD b)) : ∃ vs, H' p = some (.lst vs) ∧ vs.length = R.length ∧ PrsAt K (upd H' p (.lst (vs ++ [.ref q]))) p (R ++ [(a, b)]) := by
  obtain ⟨vs, hv, ht⟩ := h.at_
  have k1 : Kp H H' := f.kp hd hv
  rw [hv] at hp
  have k2 : Kp H' (upd H' p (.lst (vs ++ [.ref q]))) := kp_lst hp
  refine ⟨vs, hp, by rw [ht.len, List.length_map], ⟨_, upd_same, ?_⟩⟩
  rw [List.map_append]
  exact Tps.app ((ht.kp k1).kp k2) (.cons ((Tp.tup e (.cons hx (.cons hy .nil))).kp k2) .nil)
end
end FN
set_option maxHeartbeats 4000000
namespace FN
open PySem PySem.Spec PyProof.Rows L2
local macro_rules | `(tactic| walk_at "w") => `(tactic| repeat (with_reducible first
  | refine rd_seq ?_
  | refine rd_asg ?_
  | refine rd_name ?_
  | refine rd_ret ?_
  | refine rd_drop ?_
  | refine rd_if ?_
  | refine rd_next ?_
  | refine rd_var (by k_dflt rfl) ?_
  | refine rd_c ?_
  | refine rd_op ?_
  | refine rd_un ?_
  | refine rd_test ?_
  | refine rd_B ?_
  | refine rd_I0 ?_
  | refine rd_U ?_
  | refine rd_eqI ?_
  | refine rd_neI ?_
  | refine rd_eqS ?_
  | refine rd_neS ?_
  | refine rd_and ?_
  | refine rd_or ?_
  | refine rd_not ?_
  | refine rd_andV ?_
  | refine rd_orV ?_
  | refine rd_notV ?_
  | refine rd_ife ?_
  | refine rd_chain ?_
  | refine rd_exb ?_
  | refine rd_exi ?_
  | refine rd_nil ?_
  | refine rd_cons ?_
  | refine rd_CB ?_
  | refine rd_G ?_
  | refine rd_fld ?_
  | refine rd_sl ?_
  | refine rd_part ?_
  | refine rd_noPart ?_
  | refine rd_leaf ?_
  | refine rd_tup ?_
  | refine rd_lst ?_
  | refine rd_star ?_
  | refine rd_bm ?_
  | refine rd_bm0 ?_
  | refine rd_gsub ?_
  | refine rd_rev ?_
  | refine rd_gnil ?_
  | refine rd_gcons ?_
  | refine rd_yes ?_
  | refine rd_abs ?_
  | refine rd_max2 ?_
  | refine rd_min2 ?_
  | refine rd_int1 ?_
  | refine rd_int1b ?_
  | refine rd_inSign ?_
  | refine rd_niSign ?_
  | refine rd_isN ?_
  | refine rd_ntN ?_
  | refine rd_dcLst ?_
  | refine rd_dcTup ?_
  | refine rd_dcItems ?_
  | refine rd_lcTup ?_
  | refine rd_lcLst ?_
  | refine rd_lcStr ?_
  | refine rd_lcR1 ?_
  | refine rd_lcR2 ?_
  | refine rd_lcKeys ?_
  | refine rd_lcVals ?_
  | refine rd_lcItems ?_
  | refine rd_lcZip ?_
  | refine rd_forTup ?_
  | refine rd_forLst ?_
  | refine rd_forR1 ?_
  | refine rd_forR2 ?_
  | refine rd_forR3 ?_
  | refine rd_forZip ?_
  | refine rd_forItems ?_
  | refine rd_lcEnumT ?_
  | refine rd_forEnumT ?_
  | refine rd_oneStr ?_
  | refine rd_mkR ?_
  | refine rd_mk0 ?_
  | refine rd_mR ?_
  | refine rd_mN ?_
  | refine rd_pr ?_
  | refine rd_cmR ?_
  | refine rd_makeC ?_
  | refine rd_tM1 ?_
  | refine rd_fmtT ?_
  | refine ⟨rd_exs, ?_⟩
  | refine rd_listZip ?_
  | refine rd_lenSetS ?_
  | refine rd_sfld ?_
  | refine rd_jc ?_
  | refine rd_jn ?_
  | refine rd_par ?_
  | refine rd_par3 ?_
  | refine rd_dupd ?_
  | refine rd_disp ?_
  | refine rd_pc ?_
  | refine rd_pn ?_
  | refine rd_dni ?_
  | refine rd_dget ?_
  | refine rd_dget2 ?_
  | refine rd_dput ?_
  | refine rd_T ?_
  | refine rd_F ?_
  | refine rd_nT ?_
  | refine rd_nF ?_))
section
variable {P : Program} {w : World} {K : PySem.W.Frag} {mg : Str → Option Value} {base : Heap} {C : Ad}
/-- what the law's book-makers give -/
def sp_law_book (K : PySem.W.Frag) : Sp := fun vs H Q _ => ∃ d : Addr, vs = [.ref d] ∧ Dice H d ∧ ∀ b H' S R, FrD d H H' → Dice H' d → LBook K H' b S R → LRs S R → Q (.ref b) H'
def GS : List Nd := AB ++ [nd "f" 3, nd "g" 0]
def lf (z : Str) : Tm := .mk z []
def T1 : Tm := .mk "f" [lf "a", lf "b", lf "_"]
def T2 : Tm := .mk "f" [lf "_", lf "a", lf "b"]
def T3 : Tm := .mk "f" [lf "b", lf "_", lf "a"]
def T4 : Tm := .mk "g" []
theorem gs_mem : GS ∈ SETS := List.mem_map.mpr ⟨_, List.mem_cons_of_mem _ List.mem_cons_self, rfl⟩
theorem gs_pat : ∀ t ∈ [T1, T2, T3, T4], t ∈ PATS := by
  intro t ht
  have k : ∀ u ∈ [lf "a", lf "b", lf "_"], u ∈ AR := fun u hu => by
    simp only [List.mem_cons, List.not_mem_nil, or_false] at hu
    rcases hu with rfl | rfl | rfl <;> simp [AR, lf]
  simp only [List.mem_cons, List.not_mem_nil, or_false] at ht k
  rcases ht with rfl | rfl | rfl | rfl
  · exact mem_pats (n := nd "f" 3) (by simp [HDS]) rfl fun u hu => k u (by simpa using hu)
  · exact mem_pats (n := nd "f" 3) (by simp [HDS]) rfl fun u hu => k u (by simp only [List.mem_cons, List.not_mem_nil, or_false] at hu; rcases hu with h | h | h <;> simp [h])
  · exact mem_pats (n := nd "f" 3) (by simp [HDS]) rfl fun u hu => k u (by simp only [List.mem_cons, List.not_mem_nil, or_false] at hu; rcases hu with h | h | h <;> simp [h])
  · exact mem_pats (n := nd "g" 0) (by simp [HDS]) rfl fun u hu => by cases hu
theorem gs_nod : [T1, T2, T3, T4].Nodup := by
  have h : ([T1, T2, T3, T4].map fun t => code (tx t)).Nodup := by decide +kernel
  exact List.Pairwise.of_map _ (fun a b e z => e (by rw [z])) h
theorem gs_tmg : ∀ t ∈ [T1, T2, T3, T4, lf "a", lf "_"], TmG GS ["_"] t := by
  intro t ht n hn
  have h1 : ∀ t ∈ [T1, T2, T3, T4, lf "a", lf "_"], ∀ n ∈ nodes t, n ∈ GS ∨ (n.1 ∈ [("_" : Str)] ∧ n.2 = 0) := by decide +kernel
  exact h1 t ht n hn
theorem gs_rule {a b : Tm} (ha : a ∈ [T1, T2, T3, T4]) (hb : b ∈ [lf "_", lf "a", T4]) : LRule GS (a, b) := by
  have hb' : b ∈ [T1, T2, T3, T4, lf "a", lf "_"] := by
    simp only [List.mem_cons, List.not_mem_nil, or_false] at hb ⊢
    rcases hb with rfl | rfl | rfl <;> simp
  have ha' : a ∈ [T1, T2, T3, T4, lf "a", lf "_"] := by
    simp only [List.mem_cons, List.not_mem_nil, or_false] at ha ⊢
    rcases ha with rfl | rfl | rfl | rfl <;> simp
  have hz : ∀ b ∈ [lf "_", lf "a", T4], size b ≤ 7 ∧ dep b ≤ 3 := by decide +kernel
  exact ⟨gs_pat a ha, gs_tmg a ha', gs_tmg b hb', (hz b hb).1, (hz b hb).2⟩
/-- the pattern of a row -/
def gT (r1 r2 : Addr) : V → Tm
  | .ref a => if a = r1 then T1 else if a = r2 then T2 else T3
  | _ => T3
theorem ok_law_gustave (T : Ty K mg C) : Gf P w K mg base "_law_gustave" 4 (sp_law_book K) := by
  have G__law_roll := ok_law_roll (P := P) (w := w) (base := base) T
  have G__law_pick := ok_law_pick (P := P) (w := w) (base := base) T
  have G__law_some := ok_law_some (P := P) (w := w) (base := base) T
  refine T.d__law_gustave.ok sc__law_gustave (fun vs H Q E h => ?_) (fun f cdv A outer s H vs Q E hr h => ?_)
  · obtain ⟨d, rfl, _⟩ := h
    rfl
  obtain ⟨d, rfl, hd, k⟩ := h
  refine ⟨_, (pss_cons (ps_asg (pe_tup (pa_cons (pe_tup (pa_cons pe_str (pa_cons (pe_tup pa_nil) pa_nil))) (pa_cons (pe_tup (pa_cons pe_str (pa_cons (pe_tup pa_nil) pa_nil))) (pa_cons (pe_tup (pa_cons pe_str (pa_cons (pe_tup pa_nil) pa_nil))) pa_nil)))) (pg_tup (n := 3) rfl (pgs_cons (pg_name (i := 4) sc__law_gustave.nd rfl (Or.inl rfl)) (pgs_cons (pg_name (i := 5) sc__law_gustave.nd rfl (Or.inl rfl)) (pgs_cons (pg_name (i := 6) sc__law_gustave.nd rfl (Or.inl rfl)) pgs_nil)))))
    (pss_cons (ps_set (i := 1) sc__law_gustave.nd rfl (Or.inl rfl) (pe_lst (pa_cons (pe_tup (pa_cons (pv 4) (pa_cons (pv 5) (pa_cons (pv 6) pa_nil)))) (pa_cons (pe_tup (pa_cons (pv 6) (pa_cons (pv 4) (pa_cons (pv 5) pa_nil)))) (pa_cons (pe_tup (pa_cons (pv 5) (pa_cons (pv 6) (pa_cons (pv 4) pa_nil)))) pa_nil)))))
    (pss_cons (ps_set (i := 2) sc__law_gustave.nd rfl (Or.inl rfl) (pe_lst pa_nil))
    (pss_cons (ps_for PassesOwn.never rfl (pi_list (pe_g G__law_some (hr.mono (by decide)) (pa_cons (pv 0) (pa_cons (pv 1) (pa_cons (pe_op op_add pe_int (pe_g G__law_roll (hr.mono (by decide)) (pa_cons (pv 0) (pa_cons pe_int pa_nil)))) pa_nil))))) (pg_name (i := 3) sc__law_gustave.nd rfl (Or.inl rfl)) (pss_one (ps_expr (pe_bm PySem.F.plainAttrs_list PySem.F.slot_list_append PySem.F.type_list_append mt_append (pv 2) (pa_cons (pe_tup (pa_cons (pe_tup (pa_cons pe_str (pa_cons (pv 3) pa_nil))) (pa_cons (pe_g G__law_pick (hr.mono (by decide)) (pa_cons (pv 0) (pa_cons (pe_lst (pa_cons (pv 6) (pa_cons (pv 6) (pa_cons (pv 4) pa_nil)))) pa_nil))) pa_nil))) pa_nil)))))
    (pss_cons (ps_expr (pe_bm PySem.F.plainAttrs_list PySem.F.slot_list_append PySem.F.type_list_append mt_append (pv 2) (pa_cons (pe_tup (pa_cons (pe_tup (pa_cons pe_str (pa_cons (pe_tup pa_nil) pa_nil))) (pa_cons (pe_g G__law_pick (hr.mono (by decide)) (pa_cons (pv 0) (pa_cons (pe_lst (pa_cons (pv 6) (pa_cons (pv 6) (pa_cons (pv 4) (pa_cons (pe_tup (pa_cons pe_str (pa_cons (pe_tup pa_nil) pa_nil))) pa_nil))))) pa_nil))) pa_nil))) pa_nil)))
    (pss_one (ps_ret (pe_disp (pps_cons pe_str (pe_disp (pps_cons pe_str pe_int (pps_cons pe_str pe_int (pps_cons pe_str pe_int (pps_cons pe_str pe_int pps_nil)))) (by rfl) (by rfl) (fun z => by cases z) (by decide)) (pps_cons pe_str (pv 2) pps_nil)) (by rfl) (by rfl) (fun z => by cases z) (by decide))))))))), ?_⟩
  try dsimp only [nox_K]
  refine rd_st (σ' := [some (.ref d), none, none, none, none, none, none]) rfl ?_
  walk_at "w"
  intro ya H1 ha
  walk_at "w"
  intro yb H2 hb
  walk_at "w"
  intro yu H3 hu
  walk_at "w"
  refine ⟨small (by simp), fun q0 hq0 => ?_⟩
  have s4 := same_new hq0 (.tup [V.ref ya, .ref yb, .ref yu])
  refine rd_gtup (sqT_of upd_same) rfl ?_
  have s34 := ha.1.trans (hb.1.trans (hu.1.trans s4))
  have pa := (ha.tp (K := K)).kp (kp_same (hb.1.trans (hu.1.trans s4)))
  have pb := (hb.tp (K := K)).kp (kp_same (hu.1.trans s4))
  have pu := (hu.tp (K := K)).kp (kp_same s4)
  generalize upd H3 q0 (.tup [V.ref ya, .ref yb, .ref yu]) = H4 at *
  walk_at "w"
  refine ⟨small (by simp), fun r1 hr1 => ?_⟩
  have t1 := same_new hr1 (.tup [V.ref ya, .ref yb, .ref yu])
  have g1 : upd H4 r1 (.tup [V.ref ya, .ref yb, .ref yu]) r1 = some (.tup [V.ref ya, .ref yb, .ref yu]) := upd_same
  generalize upd H4 r1 (.tup [V.ref ya, .ref yb, .ref yu]) = H5 at *
  walk_at "w"
  refine ⟨small (by simp), fun r2 hr2 => ?_⟩
  have t2 := same_new hr2 (.tup [V.ref yu, .ref ya, .ref yb])
  have g2 : upd H5 r2 (.tup [V.ref yu, .ref ya, .ref yb]) r2 = some (.tup [V.ref yu, .ref ya, .ref yb]) := upd_same
  generalize upd H5 r2 (.tup [V.ref yu, .ref ya, .ref yb]) = H6 at *
  walk_at "w"
  refine ⟨small (by simp), fun r3 hr3 => ?_⟩
  have t3 := same_new hr3 (.tup [V.ref yb, .ref yu, .ref ya])
  have g3 : upd H6 r3 (.tup [V.ref yb, .ref yu, .ref ya]) r3 = some (.tup [V.ref yb, .ref yu, .ref ya]) := upd_same
  generalize upd H6 r3 (.tup [V.ref yb, .ref yu, .ref ya]) = H7 at *
  have n12 : r1 ≠ r2 := ne_of_none g1 hr2
  have n13 : r1 ≠ r3 := ne_of_none (t2 _ _ g1) hr3
  have n23 : r2 ≠ r3 := ne_of_none g2 hr3
  walk_at "w"
  refine ⟨small (by simp), fun l hl => ?_⟩
  have t4 := same_new hl (.lst [V.ref r1, .ref r2, .ref r3])
  have g4 : upd H7 l (.lst [V.ref r1, .ref r2, .ref r3]) l = some (.lst [V.ref r1, .ref r2, .ref r3]) := upd_same
  have s07 : Same H H7 := s34.trans (t1.trans (t2.trans t3))
  have nld : l ≠ d := (hd.same s07).ne hl
  generalize upd H7 l (.lst [V.ref r1, .ref r2, .ref r3]) = H8 at *
  walk_at "w"
  refine ⟨small (by simp), fun pl hpl => ?_⟩
  have t5 := same_new hpl (.lst [])
  have g5 : upd H8 pl (.lst []) pl = some (.lst []) := upd_same
  have s08 : Same H H8 := s07.trans t4
  have hpl0 : H pl = none := s08.free hpl
  have npd : pl ≠ d := (hd.same s08).ne hpl
  have npl : l ≠ pl := ne_of_none g4 hpl
  generalize upd H8 pl (.lst []) = H9 at *
  have s09 : Same H H9 := s08.trans t5
  have hd9 := hd.same s09
  have k49 : Same H4 H9 := t1.trans (t2.trans (t3.trans (t4.trans t5)))
  walk_at "w"
  refine ⟨d, 2, rfl, hd9, by decide, by decide, fun r H10 f10 hd10 hr2' => ?_⟩
  walk_at "w"
  refine ⟨d, l, 2 + r, [V.ref r1, .ref r2, .ref r3], by rw [vI, Int.natCast_add]; rfl, hd10, f10 _ _ nld (t5 _ _ g4), by simp, fun q H11 ys zs f11 hd11 hq0 hq hperm hyl _ => ?_⟩
  refine rd_oneLst (SqL.of hq) ?_
  have nqd : q ≠ d := hd10.ne hq0
  have g5' : H10 pl = some (.lst []) := f10 _ _ npd g5
  have nqp : q ≠ pl := (ne_of_none g5' hq0).symm
  have hgp : ((ys ++ zs).map (gT r1 r2)).Perm [T1, T2, T3] := by
    have := hperm.map (gT r1 r2)
    rwa [show [V.ref r1, .ref r2, .ref r3].map (gT r1 r2) = [T1, T2, T3] by simp [gT, n12.symm, n13.symm, n23.symm]] at this
  have hgn : (ys.map (gT r1 r2)).Nodup := by
    have h1 : ((ys ++ zs).map (gT r1 r2)).Nodup := hgp.nodup_iff.mpr (gs_nod.sublist (by simp))
    rw [List.map_append] at h1
    exact h1.sublist (List.sublist_append_left _ _)
  have hgm : ∀ t ∈ ys.map (gT r1 r2), t ∈ [T1, T2, T3] := fun t ht => hgp.mem_iff.mp (by rw [List.map_append]; exact List.mem_append_left _ ht)
  have hyn : ys.length ≤ 3 := by omega
  have f911 : FrD d H9 H11 := f10.trans f11
  refine fo_it (walk_list (xs := ys)) (fun i σ H' => ∃ x3 R, σ = [some (.ref d), some (.ref l), some (.ref pl), x3, some (.ref ya), some (.ref yb), some (.ref yu)] ∧ Fr2 d pl H11 H' ∧ Dice H' d ∧ PrsAt K H' pl R ∧ R.map (·.1) = (ys.map (gT r1 r2)).take i ∧ ∀ r ∈ R, r.2 ∈ [lf "_", lf "a", T4]) ⟨none, [], rfl, fun _ _ _ _ h => h, hd11, ⟨[], f11 _ _ npd g5', .nil⟩, by simp, fun r hr => by cases hr⟩ (fun i σ H' _ ⟨_, _, _, f, _⟩ => SqL.of (f _ _ nqd nqp hq)) ?_ ?_
  · rintro i x σ H13 H12 hi ⟨x3, R, rfl, f12, hd12, hR, hRm, hRs⟩ ⟨rfl, hx⟩
    have hgx : (ys.map (gT r1 r2))[i]? = some (gT r1 r2 x) := by rw [List.getElem?_map, hx]; rfl
    have hpl11 : H11 pl = some (.lst []) := f11 _ _ npd g5'
    have k11 : Kp H9 H12 := (f911.kpD hd9).trans (f12.kp hd11 hpl11)
    have k12 : Kp H4 H12 := (kp_same k49).trans k11
    have hxm : x ∈ [V.ref r1, .ref r2, .ref r3] := hperm.mem_iff.mp (List.mem_append_left _ (List.mem_of_getElem? hx))
    have hrow : ∃ a xs ts, x = .ref a ∧ SqT K H12 a xs ∧ Tps K H12 xs (ts.map tmD) ∧ gT r1 r2 x = .mk "f" ts := by
      have pa2 := pa.kp k12
      have pb2 := pb.kp k12
      have pu2 := pu.kp k12
      simp only [List.mem_cons, List.not_mem_nil, or_false] at hxm
      rcases hxm with rfl | rfl | rfl
      · exact ⟨r1, _, [lf "a", lf "b", lf "_"], rfl, sqT_kp k11 (sqT_of ((t2.trans (t3.trans (t4.trans t5))) _ _ g1)), .cons pa2 (.cons pb2 (.cons pu2 .nil)), by simp [gT, T1]⟩
      · exact ⟨r2, _, [lf "_", lf "a", lf "b"], rfl, sqT_kp k11 (sqT_of ((t3.trans (t4.trans t5)) _ _ g2)), .cons pu2 (.cons pa2 (.cons pb2 .nil)), by simp [gT, T2, n12.symm]⟩
      · exact ⟨r3, _, [lf "b", lf "_", lf "a"], rfl, sqT_kp k11 (sqT_of ((t4.trans t5) _ _ g3)), .cons pb2 (.cons pu2 (.cons pa2 .nil)), by simp [gT, T3, n13.symm, n23.symm]⟩
    obtain ⟨xa, xxs, ts, rfl, hxa, hxxs, hgt⟩ := hrow
    walk_at "w"
    refine ⟨tyV_l (SqL.of hR.at_.choose_spec.1), ?_⟩
    walk_at "w"
    refine ⟨small (by simp), fun e he => ?_⟩
    have se := same_new he (.tup [V.str "f", .ref xa])
    have ge : Tp K (upd H12 e (.tup [V.str "f", .ref xa])) (.ref e) (tmD (gT r1 r2 (.ref xa))) := by
      rw [hgt]; exact tp_tm (sqT_of upd_same) (sqT_kp (kp_same se) hxa) (hxxs.kp (kp_same se))
    generalize upd H12 e (.tup [V.str "f", .ref xa]) = H13 at *
    walk_at "w"
    refine ⟨small (by simp), fun l5 hl5 => ?_⟩
    have sl := same_new hl5 (.lst [V.ref yu, .ref yu, .ref ya])
    have gl : upd H13 l5 (.lst [V.ref yu, .ref yu, .ref ya]) l5 = some (.lst [V.ref yu, .ref yu, .ref ya]) := upd_same
    have nl5 : l5 ≠ d := (hd12.same se).ne hl5
    generalize upd H13 l5 (.lst [V.ref yu, .ref yu, .ref ya]) = H14 at *
    have hd14 := (hd12.same se).same sl
    walk_at "w"
    refine ⟨d, l5, _, rfl, hd14, gl, nl5, by simp, by simp, fun r5 x5 H15 f15 hd15 hx5 => ?_⟩
    have k15 : Kp H14 H15 := f15.kpD hd14
    have k4 : Kp H4 H15 := (k12.trans (kp_same (se.trans sl))).trans k15
    have hz : ∃ z, z ∈ [lf "_", lf "a", T4] ∧ Tp K H15 x5 (tmD z) := by
      match r5, hx5 with
      | 0, hx => cases hx; exact ⟨_, List.mem_cons_self, pu.kp k4⟩
      | 1, hx => cases hx; exact ⟨_, List.mem_cons_self, pu.kp k4⟩
      | 2, hx => cases hx; exact ⟨_, List.mem_cons_of_mem _ List.mem_cons_self, pa.kp k4⟩
      | r + 3, hx => cases hx
    obtain ⟨z, hz, hx5⟩ := hz
    walk_at "w"
    refine ⟨small (by simp), fun y hy => ?_⟩
    have sy := same_new hy (.tup [V.ref e, x5])
    have gy : upd H15 y (.tup [V.ref e, x5]) y = some (.tup [V.ref e, x5]) := upd_same
    generalize upd H15 y (.tup [V.ref e, x5]) = H16 at *
    have hRv := hR.at_
    obtain ⟨vs, hv, _⟩ := hRv
    have hv16 : H16 pl = some (.lst vs) := sy _ _ (f15 _ _ npd (sl _ _ (se _ _ hv)))
    have F16 : Fr2 d pl H12 H16 := (Fr2.same (se.trans sl)).trans ((Fr2.of f15).trans (.same sy))
    have h2 := hR.push hd12 F16 (hv16.trans hv.symm) (sqT_of gy) ((ge.kp (kp_same sl)).kp k15 |>.kp (kp_same sy)) (hx5.kp (kp_same sy))
    obtain ⟨vs', hv', hvl, hpush⟩ := h2
    have hRl : R.length ≤ 3 := by
      have := congrArg List.length hRm
      rw [List.length_map, List.length_take, List.length_map] at this
      omega
    walk_at "w"
    refine rd_append hv' (small (by omega)) ?_
    walk_at "w"
    refine ⟨_, R ++ [(gT r1 r2 (.ref xa), z)], rfl, f12.trans (F16.trans .put), ?_, hpush, ?_, fun r hr => ?_⟩
    · obtain ⟨g, b, c, hh⟩ := hd15.same sy
      exact ⟨g, b, c, by rw [upd_ne npd.symm]; exact hh⟩
    · rw [List.map_append, hRm, take_succ_get hgx]; rfl
    · rcases List.mem_append.mp hr with hr | hr
      · exact hRs r hr
      · rw [List.mem_singleton.mp hr]; exact hz
  · rintro σ H12 ⟨x3, R, rfl, f12, hd12, hR, hRm, hRs⟩
    walk_at "w"
    refine ⟨tyV_l (SqL.of hR.at_.choose_spec.1), ?_⟩
    walk_at "w"
    intro e H13 le
    have se := le.1
    walk_at "w"
    intro e2 H14' le2
    have pl11 : H11 pl = some (.lst []) := f11 _ _ npd g5'
    have k4 : Kp H4 H12 := ((kp_same k49).trans (f911.kpD hd9)).trans (f12.kp hd11 pl11)
    walk_at "w"
    refine ⟨small (by simp), fun l5 hl5 => ?_⟩
    have se2 := se.trans le2.1
    have sl := same_new hl5 (.lst [V.ref yu, .ref yu, .ref ya, .ref e2])
    have gl : upd H14' l5 (.lst [V.ref yu, .ref yu, .ref ya, .ref e2]) l5 = some (.lst [V.ref yu, .ref yu, .ref ya, .ref e2]) := upd_same
    have nl5 : l5 ≠ d := (hd12.same se2).ne hl5
    generalize upd H14' l5 (.lst [V.ref yu, .ref yu, .ref ya, .ref e2]) = H14 at *
    have hd14 := (hd12.same se2).same sl
    walk_at "w"
    refine ⟨d, l5, _, rfl, hd14, gl, nl5, by simp, by simp, fun r5 x5 H15 f15 hd15 hx5 => ?_⟩
    have k15 : Kp H14 H15 := f15.kpD hd14
    have k4 : Kp H4 H15 := (k4.trans (kp_same (se2.trans sl))).trans k15
    have hz : ∃ z, z ∈ [lf "_", lf "a", T4] ∧ Tp K H15 x5 (tmD z) := by
      match r5, hx5 with
      | 0, hx => cases hx; exact ⟨_, List.mem_cons_self, pu.kp k4⟩
      | 1, hx => cases hx; exact ⟨_, List.mem_cons_self, pu.kp k4⟩
      | 2, hx => cases hx; exact ⟨_, List.mem_cons_of_mem _ List.mem_cons_self, pa.kp k4⟩
      | 3, hx => cases hx; exact ⟨_, List.mem_cons_of_mem _ (List.mem_cons_of_mem _ List.mem_cons_self), (le2.tp.kp (kp_same sl)).kp k15⟩
      | r + 4, hx => cases hx
    obtain ⟨z, hz, hx5⟩ := hz
    have ge : Tp K H15 (.ref e) (tmD T4) := (le.tp.kp (kp_same (le2.1.trans sl))).kp k15
    walk_at "w"
    refine ⟨small (by simp), fun y hy => ?_⟩
    have sy := same_new hy (.tup [V.ref e, x5])
    have gy : upd H15 y (.tup [V.ref e, x5]) y = some (.tup [V.ref e, x5]) := upd_same
    generalize upd H15 y (.tup [V.ref e, x5]) = H16 at *
    have hRv := hR.at_
    obtain ⟨vs, hv, _⟩ := hRv
    have hv16 : H16 pl = some (.lst vs) := sy _ _ (f15 _ _ npd (sl _ _ (se2 _ _ hv)))
    have F16 : Fr2 d pl H12 H16 := (Fr2.same (se2.trans sl)).trans ((Fr2.of f15).trans (.same sy))
    have h2 := hR.push hd12 F16 (hv16.trans hv.symm) (sqT_of gy) (ge.kp (kp_same sy)) (hx5.kp (kp_same sy))
    obtain ⟨vs', hv', hvl, hpush⟩ := h2
    have hRl : R.length ≤ 3 := by
      have := congrArg List.length hRm
      rw [List.length_map, List.length_take, List.length_map] at this
      omega
    walk_at "w"
    refine rd_append hv' (small (by omega)) ?_
    have FA : Fr2 d pl H9 (upd H16 pl (.lst (vs' ++ [.ref y]))) := (Fr2.of f911).trans (f12.trans (F16.trans .put))
    have hdA : Dice (upd H16 pl (.lst (vs' ++ [.ref y]))) d := by
      obtain ⟨g, b, c, hh⟩ := hd15.same sy
      exact ⟨g, b, c, by rw [upd_ne npd.symm]; exact hh⟩
    generalize upd H16 pl (.lst (vs' ++ [.ref y])) = H17 at *
    walk_at "w"
    intro p1 hp1
    walk_at "w"
    have sp1 := same_new hp1 (.dK [])
    have gp1 : upd H17 p1 (.dK []) p1 = some (.dK []) := upd_same
    generalize upd H17 p1 (.dK []) = H18 at *
    intro p2 hp2
    walk_at "w"
    refine ⟨upd_same, GS.map kvN, rfl, by decide, ?_⟩
    rw [upd_upd, merge_nil (by decide +kernel)]
    have sp2 := same_new hp2 (.dK (GS.map kvN))
    have gp2 : upd H18 p2 (.dK (GS.map kvN)) p2 = some (.dK (GS.map kvN)) := upd_same
    generalize upd H18 p2 (.dK (GS.map kvN)) = H19 at *
    walk_at "w"
    refine ⟨sp2 _ _ gp1, [(.inr "symbols", .ref p2), (.inr "rules", .ref pl)], rfl, by simp, ?_⟩
    rw [show mergeK [] [((.inr "symbols", .ref p2) : Key × V), (.inr "rules", .ref pl)] = [(.inr "symbols", .ref p2), (.inr "rules", .ref pl)] from rfl]
    obtain ⟨vsF, hvF, htF⟩ := hpush.at_
    have nF : p1 ≠ pl := (ne_of_none hvF hp1).symm
    have n2 : p1 ≠ p2 := ne_of_none gp1 hp2
    have s19 : Same H17 (upd H19 p1 (.dK [(.inr "symbols", .ref p2), (.inr "rules", .ref pl)])) := fun a o q => by
      rw [upd_ne (ne_of_none q hp1)]; exact sp2 _ _ (sp1 _ _ q)
    refine k p1 _ GS (R ++ [(T4, z)]) (fun a o na q => ?_) (hdA.same s19) ⟨p2, pl, vsF, upd_same, ?_, s19 _ _ hvF, htF.kp (kp_same s19)⟩ ⟨gs_mem, ?_, fun r hr => ?_, ?_⟩
    · exact s19 _ _ (FA _ _ na (ne_of_none q hpl0) (s09 _ _ q))
    · rw [upd_ne n2.symm]; exact gp2
    · rw [List.length_append]; simp only [List.length_cons, List.length_nil]; omega
    · rcases List.mem_append.mp hr with hr | hr
      · refine gs_rule ?_ (hRs r hr)
        have : r.1 ∈ (ys.map (gT r1 r2)).take ys.length := by rw [← hRm]; exact List.mem_map.mpr ⟨r, hr, rfl⟩
        have := hgm _ (List.mem_of_mem_take this)
        simp only [List.mem_cons, List.not_mem_nil, or_false] at this ⊢
        rcases this with h | h | h <;> simp [h]
      · rw [List.mem_singleton.mp hr]; exact gs_rule (by simp) hz
    · rw [List.map_append, hRm, List.take_of_length_le (by rw [List.length_map]; omega)]
      refine List.nodup_append.mpr ⟨hgn, by simp, fun a ha b hb e => ?_⟩
      rw [List.map_singleton, List.mem_singleton] at hb
      have h1 := hgm a ha
      have h2 := gs_nod
      rw [e, hb] at h1
      rw [show [T1, T2, T3, T4] = [T1, T2, T3] ++ [T4] from rfl, List.nodup_append] at h2
      exact h2.2.2 T4 h1 T4 (by simp) rfl
end
end FN
set_option maxHeartbeats 4000000
namespace FN
open PySem PySem.Spec PyProof.Rows L2
local macro_rules | `(tactic| walk_at "w") => `(tactic| repeat (with_reducible first
  | refine rd_seq ?_
  | refine rd_asg ?_
  | refine rd_name ?_
  | refine rd_ret ?_
  | refine rd_drop ?_
  | refine rd_if ?_
  | refine rd_next ?_
  | refine rd_var (by k_dflt rfl) ?_
  | refine rd_c ?_
  | refine rd_op ?_
  | refine rd_un ?_
  | refine rd_test ?_
  | refine rd_B ?_
  | refine rd_I0 ?_
  | refine rd_U ?_
  | refine rd_eqI ?_
  | refine rd_neI ?_
  | refine rd_eqS ?_
  | refine rd_neS ?_
  | refine rd_and ?_
  | refine rd_or ?_
  | refine rd_not ?_
  | refine rd_andV ?_
  | refine rd_orV ?_
  | refine rd_notV ?_
  | refine rd_ife ?_
  | refine rd_chain ?_
  | refine rd_exb ?_
  | refine rd_exi ?_
  | refine rd_nil ?_
  | refine rd_cons ?_
  | refine rd_CB ?_
  | refine rd_G ?_
  | refine rd_fld ?_
  | refine rd_sl ?_
  | refine rd_part ?_
  | refine rd_noPart ?_
  | refine rd_leaf ?_
  | refine rd_tup ?_
  | refine rd_lst ?_
  | refine rd_star ?_
  | refine rd_bm ?_
  | refine rd_bm0 ?_
  | refine rd_gsub ?_
  | refine rd_rev ?_
  | refine rd_gnil ?_
  | refine rd_gcons ?_
  | refine rd_yes ?_
  | refine rd_abs ?_
  | refine rd_max2 ?_
  | refine rd_min2 ?_
  | refine rd_int1 ?_
  | refine rd_int1b ?_
  | refine rd_inSign ?_
  | refine rd_niSign ?_
  | refine rd_isN ?_
  | refine rd_ntN ?_
  | refine rd_dcLst ?_
  | refine rd_dcTup ?_
  | refine rd_dcItems ?_
  | refine rd_lcTup ?_
  | refine rd_lcLst ?_
  | refine rd_lcStr ?_
  | refine rd_lcR1 ?_
  | refine rd_lcR2 ?_
  | refine rd_lcKeys ?_
  | refine rd_lcVals ?_
  | refine rd_lcItems ?_
  | refine rd_lcZip ?_
  | refine rd_forTup ?_
  | refine rd_forLst ?_
  | refine rd_forR1 ?_
  | refine rd_forR2 ?_
  | refine rd_forR3 ?_
  | refine rd_forZip ?_
  | refine rd_forItems ?_
  | refine rd_lcEnumT ?_
  | refine rd_forEnumT ?_
  | refine rd_oneStr ?_
  | refine rd_mkR ?_
  | refine rd_mk0 ?_
  | refine rd_mR ?_
  | refine rd_mN ?_
  | refine rd_pr ?_
  | refine rd_cmR ?_
  | refine rd_makeC ?_
  | refine rd_tM1 ?_
  | refine rd_fmtT ?_
  | refine ⟨rd_exs, ?_⟩
  | refine rd_listZip ?_
  | refine rd_lenSetS ?_
  | refine rd_sfld ?_
  | refine rd_jc ?_
  | refine rd_jn ?_
  | refine rd_par ?_
  | refine rd_par3 ?_
  | refine rd_dupd ?_
  | refine rd_disp ?_
  | refine rd_pc ?_
  | refine rd_pn ?_
  | refine rd_dni ?_
  | refine rd_dget ?_
  | refine rd_dget2 ?_
  | refine rd_dput ?_
  | refine rd_T ?_
  | refine rd_F ?_
  | refine rd_nT ?_
  | refine rd_nF ?_))
section
variable {P : Program} {w : World} {K : PySem.W.Frag} {mg : Str → Option Value} {base : Heap} {C : Ad}
theorem tps_get {α : Type} {H : Hp} {f : α → PyData} : ∀ {acc : List V} {R : List α}, acc.length = R.length → (∀ (i : Nat) y, acc[i]? = some y → ∃ r, R[i]? = some r ∧ Tp K H y (f r)) → Tps K H acc (R.map f)
  | [], [], _, _ => .nil
  | y :: acc, r :: R, h, k => by
    obtain ⟨r', h1, h2⟩ := k 0 y rfl
    cases h1
    exact .cons h2 (tps_get (by simpa using h) fun i z hz => k (i + 1) z hz)
  | [], _ :: _, h, _ => by simp at h
  | _ :: _, [], h, _ => by simp at h
theorem Dice.fr2 {d p : Addr} {H : Hp} {o : HO} (h : Dice H d) (n : d ≠ p) : Dice (upd H p o) d := by
  obtain ⟨g, b, c, hh⟩ := h
  exact ⟨g, b, c, by rw [upd_ne n]; exact hh⟩
theorem Sy.fr2 {H H' : Hp} {sd d p : Addr} {S : List Nd} (h : Sy H sd S) (hd : Dice H d) (n : sd ≠ p) (f : Fr2 d p H H') : Sy H' sd S := ⟨f _ _ (h.ne hd) n h.at_, h.sg⟩
theorem sets_hd : ∀ S ∈ SETS, ∀ n ∈ S, n.1 ∉ [("a" : Str), ("b" : Str)] → n ∈ HDS := by decide +kernel
theorem sets_ne : ∀ S ∈ SETS, ∃ n ∈ S, n.1 ∉ [("a" : Str), ("b" : Str)] := by decide +kernel
theorem eqv_any (l : List Tm) (t : Tm) : ((tmDL l).any fun z => PyData.eqv z (tmD t)) = true ↔ t ∈ l := by
  rw [List.any_eq_true, tmDL_map]
  constructor
  · rintro ⟨z, hz, e⟩
    obtain ⟨u, hu, rfl⟩ := List.mem_map.mp hz
    rw [← (eqv_tm u t).mp e]; exact hu
  · exact fun h => ⟨_, List.mem_map.mpr ⟨t, h, rfl⟩, (eqv_tm t t).mpr rfl⟩
theorem shaped_tms {l : List Tm} (h : ∀ t ∈ l, Wok (nodes t)) (d : ∀ t ∈ l, dep t ≤ 20) : SeqAt.shaped (.list (tmDL l)) = true := by
  refine shaped_of ?_ ?_
  · simp only [PyData.canLay0]
    refine tm_canL l fun n hn => ?_
    have h9 : ∀ (us : List Tm), (∀ u ∈ us, Wok (nodes u)) → ∀ m ∈ nodesL us, PyData.strOk m.1 = true := by
      intro us
      induction us with
      | nil => intro _ m hm; rw [nodesL] at hm; cases hm
      | cons u r ih =>
        intro hu m hm
        rw [nodesL] at hm
        rcases List.mem_append.mp hm with hm | hm
        · exact hu u List.mem_cons_self m hm
        · exact ih (fun q hq => hu q (List.mem_cons_of_mem _ hq)) m hm
    exact h9 l h n hn
  · simp only [PyData.depth]
    have h1 := tm_depthL l
    have h2 : depL l ≤ 20 := by
      have h9 : ∀ (us : List Tm), (∀ u ∈ us, dep u ≤ 20) → depL us ≤ 20 := by
        intro us
        induction us with
        | nil => intro _; rw [depL]; omega
        | cons u r ih =>
          intro hu
          have := hu u List.mem_cons_self
          have := ih (fun q hq => hu q (List.mem_cons_of_mem _ hq))
          rw [depL]; omega
      exact h9 l d
    omega
theorem ok_law_book (T : Ty K mg C) : Gf P w K mg base "_law_book" 43 (sp_law_book K) := by
  have G__law_roll := ok_law_roll (P := P) (w := w) (base := base) T
  have G__law_pick := ok_law_pick (P := P) (w := w) (base := base) T
  have G__law_gustave := ok_law_gustave (P := P) (w := w) (base := base) T
  have G__law_symbols := ok_law_symbols (P := P) (w := w) (base := base) T
  have G__law_argument := ok_law_argument (P := P) (w := w) (base := base) T
  have G__law_sketch := ok_law_sketch (P := P) (w := w) (base := base) T
  refine T.d__law_book.ok sc__law_book (fun vs H Q E h => ?_) (fun f cdv A outer s H vs Q E hr h => ?_)
  · obtain ⟨d, rfl, _⟩ := h
    rfl
  obtain ⟨d, rfl, hd, k⟩ := h
  refine ⟨_, (pss_cons (ps_if (pt_cmpR op_eq (pe_g G__law_roll (hr.mono (by decide)) (pa_cons (pv 0) (pa_cons pe_int pa_nil))) pe_int (nomark _)) (pss_one (ps_ret (pe_g G__law_gustave (hr.mono (by decide)) (pa_cons (pv 0) pa_nil)))) pss_nil)
    (pss_cons (ps_asg (pe_tup (pa_cons (pe_g G__law_symbols (hr.mono (by decide)) (pa_cons (pv 0) pa_nil)) (pa_cons (pe_lst pa_nil) pa_nil))) (pg_tup (n := 2) rfl (pgs_cons (pg_name (i := 3) sc__law_book.nd rfl (Or.inr rfl)) (pgs_cons (pg_name (i := 4) sc__law_book.nd rfl (Or.inl rfl)) pgs_nil))))
    (pss_cons (ps_setLc (i := 1) (own := [("_law_word", 7)]) rfl sc__law_book.nd rfl rfl (sw_true rfl rfl rfl (by decide +kernel)) (pi_list (pe_callB (c_sortD rfl) rfl T.f_sorted (by decide +kernel) (pa_cons (pv 3) pa_nil))) (blkOk_by (own := [("_law_word", 7)]) (N := ["_law_dice_here", "_law_heads", "_law_turn", "_law_symbols_here", "_law_pairs_here", "_law_head", "_law_pattern", "_law_word", "_law_rule", "_law_at"]) (sc := defScope s__law_book) (by decide +kernel)) (fun _ _ _ _ _ => (pg_name (i := 7) sc__law_book.nd rfl (Or.inl rfl))) (fun _ _ _ _ _ => (pts_one (pt_cmpR (ni_k (K := K) rfl) (pv 7) (pe_lst (pa_cons pe_str (pa_cons pe_str pa_nil))) (by rfl)))) (fun _ _ _ _ _ => (pv 7)))
    (pss_cons (ps_for PassesOwn.never rfl (pi_range1 rfl T.f_range (pa_cons (pe_op op_add pe_int (pe_g G__law_roll (hr.mono (by decide)) (pa_cons (pv 0) (pa_cons pe_int pa_nil)))) pa_nil)) (pg_name (i := 2) sc__law_book.nd rfl (Or.inl rfl)) (pss_cons (ps_set (i := 5) sc__law_book.nd rfl (Or.inl rfl) (pe_g G__law_pick (hr.mono (by decide)) (pa_cons (pv 0) (pa_cons (pv 1) pa_nil))))
      (pss_cons (ps_set (i := 6) sc__law_book.nd rfl (Or.inl rfl) (pe_tup (pa_cons (pv 5) (pa_cons (pe_callTy c_tupS rfl T.f_tuple (by decide +kernel) (pa_cons (pe_lc (own := [("_law_at", 9)]) rfl sc__law_book.nd (pi_range1 rfl T.f_range (pa_cons (pe_dget (hu1 hr) (pv 3) (pv 5) (fun _ _ => rfl)) pa_nil)) (blkOk_by (own := [("_law_at", 9)]) (N := ["_law_dice_here", "_law_heads", "_law_turn", "_law_symbols_here", "_law_pairs_here", "_law_head", "_law_pattern", "_law_word", "_law_rule", "_law_at"]) (sc := defScope s__law_book) (by decide +kernel)) (fun _ _ _ _ _ => (pg_name (i := 9) sc__law_book.nd rfl (Or.inl rfl))) (fun _ _ _ _ _ => pts_nil) (fun _ _ _ _ _ => (pe_g G__law_argument (hr.mono (by decide)) (pa_cons (pv 0) (pa_cons (pv 3) pa_nil))))) pa_nil)) pa_nil))))
      (pss_one (ps_if (pt_cmpR (op_notInD (hu65 hr)) (pv 6) (pe_lc (own := [("_law_rule", 8)]) rfl sc__law_book.nd (pi_list (pv 4)) (blkOk_by (own := [("_law_rule", 8)]) (N := ["_law_dice_here", "_law_heads", "_law_turn", "_law_symbols_here", "_law_pairs_here", "_law_head", "_law_pattern", "_law_word", "_law_rule", "_law_at"]) (sc := defScope s__law_book) (by decide +kernel)) (fun _ _ _ _ _ => (pg_name (i := 8) sc__law_book.nd rfl (Or.inl rfl))) (fun _ _ _ _ _ => pts_nil) (fun _ _ _ _ _ => (pe_ix (ixT_k (K := K) rfl) (pv 8) pe_int (fun _ _ => rfl)))) (by rfl)) (pss_one (ps_expr (pe_bm PySem.F.plainAttrs_list PySem.F.slot_list_append PySem.F.type_list_append mt_append (pv 4) (pa_cons (pe_tup (pa_cons (pv 6) (pa_cons (pe_g G__law_sketch (hr.mono (by decide)) (pa_cons (pv 0) (pa_cons (pv 3) pa_nil))) pa_nil))) pa_nil)))) pss_nil)))))
    (pss_one (ps_ret (pe_disp (pps_cons pe_str (pv 3) (pps_cons pe_str (pv 4) pps_nil)) (by rfl) (by rfl) (fun z => by cases z) (by decide)))))))), ?_⟩
  try dsimp only [nox_K]
  refine rd_st (σ' := [some (.ref d), none, none, none, none, none, none, none, none, none]) rfl ?_
  walk_at "w"
  refine ⟨d, 8, rfl, hd, by decide, by decide, fun r0 H1 f1 hd1 _ => ?_⟩
  walk_at "w"
  by_cases h0 : ((r0 : Nat) : Int) = 0
  · refine rd_dT h0 ?_
    walk_at "w"
    exact ⟨d, rfl, hd1, fun b H' S R f hd' hb hR => k b H' S R (f1.trans f) hd' hb hR⟩
  refine rd_dF h0 ?_
  walk_at "w"
  refine ⟨d, rfl, hd1, fun sd H2 S f2 hd' hsd hsy hS => ?_⟩
  walk_at "w"
  refine ⟨small (by simp), fun pl hpl => ?_⟩
  have t1 := same_new hpl (.lst [])
  have g1 : upd H2 pl (.lst []) pl = some (.lst []) := upd_same
  have f12 := f1.trans f2
  have npd : pl ≠ d := hd'.ne hpl
  generalize upd H2 pl (.lst []) = H3 at *
  walk_at "w"
  refine ⟨small (by simp), fun q0 hq0 => ?_⟩
  have t2 := same_new hq0 (.tup [V.ref sd, .ref pl])
  refine rd_gtup (sqT_of upd_same) rfl ?_
  generalize upd H3 q0 (.tup [V.ref sd, .ref pl]) = H4 at *
  have hpl0 : H pl = none := f12.free npd hpl
  have hsy4 := hsy.same (t1.trans t2)
  have hd4 := hd'.same (t1.trans t2)
  have g4 := t2 _ _ g1
  have nsp : sd ≠ pl := ne_of_none hsy.at_ hpl
  have f4 : FrD d H H4 := f12.trans (FrD.of (t1.trans t2))
  have hSl := hsy.sg.len
  walk_at "w"
  refine rd_sortD hsy4.at_ (by omega) fun ys q hys _ hq => ?_
  have sq := same_new hq (.lst (ys.map V.str))
  have gq : upd H4 q (.lst (ys.map V.str)) q = some (.lst (ys.map V.str)) := upd_same
  generalize upd H4 q (.lst (ys.map V.str)) = H5 at *
  have hyl : ys.length = S.length := by rw [hys.length_eq, List.length_map]
  refine rd_oneLst (SqL.of gq) fun D hD => ?_
  refine lc_same (walk_list (xs := ys.map V.str)) (fun i acc _ => acc = ((ys.take i).filter fun z => decide (z ∉ [("a" : Str), ("b" : Str)])).map V.str) (by rw [List.length_map]; omega) hD (fun _ _ _ _ h _ => h) rfl (fun H' s => SqL.of (s _ _ gq)) ?_ ?_
  · rintro i acc x H7 H6 hi hl s6 hD' rfl ⟨rfl, hx1⟩
    rw [List.length_map] at hi
    have hni : ys[i]? = some ys[i] := List.getElem?_eq_getElem hi
    rw [List.getElem?_map, hni] at hx1
    have hxe : x = .str ys[i] := by simpa using hx1.symm
    subst hxe
    have htk := take_succ_get hni
    generalize ys[i] = z at *
    walk_at "w"
    refine ⟨rfl, ?_⟩
    walk_at "w"
    refine ⟨small (by simp), fun l3 hl3 => ?_⟩
    have s3 := same_new hl3 (.lst [V.str "a", .str "b"])
    walk_at "w"
    refine rd_niS (zs := ["a", "b"]) (.inl (SqL.of upd_same)) ?_
    refine ⟨_, rfl, ?_⟩
    by_cases hz : z ∈ [("a" : Str), ("b" : Str)]
    · rw [decide_eq_true hz]
      refine lc_skip (R := fun i acc _ => acc = ((ys.take i).filter fun z => decide (z ∉ [("a" : Str), ("b" : Str)])).map V.str) hl hD' s6 s3 ?_
      rw [htk, List.filter_append, filt_no (p := fun z : Str => decide (z ∉ [("a" : Str), ("b" : Str)])) (decide_eq_false fun h => h hz), List.append_nil]
    · rw [decide_eq_false hz]
      rw [if_pos (show (!false) = true from rfl)]
      walk_at "w"
      refine lc_elt (R := fun i acc _ => acc = ((ys.take i).filter fun z => decide (z ∉ [("a" : Str), ("b" : Str)])).map V.str) (by omega) hl hD' hD s6 s3 (fun _ _ _ _ h _ => h) ?_
      rw [htk, List.filter_append, filt_yes (p := fun z : Str => decide (z ∉ [("a" : Str), ("b" : Str)])) (decide_eq_true hz), List.map_append]; rfl
  rintro acc H6 s6 hD6 hl6 rfl
  rw [List.length_map, List.take_length] at hD6
  have hB : ∀ z ∈ ys.filter (fun z => decide (z ∉ [("a" : Str), ("b" : Str)])), ∃ n ∈ S, n.1 = z ∧ n ∈ HDS := fun z hz => by
    obtain ⟨h1, h2⟩ := List.mem_filter.mp hz
    obtain ⟨n, hn, rfl⟩ := List.mem_map.mp (hys.subset h1)
    exact ⟨n, hn, rfl, sets_hd S hS n hn (of_decide_eq_true h2)⟩
  have hBl : 0 < (ys.filter (fun z => decide (z ∉ [("a" : Str), ("b" : Str)]))).length := by
    obtain ⟨n, hn, hn2⟩ := sets_ne S hS
    exact List.length_pos_of_mem (List.mem_filter.mpr ⟨hys.mem_iff.mpr (List.mem_map.mpr ⟨n, hn, rfl⟩), decide_eq_true hn2⟩)
  have hBu : (ys.filter (fun z => decide (z ∉ [("a" : Str), ("b" : Str)]))).length ≤ 8 := Nat.le_trans (List.length_filter_le _ _) (by omega)
  generalize ys.filter (fun z => decide (z ∉ [("a" : Str), ("b" : Str)])) = B at *
  have s46 := sq.trans s6
  have nDd : D ≠ d := (hd4.same sq).ne hD
  have nDp : D ≠ pl := (ne_of_none (sq _ _ g4) hD).symm
  have hd6 := hd4.same s46
  have hsy6 := hsy4.same s46
  have g6 := s46 _ _ g4
  have f6 : FrD d H H6 := f4.trans (FrD.of s46)
  walk_at "w"
  refine ⟨d, 5, rfl, hd6, by decide, by decide, fun r5 H7 f7 hd7 hr5 => ?_⟩
  walk_at "w"
  refine ⟨_, rfl, by omega, by omega, ?_⟩
  rw [show ((1 : Int) + (r5 : Nat)).toNat = r5 + 1 by omega]
  have hsy7 := hsy6.fr hd6 f7
  have g7 := f7 _ _ npd g6
  have hD7 := f7 _ _ nDd hD6
  have f07 := f6.trans f7
  refine fo_it walk_range (fun i σ H' => ∃ x2 x5 x6 R, σ = [some (.ref d), some (.ref D), x2, some (.ref sd), some (.ref pl), x5, x6, none, none, none] ∧ Fr2 d pl H7 H' ∧ Dice H' d ∧ PrsAt K H' pl R ∧ R.length ≤ i ∧ (R.map (·.1)).Nodup ∧ ∀ r ∈ R, LRule S r) ⟨none, none, none, [], rfl, fun _ _ _ _ h => h, hd7, ⟨[], g7, .nil⟩, by simp, by simp, fun r hr => by cases hr⟩ (fun _ _ _ _ _ => trivial) ?_ ?_
  · rintro i x σ H9 H8 hi ⟨x2, x5, x6, R, rfl, f8, hd8, hR, hRl, hRn, hRk⟩ ⟨rfl, rfl⟩
    walk_at "w"
    refine ⟨d, D, _, rfl, hd8, f8 _ _ nDd nDp hD7, nDd, by rw [List.length_map]; exact hBl, by rw [List.length_map]; omega, fun r x H10 f10 hd10 hx => ?_⟩
    rw [List.getElem?_map] at hx
    obtain ⟨n0, hn0, hnH, rfl⟩ : ∃ n0 ∈ S, n0 ∈ HDS ∧ x = vW n0 := by
      cases q : B[r]? with
      | none => rw [q] at hx; cases hx
      | some z =>
        rw [q] at hx
        obtain ⟨n, h1, h2, h3⟩ := hB z (List.mem_of_getElem? q)
        exact ⟨n, h1, h3, by rw [vW, h2]; simpa using hx.symm⟩
    have hsy8 := hsy7.fr2 hd7 nsp f8
    have hsy10 := hsy8.fr hd8 f10
    obtain ⟨c0, hc0, _, ha3⟩ := hsy.sg.row n0 hn0
    walk_at "w"
    refine ⟨sd, _, rfl, hsy10.get hn0, ?_⟩
    walk_at "w"
    refine ⟨_, rfl, by omega, by omega, fun D5 hD5 => ?_⟩
    rw [show ((n0.2 : Nat) : Int).toNat = n0.2 by omega]
    have hD5d := hd10.ne hD5
    obtain ⟨vs8, hv8, ht8⟩ := hR.at_
    have hv10 := f10 _ _ npd hv8
    refine lc_gen walk_range (fun i acc H' => FrD d H10 H' ∧ Dice H' d ∧ ∃ us : List Tm, us.length = i ∧ acc.length = i ∧ Tps K H' acc (us.map tmD) ∧ ∀ u ∈ us, u ∈ AR ∧ TmG S ["_"] u) (by omega) ?_ (fun _ _ _ _ => trivial) ?_ ?_
    · exact ⟨FrD.of (same_new hD5 _), hd10.same (same_new hD5 _), [], rfl, rfl, .nil, fun u hu => by cases hu⟩
    · rintro i acc x H12 H11 hi hal hD' ⟨fr, hd11, us, hul, hacl, hacc, hus⟩ ⟨rfl, rfl⟩
      walk_at "w"
      refine ⟨rfl, ?_⟩
      walk_at "w"
      refine ⟨d, sd, S, rfl, hd11, hsy10.fr hd10 fr, hS, fun y H13 t f13 hd13 hy htA htg => ?_⟩
      have hD13 := f13 _ _ hD5d hD'
      refine ⟨acc, hD13, smallL (by omega), acc ++ [y], upd_same, by rw [List.length_append]; simp; omega, ?_, hd13.fr2 hD5d.symm, us ++ [t], by rw [List.length_append, hul]; rfl, by rw [List.length_append, hacl]; rfl, ?_, ?_⟩
      · exact fun a o na e => by rw [upd_ne (ne_of_none e hD5)]; exact (fr.trans f13) a o na e
      · rw [List.map_append]
        exact ((hacc.kp (f13.kpD hd11)).app (.cons hy .nil)).kp (kp_lst hD13)
      · intro u hu
        rcases List.mem_append.mp hu with hu | hu
        · exact hus u hu
        · rw [List.mem_singleton] at hu
          subst hu
          exact ⟨htA, htg⟩
    rintro acc H11 hD' hal ⟨fr, hd11, us, hul, hacl, hacc, hus⟩
    walk_at "w"
    refine rd_tupS (SqL.of hD') fun e he => ?_
    walk_at "w"
    refine ⟨small (by simp), fun yp hyp => ?_⟩
    have se := same_new he (.tup acc)
    have sy := same_new hyp (.tup [.str n0.1, .ref e])
    have hpat : Tp K (upd (upd H11 e (.tup acc)) yp (.tup [.str n0.1, .ref e])) (.ref yp) (tmD (.mk n0.1 us)) := tp_tm (sqT_of upd_same) (sqT_kp (kp_same sy) (sqT_of upd_same)) (hacc.kp (kp_same (se.trans sy)))
    have s13 := se.trans sy
    have e13 : upd (upd H11 e (.tup acc)) yp (.tup [vW n0, .ref e]) = upd (upd H11 e (.tup acc)) yp (.tup [.str n0.1, .ref e]) := rfl
    rw [e13]
    generalize upd (upd H11 e (.tup acc)) yp (.tup [.str n0.1, .ref e]) = H13 at *
    have hd13 := hd11.same s13
    have F13 : Fr2 d pl H8 H13 := (Fr2.of (f10.trans fr)).trans (.same s13)
    have hv13 : H13 pl = some (.lst vs8) := s13 _ _ (fr _ _ npd hv10)
    have ht13 := ht8.kp (F13.kp hd8 hv8)
    have hvl : vs8.length = R.length := by rw [ht8.len, List.length_map]
    have hpA : (.mk n0.1 us : Tm) ∈ PATS := mem_pats hnH hul fun u hu => (hus u hu).1
    have hpG : TmG S ["_"] (.mk n0.1 us) := by
      intro m hm
      rw [nodes] at hm
      rcases List.mem_cons.mp hm with rfl | hm
      · exact .inl (by rw [show (n0.1, us.length) = n0 from Prod.ext rfl hul]; exact hn0)
      · have h9 : ∀ (us : List Tm), (∀ u ∈ us, u ∈ AR ∧ TmG S ["_"] u) → ∀ m ∈ nodesL us, m ∈ S ∨ (m.1 ∈ [("_" : Str)] ∧ m.2 = 0) := by
          intro us
          induction us with
          | nil => intro _ m hm; rw [nodesL] at hm; cases hm
          | cons u r ih =>
            intro hu m hm
            rw [nodesL] at hm
            rcases List.mem_append.mp hm with hm | hm
            · exact (hu u List.mem_cons_self).2 m hm
            · exact ih (fun q hq => hu q (List.mem_cons_of_mem _ hq)) m hm
        exact h9 us hus m hm
    generalize (.mk n0.1 us : Tm) = pat at *
    have hpz := (pats_fact _ hpA).1
    have wok : ∀ {t : Tm}, TmG S ["_"] t → Wok (nodes t) := fun ht n hn => (ht.nd hsy.sg lvs_u n hn).ok
    walk_at "w"
    refine rd_oneLst (SqL.of hv13) fun D2 hD2 => ?_
    refine lc_map (walk_list (xs := vs8)) (fun i y H => ∃ r, R[i]? = some r ∧ Tp K H y (tmD r.1)) (by omega) hD2 (fun i y H H' q kk => ?_) (fun H' s => SqL.of (s _ _ hv13)) ?_ ?_
    · obtain ⟨r, h1, h2⟩ := q
      exact ⟨r, h1, h2.kp kk⟩
    · rintro i acc x H15 H14 hi hl s14 hD' rr ⟨rfl, hx1⟩
      have hri : R[i]? = some (R[i]'(by omega)) := List.getElem?_eq_getElem (by omega)
      obtain ⟨pa, x1, x2', hpx, hp, h1, h2⟩ := tps_pair (ht13.kp (kp_same s14)) hri
      generalize R[i]'(by omega) = r at *
      rw [hx1] at hpx
      cases hpx
      walk_at "w"
      refine ⟨rfl, ?_⟩
      walk_at "w"
      refine rd_ixT hp (v := x1) rfl ?_
      refine lc_put (by omega) hl hD' hD2 s14 (Same.refl _) (fun i y H H' q kk => ?_) rr ⟨r, hri, h1⟩
      obtain ⟨r, h1, h2⟩ := q
      exact ⟨r, h1, h2.kp kk⟩
    rintro acc2 H14 s14 hD' hal2 hf
    have hta := tps_get (f := fun r : Tm × Tm => tmD r.1) (hal2.trans hvl) hf
    rw [show (R.map fun r : Tm × Tm => tmD r.1) = tmDL (R.map (·.1)) by rw [tmDL_map, List.map_map]; rfl] at hta
    have hRw : ∀ t ∈ R.map (·.1), Wok (nodes t) ∧ dep t ≤ 20 := fun t ht => by
      obtain ⟨r, hr, rfl⟩ := List.mem_map.mp ht
      exact ⟨wok (hRk r hr).g1, by have := (pats_fact _ (hRk r hr).pat).1; have := dep_size r.1; omega⟩
    refine ⟨tmD pat, tmDL (R.map (·.1)), (hpat.kp (kp_same s14)).dp, .lst (SqL.of hD') hta.dp, shaped_tm (wok hpG) (by have := dep_size pat; omega), shaped_tms (fun t ht => (hRw t ht).1) (fun t ht => (hRw t ht).2), ?_⟩
    have hd14 := hd13.same s14
    have F14 : Fr2 d pl H8 H14 := F13.trans (.same s14)
    have hv14 := s14 _ _ hv13
    have hsy14 := hsy8.fr2 hd8 nsp F14
    cases hany : ((tmDL (R.map (·.1))).any fun z => PyData.eqv z (tmD pat)) with
    | true =>
      refine ⟨_, rfl, ?_⟩
      rw [if_neg (show ¬ (!true) = true by decide)]
      walk_at "w"
      exact ⟨_, _, _, R, rfl, f8.trans F14, hd14, ⟨vs8, hv14, ht13.kp (kp_same s14)⟩, by omega, hRn, hRk⟩
    | false =>
      refine ⟨_, rfl, ?_⟩
      rw [if_pos (show (!false) = true from rfl)]
      have hnm : pat ∉ R.map (·.1) := fun h => by rw [(eqv_any _ _).mpr h] at hany; cases hany
      walk_at "w"
      refine ⟨tyV_l (SqL.of hv14), ?_⟩
      walk_at "w"
      refine ⟨d, sd, S, rfl, hd14, hsy14, hS, fun ys2 H15 sk f15 hd15 hsk hskg hskz hskd => ?_⟩
      walk_at "w"
      refine ⟨small (by simp), fun yq hyq => ?_⟩
      have sy2 := same_new hyq (.tup [V.ref yp, ys2])
      have gy2 : upd H15 yq (.tup [V.ref yp, ys2]) yq = some (.tup [V.ref yp, ys2]) := upd_same
      generalize upd H15 yq (.tup [V.ref yp, ys2]) = H16 at *
      have hv16 : H16 pl = some (.lst vs8) := sy2 _ _ (f15 _ _ npd hv14)
      have F16 : Fr2 d pl H8 H16 := F14.trans ((Fr2.of f15).trans (.same sy2))
      obtain ⟨vs', hv', hvl', hpush⟩ := hR.push (x := .ref yp) (y := ys2) (a := pat) (b := sk) hd8 F16 (hv16.trans hv8.symm) (sqT_of gy2) (((hpat.kp (kp_same s14)).kp (f15.kpD hd14)).kp (kp_same sy2)) (hsk.kp (kp_same sy2))
      walk_at "w"
      refine rd_append hv' (small (by omega)) ?_
      walk_at "w"
      refine ⟨_, _, _, R ++ [(pat, sk)], rfl, f8.trans (F16.trans .put), (hd15.same sy2).fr2 npd.symm, hpush, by rw [List.length_append]; simp; omega, ?_, fun r hr => ?_⟩
      · rw [List.map_append]
        refine List.nodup_append.mpr ⟨hRn, by simp, fun a ha b hb e => ?_⟩
        rw [List.map_singleton, List.mem_singleton] at hb
        exact hnm ((e.trans hb : a = pat) ▸ ha)
      · rcases List.mem_append.mp hr with hr | hr
        · exact hRk r hr
        · rw [List.mem_singleton.mp hr]; exact ⟨hpA, hpG, hskg, hskz, hskd⟩
  · rintro σ H8 ⟨x2, x5, x6, R, rfl, f8, hd8, hR, hRl, hRn, hRk⟩
    walk_at "w"
    intro p1 hp1
    walk_at "w"
    refine ⟨upd_same, [(.inr "symbols", .ref sd), (.inr "rules", .ref pl)], rfl, by simp, ?_⟩
    rw [upd_upd, show mergeK [] [((.inr "symbols", .ref sd) : Key × V), (.inr "rules", .ref pl)] = [(.inr "symbols", .ref sd), (.inr "rules", .ref pl)] from rfl]
    obtain ⟨vsF, hvF, htF⟩ := hR.at_
    have s9 := same_new hp1 (.dK [(.inr "symbols", .ref sd), (.inr "rules", .ref pl)])
    have hsy8 := hsy7.fr2 hd7 nsp f8
    exact k p1 _ S R (fun a o na q => s9 _ _ (f8 _ _ na (ne_of_none q hpl0) (f07 _ _ na q))) (hd8.same s9) ⟨sd, pl, vsF, upd_same, s9 _ _ hsy8.at_, s9 _ _ hvF, htF.kp (kp_same s9)⟩ ⟨hS, by omega, hRk, hRn⟩
end
end FN
set_option maxHeartbeats 4000000
namespace FN
open PySem PySem.Spec PyProof.Rows L2
local macro_rules | `(tactic| walk_at "w") => `(tactic| repeat (with_reducible first
  | refine rd_seq ?_
  | refine rd_asg ?_
  | refine rd_name ?_
  | refine rd_ret ?_
  | refine rd_drop ?_
  | refine rd_if ?_
  | refine rd_next ?_
  | refine rd_var (by k_dflt rfl) ?_
  | refine rd_c ?_
  | refine rd_op ?_
  | refine rd_un ?_
  | refine rd_test ?_
  | refine rd_B ?_
  | refine rd_I0 ?_
  | refine rd_U ?_
  | refine rd_eqI ?_
  | refine rd_neI ?_
  | refine rd_eqS ?_
  | refine rd_neS ?_
  | refine rd_and ?_
  | refine rd_or ?_
  | refine rd_not ?_
  | refine rd_andV ?_
  | refine rd_orV ?_
  | refine rd_notV ?_
  | refine rd_ife ?_
  | refine rd_chain ?_
  | refine rd_exb ?_
  | refine rd_exi ?_
  | refine rd_nil ?_
  | refine rd_cons ?_
  | refine rd_CB ?_
  | refine rd_G ?_
  | refine rd_fld ?_
  | refine rd_sl ?_
  | refine rd_part ?_
  | refine rd_noPart ?_
  | refine rd_leaf ?_
  | refine rd_tup ?_
  | refine rd_lst ?_
  | refine rd_star ?_
  | refine rd_bm ?_
  | refine rd_bm0 ?_
  | refine rd_gsub ?_
  | refine rd_rev ?_
  | refine rd_gnil ?_
  | refine rd_gcons ?_
  | refine rd_yes ?_
  | refine rd_abs ?_
  | refine rd_max2 ?_
  | refine rd_min2 ?_
  | refine rd_int1 ?_
  | refine rd_int1b ?_
  | refine rd_inSign ?_
  | refine rd_niSign ?_
  | refine rd_isN ?_
  | refine rd_ntN ?_
  | refine rd_dcLst ?_
  | refine rd_dcTup ?_
  | refine rd_dcItems ?_
  | refine rd_lcTup ?_
  | refine rd_lcLst ?_
  | refine rd_lcStr ?_
  | refine rd_lcR1 ?_
  | refine rd_lcR2 ?_
  | refine rd_lcKeys ?_
  | refine rd_lcVals ?_
  | refine rd_lcItems ?_
  | refine rd_lcZip ?_
  | refine rd_forTup ?_
  | refine rd_forLst ?_
  | refine rd_forR1 ?_
  | refine rd_forR2 ?_
  | refine rd_forR3 ?_
  | refine rd_forZip ?_
  | refine rd_forItems ?_
  | refine rd_lcEnumT ?_
  | refine rd_forEnumT ?_
  | refine rd_oneStr ?_
  | refine rd_mkR ?_
  | refine rd_mk0 ?_
  | refine rd_mR ?_
  | refine rd_mN ?_
  | refine rd_pr ?_
  | refine rd_cmR ?_
  | refine rd_makeC ?_
  | refine rd_tM1 ?_
  | refine rd_fmtT ?_
  | refine ⟨rd_exs, ?_⟩
  | refine rd_listZip ?_
  | refine rd_lenSetS ?_
  | refine rd_sfld ?_
  | refine rd_jc ?_
  | refine rd_jn ?_
  | refine rd_par ?_
  | refine rd_par3 ?_
  | refine rd_dupd ?_
  | refine rd_disp ?_
  | refine rd_pc ?_
  | refine rd_pn ?_
  | refine rd_dni ?_
  | refine rd_dget ?_
  | refine rd_dget2 ?_
  | refine rd_dput ?_
  | refine rd_T ?_
  | refine rd_F ?_
  | refine rd_nT ?_
  | refine rd_nF ?_))
section
variable {P : Program} {w : World} {K : PySem.W.Frag} {mg : Str → Option Value} {base : Heap} {C : Ad}
/-- the law's book behind a throw of the dice -/
theorem LBook.fr {H H' : Hp} {v d : Addr} {S : List Nd} {R : List (Tm × Tm)} (h : LBook K H v S R) (hd : Dice H d) (f : FrD d H H') : LBook K H' v S R := by
  obtain ⟨sd, rl, xs, h1, h2, h3, h4⟩ := h
  obtain ⟨g, b, c, q⟩ := hd
  have n1 : v ≠ d := fun z => by subst z; rw [h1] at q; cases q
  have n2 : sd ≠ d := fun z => by subst z; rw [h2] at q; cases q
  have n3 : rl ≠ d := fun z => by
    subst z
    rw [h3] at q
    have e : xs = [.int g, .int b, .int c] := by
      have := Option.some.inj q
      cases this
      rfl
    subst e
    cases R with
    | nil => cases h4
    | cons r R =>
      obtain ⟨a, x, y, hx, _⟩ := tps_pair (i := 0) h4 rfl
      cases hx
  exact ⟨sd, rl, xs, f _ _ n1 h1, f _ _ n2 h2, f _ _ n3 h3, h4.kp (f.kpD ⟨g, b, c, q⟩)⟩
theorem lz_cnt {t : Tm} (h : ∀ n ∈ nodes t, NdW n) : (lz "_" 0 (nodes t)).length = cf t := by
  rw [lz_plw "_" (.inl rfl) 0 _ h, cntU_plw, cf_cnt t fun n hn e => (h n hn).zero (.inl e)]
theorem TmG.weak {S : List Nd} {L L' : List Str} {t : Tm} (h : TmG S L t) (k : ∀ z ∈ L, z ∈ L') : TmG S L' t := fun n hn => (h n hn).imp_right fun q => ⟨k _ q.1, q.2⟩
theorem tmg_gr {S : List Nd} {t : Tm} (h : TmG S [] t) (hS : SG S) : gr t = true := by
  rw [gr_iff (h.nd hS lvs_0)]
  have key : ∀ (z : Str), z ∈ [("_" : Str), ("#" : Str)] → ∀ (ns : List Nd) (p : Nat), (∀ n ∈ ns, n ∈ S) → lz z p ns = [] := by
    intro z hz ns
    induction ns with
    | nil => intro p _; rfl
    | cons n r ih =>
      intro p hn
      rw [lz, if_neg, ih _ fun m hm => hn m (List.mem_cons_of_mem _ hm)]
      intro e
      exact (hS.ok (hn n List.mem_cons_self)).2 (by rw [e]; exact hz)
  have hh : ∀ n ∈ nodes t, n ∈ S := fun n hn => (h n hn).resolve_right fun q => by cases q.1
  exact ⟨key _ (by simp) _ 0 hh, key _ (by simp) _ 0 hh⟩
theorem nd3 {S : List Nd} {L : List Str} {t : Tm} (h : TmG S L t) (hS : SG S) : ∀ n ∈ nodes t, n.2 ≤ 3 := fun n hn => by
  rcases h n hn with h1 | h1
  · obtain ⟨c, _, _, h3⟩ := hS.row n h1; exact h3
  · omega
/-- what a step makes, plainly -/
structure Due (S : List Nd) (L : List Str) (t s : Tm) (p : Nat) (r : Tm × Tm) (fs : List Tm) : Prop where
  fl : fs.length = cf r.2
  ok : ∀ f ∈ fs, TmG S [] f ∧ size f ≤ 4 ∧ dep f ≤ 2
theorem sizes_le {fs : List Tm} (h : ∀ f ∈ fs, size f ≤ 4) : sizes fs ≤ 4 * fs.length := by
  induction fs with
  | nil => rw [sizes]; omega
  | cons f r ih =>
    have h1 := h f List.mem_cons_self
    have h2 := ih fun g hg => h g (List.mem_cons_of_mem _ hg)
    rw [sizes, List.length_cons]; omega
section
variable {S : List Nd} {L : List Str} {t s : Tm} {p : Nat} {r : Tm × Tm} {fs : List Tm}
theorem Due.fill (h : Due S L t s p r fs) (hr : LRule S r) (hS : SG S) : nodes (fill r.2 fs) = nfill (nodes r.2) fs ∧ size (fill r.2 fs) ≤ 22 ∧ dep (fill r.2 fs) ≤ 5 ∧ (∀ n ∈ nodes (fill r.2 fs), n ∈ S ∨ n.1 = "_" ∧ n.2 = 0) ∧ fs.length ≤ 5 := by
  have hw := hr.g2.nd hS lvs_u
  have hLf : Lf (nodes r.2) := fun n hn e => (hw n hn).zero (.inl e)
  have e1 := nodes_fill r.2 fs hLf (by have := h.fl; omega)
  have hcb := cf_bound r.2 (nd3 hr.g2 hS)
  have hz := hr.z2
  have hcc := cf_cnt r.2 hLf
  have e2 := nfill_size (nodes r.2) fs (by rw [← hcc, h.fl])
  rw [← e1, nodes_length, nodes_length] at e2
  have h4 := sizes_le fun f hf => (h.ok f hf).2.1
  have hfl := h.fl
  refine ⟨e1, by omega, ?_, fun n hn => ?_, by omega⟩
  · have := dep_fill r.2 fs 2 fun f hf => (h.ok f hf).2.2
    have := hr.d2; omega
  · rw [e1] at hn
    rcases nfill_sub _ _ _ hn with hn | hn
    · rcases hr.g2 n hn with h1 | h1
      · exact .inl h1
      · exact .inr ⟨List.mem_singleton.mp h1.1, h1.2⟩
    · have h9 : ∀ (us : List Tm), (∀ u ∈ us, TmG S [] u) → ∀ m ∈ nodesL us, m ∈ S := by
        intro us
        induction us with
        | nil => intro _ m hm; rw [nodesL] at hm; cases hm
        | cons u r ih =>
          intro hu m hm
          rw [nodesL] at hm
          rcases List.mem_append.mp hm with hm | hm
          · exact (hu u List.mem_cons_self m hm).resolve_right fun q => by cases q.1
          · exact ih (fun q hq => hu q (List.mem_cons_of_mem _ hq)) m hm
      exact .inl (h9 fs (fun u hu => (h.ok u hu).1) n hn)
end
def LL : List Str := ["_", "#"]
theorem lvs_2 : Lvs LL := ⟨by decide, fun z hz => by simpa [LL] using hz⟩
theorem TmG.ll {S : List Nd} {L : List Str} {t : Tm} (h : TmG S L t) (hL : Lvs L) : TmG S LL t := h.weak fun z hz => by simpa [LL] using hL.2 z hz
theorem due_all {S : List Nd} {L : List Str} {t s : Tm} {p : Nat} {r : Tm × Tm} {fs : List Tm} (h : Due S L t s p r fs) (hr : LRule S r) (hS : SG S) (hL : Lvs L) (ht : TmG S L t) (hz : size t ≤ 16) (hd : dep t ≤ 4) (ha : At t p s) :
    TmG S LL (put t p (fill r.2 fs)) ∧ size (put t p (fill r.2 fs)) ≤ 37 ∧ dep (put t p (fill r.2 fs)) ≤ 9 ∧ nodes (put t p (fill r.2 fs)) = (nodes t).take p ++ (nfill (nodes r.2) fs ++ (nodes t).drop (p + size s)) := by
  obtain ⟨e1, e2, e3, e4, e5⟩ := h.fill hr hS
  have hsp := size_put (fill r.2 fs) ha
  have hdp := dep_put t p (fill r.2 fs)
  have hs1 : 1 ≤ size s := by have := dep_size s; have := dep_pos s; omega
  refine ⟨fun n hn => ?_, by omega, by omega, by rw [nodes_put _ _ _ _ ha, e1]⟩
  rcases put_sub _ ha n hn with h1 | h1
  · exact (ht.ll hL) n h1
  · rcases e4 n h1 with h2 | h2
    · exact .inl h2
    · exact .inr ⟨by rw [h2.1]; simp [LL], h2.2⟩
theorem near_all {S : List Nd} {t u : Tm} {q : Nat} (hS : SG S) (ht : TmG S LL t) (hz : size t ≤ 37) (hd : dep t ≤ 9) (hq : q < size t) (hu : TmG S ["_"] u) (huz : size u ≤ 4) (hud : dep u ≤ 2) :
    TmG S LL (put t q u) ∧ size (put t q u) ≤ 40 ∧ dep (put t q u) ≤ 11 := by
  obtain ⟨s, hs⟩ := at_of hq
  have hsp := size_put u hs
  have hdp := dep_put t q u
  have hs1 : 1 ≤ size s := by have := dep_size s; have := dep_pos s; omega
  refine ⟨fun n hn => ?_, by omega, by omega⟩
  rcases put_sub u hs n hn with h1 | h1
  · exact ht n h1
  · exact (hu.ll lvs_u) n h1
end
end FN
set_option maxHeartbeats 4000000
namespace FN
open PySem PySem.Spec PyProof.Rows L2
local macro_rules | `(tactic| walk_at "w") => `(tactic| repeat (with_reducible first
  | refine rd_seq ?_
  | refine rd_asg ?_
  | refine rd_name ?_
  | refine rd_ret ?_
  | refine rd_drop ?_
  | refine rd_if ?_
  | refine rd_next ?_
  | refine rd_var (by k_dflt rfl) ?_
  | refine rd_c ?_
  | refine rd_op ?_
  | refine rd_un ?_
  | refine rd_test ?_
  | refine rd_B ?_
  | refine rd_I0 ?_
  | refine rd_U ?_
  | refine rd_eqI ?_
  | refine rd_neI ?_
  | refine rd_eqS ?_
  | refine rd_neS ?_
  | refine rd_and ?_
  | refine rd_or ?_
  | refine rd_not ?_
  | refine rd_andV ?_
  | refine rd_orV ?_
  | refine rd_notV ?_
  | refine rd_ife ?_
  | refine rd_chain ?_
  | refine rd_exb ?_
  | refine rd_exi ?_
  | refine rd_nil ?_
  | refine rd_cons ?_
  | refine rd_CB ?_
  | refine rd_G ?_
  | refine rd_fld ?_
  | refine rd_sl ?_
  | refine rd_part ?_
  | refine rd_noPart ?_
  | refine rd_leaf ?_
  | refine rd_tup ?_
  | refine rd_lst ?_
  | refine rd_star ?_
  | refine rd_bm ?_
  | refine rd_bm0 ?_
  | refine rd_gsub ?_
  | refine rd_rev ?_
  | refine rd_gnil ?_
  | refine rd_gcons ?_
  | refine rd_yes ?_
  | refine rd_abs ?_
  | refine rd_max2 ?_
  | refine rd_min2 ?_
  | refine rd_int1 ?_
  | refine rd_int1b ?_
  | refine rd_inSign ?_
  | refine rd_niSign ?_
  | refine rd_isN ?_
  | refine rd_ntN ?_
  | refine rd_dcLst ?_
  | refine rd_dcTup ?_
  | refine rd_dcItems ?_
  | refine rd_lcTup ?_
  | refine rd_lcLst ?_
  | refine rd_lcStr ?_
  | refine rd_lcR1 ?_
  | refine rd_lcR2 ?_
  | refine rd_lcKeys ?_
  | refine rd_lcVals ?_
  | refine rd_lcItems ?_
  | refine rd_lcZip ?_
  | refine rd_forTup ?_
  | refine rd_forLst ?_
  | refine rd_forR1 ?_
  | refine rd_forR2 ?_
  | refine rd_forR3 ?_
  | refine rd_forZip ?_
  | refine rd_forItems ?_
  | refine rd_lcEnumT ?_
  | refine rd_forEnumT ?_
  | refine rd_oneStr ?_
  | refine rd_mkR ?_
  | refine rd_mk0 ?_
  | refine rd_mR ?_
  | refine rd_mN ?_
  | refine rd_pr ?_
  | refine rd_cmR ?_
  | refine rd_makeC ?_
  | refine rd_tM1 ?_
  | refine rd_fmtT ?_
  | refine ⟨rd_exs, ?_⟩
  | refine rd_listZip ?_
  | refine rd_lenSetS ?_
  | refine rd_sfld ?_
  | refine rd_jc ?_
  | refine rd_jn ?_
  | refine rd_par ?_
  | refine rd_par3 ?_
  | refine rd_dupd ?_
  | refine rd_disp ?_
  | refine rd_pc ?_
  | refine rd_pn ?_
  | refine rd_dni ?_
  | refine rd_dget ?_
  | refine rd_dget2 ?_
  | refine rd_dput ?_
  | refine rd_T ?_
  | refine rd_F ?_
  | refine rd_nT ?_
  | refine rd_nF ?_))
section
variable {P : Program} {w : World} {K : PySem.W.Frag} {mg : Str → Option Value} {base : Heap} {C : Ad}
def sp_law_steps (K : PySem.W.Frag) (C : Ad) : Sp := fun vs H Q _ => ∃ (d b m : Addr) (tv : V) (p i : Nat) (S : List Nd) (R : List (Tm × Tm)) (L : List Str) (t s : Tm) (r : Tm × Tm), vs = [.ref d, .ref b, .ref m, tv, vI p, vI i] ∧ Dice H d ∧ LBook K H b S R ∧ LRs S R ∧ BookAt K C H m S R ∧
  Tp K H tv (tmD t) ∧ TmG S L t ∧ Lvs L ∧ size t ≤ 16 ∧ dep t ≤ 4 ∧ At t p s ∧ R[i]? = some r ∧ fits s r.1 = true ∧ ∀ H', FrD d H H' → Dice H' d → Q (.bl true) H'
theorem len_two {α : Type} {l : List α} (h : l.length = 2) : ∃ a b, l = [a, b] := by
  match l, h with
  | [a, b], _ => exact ⟨a, b, rfl⟩
theorem rd_ifSame {c : TT} {a : TS} {nx bk ct : L2.St → Hp → Prop} {rt : VK} {σ : L2.St} {H : Hp} (h1 : ∀ Q' : Bool → Hp → Prop, (∀ H', Same H H' → Q' false H') → c σ H Q') (h2 : ∀ H', Same H H' → nx σ H') : tIfS c a tNext ⟨nx, rt, bk, ct⟩ σ H := h1 _ fun H' s => h2 H' s
theorem ok_law_steps (T : Ty K mg C) : Gf P w K mg base "_law_steps_right" 84 (sp_law_steps K C) := by
  have G__law_roll := ok_law_roll (P := P) (w := w) (base := base) T
  have G__law_leaves := ok_law_leaves (P := P) (w := w) (base := base) T
  have G__law_small_term := ok_small_term (P := P) (w := w) (base := base) T
  have G__law_put := ok_law_put (P := P) (w := w) (base := base) T 30
  have G__law_filled := ok_law_filled (P := P) (w := w) (base := base) T 30
  have G__law_made_term := ok_made_term (P := P) (w := w) (base := base) T
  have G__law_nodes := ok_law_nodes (P := P) (w := w) (base := base) T 40
  have G__law_is_behind := ok_law_is_behind (P := P) (w := w) (base := base) T
  have G_Book_step := ok_Bstep (P := P) (w := w) (base := base) T
  have G_Book_is_step := (ok_Bis_step (P := P) (w := w) (base := base) T).rf
  have G_Teq := (ok_Teq (P := P) (w := w) (base := base) T).rf
  refine T.d__law_steps_right.ok sc__law_steps_right (fun vs H Q E h => ?_) (fun f cdv A outer s H vs Q E hr h => ?_)
  · obtain ⟨d, b, m, tv, p, i, S, R, L, t, s, r, rfl, _⟩ := h
    rfl
  obtain ⟨d, b, m, tv, p, i, S, R, L, t, s0, r, rfl, hd, hb, hRs, hm, ht, htg, hL, htz, htd, hat, hri, hfit, k⟩ := h
  refine ⟨_, (pss_cons (ps_set (i := 6) sc__law_steps_right.nd rfl (Or.inl rfl) (pe_ix ix_tup (pe_ix ix_list (pe_dget (hu1 hr) (pv 1) pe_str (fun _ _ => rfl)) (pv 5) (fun _ _ => rfl)) pe_int (fun _ _ => rfl)))
    (pss_cons (ps_set (i := 7) sc__law_steps_right.nd rfl (Or.inl rfl) (pe_callB c_lenS rfl T.f_len PySem.boot_len (pa_cons (pe_g G__law_leaves (hr.mono (by decide)) (pa_cons (pv 6) (pa_cons pe_str pa_nil))) pa_nil)))
    (pss_cons (ps_setLc (i := 8) (own := [("_law_turn", 16)]) rfl sc__law_steps_right.nd rfl rfl (sw_true rfl rfl rfl (by decide +kernel)) (pi_range1 rfl T.f_range (pa_cons (pv 7) pa_nil)) (blkOk_by (own := [("_law_turn", 16)]) (N := ["_law_dice_here", "_law_book_here", "_law_made_here", "_law_term_here", "_law_place", "_law_at", "_law_sketch_here", "_law_size", "_law_put_here", "_law_near", "_law_other", "_law_due", "_law_args", "_law_first", "_law_behind", "_law_told", "_law_turn", "_law_one"]) (sc := defScope s__law_steps_right) (by decide +kernel)) (fun _ _ _ _ _ => (pg_name (i := 16) sc__law_steps_right.nd rfl (Or.inl rfl))) (fun _ _ _ _ _ => pts_nil) (fun _ _ _ _ _ => (pe_g G__law_small_term (hr.mono (by decide)) (pa_cons (pv 0) (pa_cons (pe_dget (hu1 hr) (pv 1) pe_str (fun _ _ => rfl)) (pa_cons (pe_lst pa_nil) (pa_cons pe_int (pa_cons pe_int pa_nil))))))))
    (pss_cons (ps_par rfl sc__law_steps_right.nd (i := 11) (j := 12) rfl rfl (by decide) rfl rfl (pa_cons (pe_g G__law_put (hr.mono (by decide)) (pa_cons (pv 3) (pa_cons (pv 4) (pa_cons (pe_g G__law_filled (hr.mono (by decide)) (pa_cons (pv 6) (pa_cons (pe_callTy c_listS rfl T.f_list (by decide +kernel) (pa_cons (pv 8) pa_nil)) pa_nil))) pa_nil)))) (pa_cons (pe_lc (own := [("_law_one", 17)]) rfl sc__law_steps_right.nd (pi_list (pv 8)) (blkOk_by (own := [("_law_one", 17)]) (N := ["_law_dice_here", "_law_book_here", "_law_made_here", "_law_term_here", "_law_place", "_law_at", "_law_sketch_here", "_law_size", "_law_put_here", "_law_near", "_law_other", "_law_due", "_law_args", "_law_first", "_law_behind", "_law_told", "_law_turn", "_law_one"]) (sc := defScope s__law_steps_right) (by decide +kernel)) (fun _ _ _ _ _ => (pg_name (i := 17) sc__law_steps_right.nd rfl (Or.inl rfl))) (fun _ _ _ _ _ => pts_nil) (fun _ _ _ _ _ => (pe_g G__law_made_term (hr.mono (by decide)) (pa_cons (pv 17) pa_nil)))) pa_nil)) (by rfl))
    (pss_cons (ps_par rfl sc__law_steps_right.nd (i := 13) (j := 14) rfl rfl (by decide) rfl rfl (pa_cons (pe_g G__law_made_term (hr.mono (by decide)) (pa_cons (pv 3) pa_nil)) (pa_cons (pe_g G__law_made_term (hr.mono (by decide)) (pa_cons (pv 11) pa_nil)) pa_nil)) (by rfl))
    (pss_cons (ps_if (PW.pt (pw_and (pt_cmpR op_eq (pv 7) pe_int (nomark _)) (pw_and1 (pt_cmpR (op_neT G_Teq (hr.mono (by decide))) (pe_m G_Book_step T.cl_b (pv 2) (hr.mono (by decide)) (pa_cons (pv 13) (pa_cons (pv 4) (pa_cons (pv 5) pa_nil)))) (pv 14) (nomark _))))) (pss_one (ps_ret pe_bl)) pss_nil)
    (pss_cons (ps_if (PW.pt (pw_and (pt_cmpR op_eq (pv 7) pe_int (nomark _)) (pw_and1 (pt_cmpR (op_neT G_Teq (hr.mono (by decide))) (pe_m G_Book_step T.cl_b (pv 2) (hr.mono (by decide)) (pa_cons (pv 13) (pa_cons (pv 4) (pa_cons (pv 5) (pa_cons (pe_ix ix_list (pv 12) pe_int (fun _ _ => rfl)) pa_nil))))) (pv 14) (nomark _))))) (pss_one (ps_ret pe_bl)) pss_nil)
    (pss_cons (ps_if (PW.pt (pw_and (pt_cmpR op_eq (pv 7) pe_int (nomark _)) (pw_and1 (pt_cmpR (op_neT G_Teq (hr.mono (by decide))) (pe_m G_Book_step T.cl_b (pv 2) (hr.mono (by decide)) (pa_cons (pv 13) (pa_cons (pv 4) (pa_cons (pv 5) (pa_cons (pe_ix ix_list (pv 12) pe_int (fun _ _ => rfl)) (pa_cons (pe_ix ix_list (pv 12) pe_int (fun _ _ => rfl)) pa_nil)))))) (pv 14) (nomark _))))) (pss_one (ps_ret pe_bl)) pss_nil)
    (pss_cons (ps_set (i := 9) sc__law_steps_right.nd rfl (Or.inl rfl) (pe_g G__law_put (hr.mono (by decide)) (pa_cons (pv 11) (pa_cons (pe_g G__law_roll (hr.mono (by decide)) (pa_cons (pv 0) (pa_cons (pe_callB c_lenS rfl T.f_len PySem.boot_len (pa_cons (pe_g G__law_nodes (hr.mono (by decide)) (pa_cons (pv 11) pa_nil)) pa_nil)) pa_nil))) (pa_cons (pe_g G__law_small_term (hr.mono (by decide)) (pa_cons (pv 0) (pa_cons (pe_dget (hu1 hr) (pv 1) pe_str (fun _ _ => rfl)) (pa_cons (pe_lst (pa_cons pe_str pa_nil)) (pa_cons pe_int (pa_cons pe_int pa_nil)))))) pa_nil)))))
    (pss_cons (ps_for PassesOwn.never rfl (pi_list (pe_lst (pa_cons (pv 11) (pa_cons (pv 9) (pa_cons (pv 3) (pa_cons (pv 6) pa_nil)))))) (pg_name (i := 10) sc__law_steps_right.nd rfl (Or.inl rfl)) (pss_cons (ps_set (i := 15) sc__law_steps_right.nd rfl (Or.inl rfl) (pe_m G_Book_is_step T.cl_b (pv 2) (hr.mono (by decide)) (pa_cons (pv 13) (pa_cons (pv 4) (pa_cons (pv 5) (pa_cons (pe_g G__law_made_term (hr.mono (by decide)) (pa_cons (pv 10) pa_nil)) pa_nil))))))
      (pss_one (ps_if (pt_cmpR op_ne (pv 15) (pe_g G__law_is_behind (hr.mono (by decide)) (pa_cons (pv 3) (pa_cons (pv 4) (pa_cons (pv 6) (pa_cons (pv 10) pa_nil))))) (nomark _)) (pss_one (ps_ret pe_bl)) pss_nil))))
    (pss_one (ps_ret pe_bl)))))))))))), ?_⟩
  try dsimp only [nox_K]
  refine rd_st (σ' := [some (.ref d), some (.ref b), some (.ref m), some tv, some (vI p), some (vI i), none, none, none, none, none, none, none, none, none, none, none, none]) rfl ?_
  have hS := sets_sg S hRs.st
  have hrk := hRs.ok r (List.mem_of_getElem? hri)
  have hbk := hRs.book
  have LB := hb
  obtain ⟨sd, rl, xs, hb0, hsd, hrl, hx⟩ := hb
  have hsy : Sy H sd S := ⟨hsd, hS⟩
  obtain ⟨pa, x1, sk, hpx, hp, h1, hsk⟩ := tps_pair hx hri
  walk_at "w"
  refine ⟨b, _, rfl, lb_rules hb0, ?_⟩
  walk_at "w"
  refine rd_ixL (SqL.of hrl) (atI_nat hpx) ?_
  walk_at "w"
  refine rd_ixT hp (v := sk) rfl ?_
  walk_at "w"
  refine ⟨sk, r.2, "_", rfl, hsk, by have := hrk.z2; omega, fun n hn => (hrk.g2.nd hS lvs_u n hn).ok, by decide +kernel, fun l1 H1 s1 hl1 => ?_⟩
  walk_at "w"
  refine rd_len (.inl (SqL.of hl1)) ?_
  rw [List.length_map, lz_cnt (hrk.g2.nd hS lvs_u)]
  have hcb := cf_bound r.2 (nd3 hrk.g2 hS)
  have hz2 := hrk.z2
  walk_at "w"
  refine ⟨_, rfl, by omega, by omega, fun D hD => ?_⟩
  rw [show ((cf r.2 : Nat) : Int).toNat = cf r.2 by omega]
  have hd1 := hd.same s1
  have hDd := hd1.ne hD
  refine lc_gen walk_range (fun i acc H' => FrD d H1 H' ∧ Dice H' d ∧ ∃ us : List Tm, us.length = i ∧ acc.length = i ∧ Tps K H' acc (us.map tmD) ∧ ∀ u ∈ us, TmG S [] u ∧ size u ≤ 4 ∧ dep u ≤ 2) (by omega) ?_ (fun _ _ _ _ => trivial) ?_ ?_
  · exact ⟨FrD.of (same_new hD _), hd1.same (same_new hD _), [], rfl, rfl, .nil, fun u hu => by cases hu⟩
  · rintro i acc x H3 H2 hi hal hD' ⟨fr, hd2, us, hul, hacl, hacc, hus⟩ ⟨rfl, rfl⟩
    walk_at "w"
    refine ⟨rfl, ?_⟩
    have hb2 := ((LB.same s1).fr hd1 fr)
    walk_at "w"
    have hb02 := fr _ _ (fun z => by subst z; obtain ⟨g, b, c, q⟩ := hd1; rw [s1 _ _ hb0] at q; cases q) (s1 _ _ hb0)
    refine ⟨b, _, rfl, lb_symbols hb02, ?_⟩
    walk_at "w"
    refine ⟨small (by simp), fun e he => ?_⟩
    have se := same_new he (.lst [])
    walk_at "w"
    refine ⟨d, sd, e, S, [], 1, 4, rfl, hd2.same se, ((hsy.same s1).fr hd1 fr).same se, upd_same, hd2.ne he, lvs_0, by decide, by decide, by decide, by decide, fun y H4 u f4 hd4 hy hug huz hud => ?_⟩
    have f24 := (FrD.of se).trans f4
    have hD4 := f24 _ _ hDd hD'
    refine ⟨acc, hD4, smallL (by omega), acc ++ [y], upd_same, by rw [List.length_append]; simp; omega, ?_, hd4.fr2 hDd.symm, us ++ [u], by rw [List.length_append, hul]; rfl, by rw [List.length_append, hacl]; rfl, ?_, ?_⟩
    · exact fun a o na e => by rw [upd_ne (ne_of_none e hD)]; exact (fr.trans f24) a o na e
    · rw [List.map_append]
      exact ((hacc.kp (f24.kpD hd2)).app (.cons hy .nil)).kp (kp_lst hD4)
    · intro v hv
      rcases List.mem_append.mp hv with hv | hv
      · exact hus v hv
      · rw [List.mem_singleton] at hv
        subst hv
        exact ⟨hug, huz, hud⟩
  rintro acc H2 hD' hal ⟨fr, hd2, us, hul, hacl, hacc, hus⟩
  have hdue : Due S L t s0 p r us := ⟨hul, hus⟩
  have f02 : FrD d H H2 := (FrD.of s1).trans fr
  have k02 : Kp H H2 := f02.kpD hd
  obtain ⟨hdg, hdz, hdd, hdn⟩ := due_all hdue hrk hS hL htg htz htd hat
  obtain ⟨_, hfz, hfd, _, hul5⟩ := hdue.fill hrk hS
  walk_at "w"
  refine rd_listS (.inl (SqL.of hD')) fun c hc => ?_
  have sc := same_new hc (.lst acc)
  have gc : upd H2 c (.lst acc) c = some (.lst acc) := upd_same
  generalize upd H2 c (.lst acc) = H3 at *
  walk_at "w"
  refine ⟨sk, r.2, c, acc, us, rfl, (hsk.kp k02).kp (kp_same sc), by have := hrk.d2; omega, by omega, gc, hacc.kp (kp_same sc), by omega, fun fl H4 xs4 f4 hc4 _ hfl => ?_⟩
  have ncd : c ≠ d := hd2.ne hc
  have s24 : Same H2 H4 := fun a o q => f4 _ _ (ne_of_none q hc) (sc _ _ q)
  walk_at "w"
  refine ⟨tv, t, p, fl, _, rfl, (ht.kp k02).kp (kp_same s24), hfl, hat.lt, by omega, by omega, fun due H5 s5 hdu => ?_⟩
  walk_at "w"
  have hD5 : H5 D = some (.lst acc) := s5 _ _ (s24 _ _ hD')
  have s25 : Same H2 H5 := s24.trans s5
  have hacc5 := hacc.kp (kp_same s25)
  have wk : ∀ {u : Tm}, TmG S [] u → size u ≤ 4 → TmB S u := fun hu hz => hu.b hS lvs_0 (by omega)
  refine rd_oneLst (SqL.of hD5) fun D2 hD2 => ?_
  refine lc_map (walk_list (xs := acc)) (fun i y H => ∃ u a, us[i]? = some u ∧ y = .ref a ∧ TermAt K C H a u) (by omega) hD2 (fun i y H H' q kk => ?_) (fun H' s => SqL.of (s _ _ hD5)) ?_ ?_
  · obtain ⟨u, a, h1, h2, h3⟩ := q
    exact ⟨u, a, h1, h2, h3.kp kk⟩
  · rintro j acc2 x H7 H6 hi hl s6 hD' rr ⟨rfl, hx1⟩
    have huj : us[j]? = some (us[j]'(by omega)) := List.getElem?_eq_getElem (by omega)
    have hxu : Tp K H6 x (tmD (us[j]'(by omega))) := by
      obtain ⟨u, hu1, hu2⟩ := tps_tm (hacc5.kp (kp_same s6)) hx1
      rw [huj] at hu1; cases hu1; exact hu2
    have huw := hus _ (List.mem_of_getElem? huj)
    generalize us[j]'(by omega) = u at *
    walk_at "w"
    refine ⟨rfl, ?_⟩
    walk_at "w"
    refine ⟨x, u, rfl, hxu, (wk huw.1 huw.2.1).w, fun a H8 s8 ha => ?_⟩
    refine lc_put (by omega) hl hD' hD2 s6 s8 (fun i y H H' q kk => ?_) rr ⟨u, a, huj, rfl, ha⟩
    obtain ⟨u, a, h1, h2, h3⟩ := q
    exact ⟨u, a, h1, h2, h3.kp kk⟩
  rintro args H6 s6 hD6 hal6 hf6
  have hargs : TmAll K C H6 args us := ⟨by omega, fun j x u h1 h2 => by
    obtain ⟨u', a, g1, g2, g3⟩ := hf6 j x h1
    rw [h2] at g1; cases g1
    exact ⟨a, g2, g3⟩⟩
  walk_at "w"
  refine ⟨_, _, rfl, ?_⟩
  walk_at "w"
  have k06 : Kp H H6 := k02.trans (kp_same (s25.trans s6))
  have hdu6 := hdu.kp (kp_same s6)
  generalize hdd' : put t p (fill r.2 us) = du at *
  have hdub : TmB S du := hdg.b hS lvs_2 (by omega)
  have htb : TmB S t := htg.b hS hL (by omega)
  refine ⟨tv, t, rfl, ht.kp k06, htb.w, fun a1 H7 s7 ha1 => ?_⟩
  walk_at "w"
  refine ⟨due, du, rfl, hdu6.kp (kp_same s7), hdub.w, fun a2 H8 s8 ha2 => ?_⟩
  walk_at "w"
  refine ⟨_, _, rfl, ?_⟩
  have ha1 := ha1.kp (kp_same s8)
  have s68 := s7.trans s8
  have k08 : Kp H H8 := k06.trans (kp_same s68)
  have hm8 := hm.kp k08
  have hargs8 : TmAll K C H8 args us := ⟨hargs.1, fun j x u h1 h2 => by
    obtain ⟨a, g2, g3⟩ := hargs.2 j x u h1 h2
    exact ⟨a, g2, g3.kp (kp_same s68)⟩⟩
  have hD8 := s68 _ _ hD6
  have hcU : us.length = cntU (nodes r.2) := by
    rw [hul, cf_cnt r.2 fun n hn e => (hrk.g2.nd hS lvs_u n hn).zero (.inl e)]
  have stp : ∀ (H9 : Hp) (Q' : VK), Same H8 H9 → (∀ x H', Same H9 H' → TermAt K C H' x du → Q' (.ref x) H') → spStar 4 (sp_Bstep K C) ([.ref m, .ref a1, vI p, vI i] ++ args) H9 Q' E0 := by
    intro H9 Q' s9 hq
    refine ⟨_, args, rfl, rfl, small (by omega), fun v hv => ?_⟩
    have sv := same_new hv (.tup args)
    have k9 := kp_same (s9.trans sv)
    refine ⟨m, a1, S, R, t, p, s0, i, r, v, args, us, du, rfl, hm8.kp k9, hbk, ha1.kp k9, htb, hat, hri, hfit, sqT_of upd_same, ⟨hargs8.1, fun j x u h1 h2 => ?_⟩, fun u hu => ⟨wk (hus u hu).1 (hus u hu).2.1, tmg_gr (hus u hu).1 hS⟩, hcU, by omega, by have := sizes_le fun f hf => (hus f hf).2.1; omega, hdn, hdub.w, fun x H' s ta => hq x H' (sv.trans s) ta⟩
    obtain ⟨a, g2, g3⟩ := hargs8.2 j x u h1 h2
    exact ⟨a, g2, g3.kp k9⟩
  have neq : ∀ (H9 : Hp) (x : Addr) (Q' : VK), Same H8 H9 → TermAt K C H9 x du → Q' (.bl false) H9 → rNeT C.t (sp_Teq K C) (.ref x) (.ref a2) H9 Q' := by
    intro H9 x Q' s9 hx hq
    have hb2 := ha2.kp (kp_same s9)
    obtain ⟨dx, n, c, e, sd, u, l, e1⟩ := termIns hx
    obtain ⟨dy, n', c', e', sd', u', l', e2⟩ := termIns hb2
    exact ⟨x, dx, _, a2, dy, _, rfl, rfl, e1, e2, x, du, hx, hdub.w, .inl ⟨a2, du, rfl, hb2, hdub.w, true, by rw [decide_eq_true rfl], hq⟩⟩
  have s88 : Same H8 H8 := Same.refl _
  refine rd_seq ?_
  refine rd_ifSame (fun Q' hq => ?_) fun H89 s89' => ?_
  · walk_at "w"
    by_cases h0 : ((cf r.2 : Nat) : Int) = 0
    · refine rd_dT h0 ?_
      obtain ⟨dm, sm, rm, pm, km, lm, ym, em⟩ := bookIns (hm8.kp (kp_same s88))
      have e0 : args = [] := List.eq_nil_of_length_eq_zero (by rw [hargs.1]; omega)
      have hDx := s88 _ _ hD8
      walk_at "w"
      refine ⟨m, dm, _, rfl, em, rfl, ?_⟩
      walk_at "w"
      have st := fun Q' => stp H8 Q' s88
      rw [e0] at st
      refine st _ fun x H' s' hx => ?_
      walk_at "w"
      exact neq H' x _ (s88.trans s') hx ⟨_, rfl, hq _ s'⟩
    · refine rd_dF h0 ?_
      exact hq _ (Same.refl _)
  have s89 := s88.trans s89'
  refine rd_seq ?_
  refine rd_ifSame (fun Q' hq => ?_) fun H90 s90' => ?_
  · walk_at "w"
    by_cases h0 : ((cf r.2 : Nat) : Int) = 1
    · refine rd_dT h0 ?_
      obtain ⟨dm, sm, rm, pm, km, lm, ym, em⟩ := bookIns (hm8.kp (kp_same s89))
      obtain ⟨y0, e0⟩ : ∃ y0, args = [y0] := List.length_eq_one_iff.mp (by rw [hargs.1]; omega)
      have hDx := s89 _ _ hD8
      walk_at "w"
      refine ⟨m, dm, _, rfl, em, rfl, ?_⟩
      walk_at "w"
      refine rd_ixL (SqL.of hDx) (v := y0) (by rw [e0]; rfl) ?_
      walk_at "w"
      have st := fun Q' => stp H89 Q' s89
      rw [e0] at st
      refine st _ fun x H' s' hx => ?_
      walk_at "w"
      exact neq H' x _ (s89.trans s') hx ⟨_, rfl, hq _ s'⟩
    · refine rd_dF h0 ?_
      exact hq _ (Same.refl _)
  have s90 := s89.trans s90'
  refine rd_seq ?_
  refine rd_ifSame (fun Q' hq => ?_) fun H91 s91' => ?_
  · walk_at "w"
    by_cases h0 : ((cf r.2 : Nat) : Int) = 2
    · refine rd_dT h0 ?_
      obtain ⟨dm, sm, rm, pm, km, lm, ym, em⟩ := bookIns (hm8.kp (kp_same s90))
      obtain ⟨y0, y1, e0⟩ : ∃ y0 y1, args = [y0, y1] := len_two (by rw [hargs.1]; omega)
      have hDx := s90 _ _ hD8
      walk_at "w"
      refine ⟨m, dm, _, rfl, em, rfl, ?_⟩
      walk_at "w"
      refine rd_ixL (SqL.of hDx) (v := y0) (by rw [e0]; rfl) ?_
      walk_at "w"
      refine rd_ixL (SqL.of hDx) (v := y1) (by rw [e0]; rfl) ?_
      walk_at "w"
      have st := fun Q' => stp H90 Q' s90
      rw [e0] at st
      refine st _ fun x H' s' hx => ?_
      walk_at "w"
      exact neq H' x _ (s90.trans s') hx ⟨_, rfl, hq _ s'⟩
    · refine rd_dF h0 ?_
      exact hq _ (Same.refl _)
  have s91 := s90.trans s91'
  have fA : FrD d H H91 := f02.trans (FrD.of (s25.trans (s6.trans (s68.trans s91))))
  have hd91 := hd2.same (s25.trans (s6.trans (s68.trans s91)))
  have kA := fA.kpD hd
  have nbd : b ≠ d := fun z => by subst z; obtain ⟨g, b, c, q⟩ := hd; rw [hb0] at q; cases q
  have hdu9 := hdu6.kp (kp_same (s68.trans s91))
  walk_at "w"
  refine ⟨due, du, rfl, hdu9, by omega, by omega, fun ln H10 nds s10 hln hnds => ?_⟩
  have hnl : nds.length = size du := by rw [hnds.len, List.length_map, nodes_length]
  walk_at "w"
  refine rd_len (.inl (SqL.of hln)) ?_
  walk_at "w"
  have hdp : 1 ≤ size du := by have := dep_size du; have := dep_pos du; omega
  have hd10 := hd91.same s10
  refine ⟨d, nds.length, rfl, hd10, by omega, by omega, fun q H11 f11 hd11 hq => ?_⟩
  have fB : FrD d H H11 := (fA.trans (FrD.of s10)).trans f11
  have f9B : FrD d H91 H11 := (FrD.of s10).trans f11
  walk_at "w"
  refine ⟨b, _, rfl, lb_symbols (fB _ _ nbd hb0), ?_⟩
  walk_at "w"
  refine ⟨small (by simp), fun e he => ?_⟩
  have se := same_new he (.lst [V.str "_"])
  walk_at "w"
  refine ⟨d, sd, e, S, ["_"], 1, 4, rfl, hd11.same se, (hsy.fr hd fB).same se, upd_same, hd11.ne he, lvs_u, by decide, by decide, by decide, by decide, fun y H12 u f12 hd12 hy hug huz hud => ?_⟩
  have f9C : FrD d H91 H12 := f9B.trans ((FrD.of se).trans f12)
  walk_at "w"
  refine ⟨due, du, q, y, u, rfl, hdu9.kp (f9C.kpD hd91), hy, by omega, by omega, by omega, fun near H13 s13 hnear => ?_⟩
  obtain ⟨hng, hnz, hnd⟩ := near_all hS hdg hdz hdd (q := q) (by omega) hug huz hud
  generalize put du q u = nr at *
  walk_at "w"
  refine ⟨small (by simp), fun l4 hl4 => ?_⟩
  have s14 := same_new hl4 (.lst [due, near, tv, sk])
  have g4 : upd H13 l4 (.lst [due, near, tv, sk]) l4 = some (.lst [due, near, tv, sk]) := upd_same
  generalize upd H13 l4 (.lst [due, near, tv, sk]) = H14 at *
  have f9D : FrD d H91 H14 := f9C.trans (FrD.of (s13.trans s14))
  have k9D := f9D.kpD hd91
  have hd14 := (hd12.same s13).same s14
  have fD : FrD d H H14 := fA.trans f9D
  have kD := fD.kpD hd
  have k8D : Kp H8 H14 := (kp_same s91).trans k9D
  have hfour : ∀ (j : Nat) x, [due, near, tv, sk][j]? = some x → ∃ o, Tp K H14 x (tmD o) ∧ TmG S LL o ∧ size o ≤ 40 ∧ dep o ≤ 30 := fun j x hx => by
    match j, hx with
    | 0, hx => cases hx; exact ⟨du, hdu9.kp k9D, hdg, by omega, by omega⟩
    | 1, hx => cases hx; exact ⟨nr, hnear.kp (kp_same s14), hng, hnz, by omega⟩
    | 2, hx => cases hx; exact ⟨t, ht.kp kD, htg.ll hL, by omega, by omega⟩
    | 3, hx => cases hx; exact ⟨r.2, hsk.kp kD, hrk.g2.ll lvs_u, by omega, by have := hrk.d2; omega⟩
    | j + 4, hx => cases hx
  have ha1D := ha1.kp k8D
  have hmD := hm8.kp k8D
  refine rd_oneLst (SqL.of g4) ?_
  refine fo_it (walk_list (xs := [due, near, tv, sk])) (fun i' σ H' => ∃ x10 x15, σ = [some (.ref d), some (.ref b), some (.ref m), some tv, some (vI p), some (vI i), some sk, some (vI (cf r.2)), some (.ref D), some near, x10, some due, some (.ref D2), some (.ref a1), some (.ref a2), x15, none, none] ∧ Same H14 H') ⟨_, _, rfl, Same.refl _⟩ (fun i σ H' _ ⟨_, _, _, s⟩ => SqL.of (s _ _ g4)) ?_ ?_
  · rintro j x σ H16 H15 hj ⟨x10, x15, rfl, s15⟩ ⟨rfl, hx⟩
    obtain ⟨o, ho, hog, hoz, hod⟩ := hfour j x hx
    have hob := hog.b hS lvs_2 hoz
    walk_at "w"
    have hm15 := hmD.kp (kp_same s15)
    have ha15 := ha1D.kp (kp_same s15)
    obtain ⟨dm, sm, rm, pm, km, lm, ym, em⟩ := bookIns hm15
    refine ⟨m, dm, _, rfl, em, rfl, ?_⟩
    walk_at "w"
    refine ⟨x, o, rfl, ho.kp (kp_same s15), hob.w, fun c1 H16 s16 hc1 => ?_⟩
    walk_at "w"
    have k16 := kp_same s16
    refine ⟨m, a1, S, R, t, p, s0, i, r, c1, o, rfl, hm15.kp k16, hbk, ha15.kp k16, htb, hat, hri, hfit, hc1, hob, fun bo H17 hbo s17 => ?_⟩
    walk_at "w"
    have sE := s15.trans (s16.trans s17)
    have kE := kD.trans (kp_same sE)
    refine ⟨tv, t, p, sk, r.2, x, o, rfl, ht.kp kE, hsk.kp kE, ho.kp (kp_same sE), by omega, by omega, hoz, fun n hn => (htb.w.nd n hn).ok, fun n hn => (hob.w.nd n hn).ok, by omega, hod, hat.lt, fun bo2 H18 hbo2 s18 => ?_⟩
    have e : bo = bo2 := by
      rw [Bool.eq_iff_iff, hbo, hbo2]
      exact bh_lb hob.w hat.lt
    subst e
    refine rd_neB ⟨_, rfl, ?_⟩
    refine rd_bF (by rw [decide_eq_true rfl]; rfl) ?_
    walk_at "w"
    exact ⟨_, _, rfl, sE.trans s18⟩
  · rintro σ H15 ⟨x10, x15, rfl, s15⟩
    walk_at "w"
    exact k H15 (fD.trans (FrD.of s15)) (hd14.same s15)
end
end FN
set_option maxHeartbeats 4000000
namespace FN
open PySem PySem.Spec PyProof.Rows L2
local macro_rules | `(tactic| walk_at "w") => `(tactic| repeat (with_reducible first
  | refine rd_seq ?_
  | refine rd_asg ?_
  | refine rd_name ?_
  | refine rd_ret ?_
  | refine rd_drop ?_
  | refine rd_if ?_
  | refine rd_next ?_
  | refine rd_var (by k_dflt rfl) ?_
  | refine rd_c ?_
  | refine rd_op ?_
  | refine rd_un ?_
  | refine rd_test ?_
  | refine rd_B ?_
  | refine rd_I0 ?_
  | refine rd_U ?_
  | refine rd_eqI ?_
  | refine rd_neI ?_
  | refine rd_eqS ?_
  | refine rd_neS ?_
  | refine rd_and ?_
  | refine rd_or ?_
  | refine rd_not ?_
  | refine rd_andV ?_
  | refine rd_orV ?_
  | refine rd_notV ?_
  | refine rd_ife ?_
  | refine rd_chain ?_
  | refine rd_exb ?_
  | refine rd_exi ?_
  | refine rd_nil ?_
  | refine rd_cons ?_
  | refine rd_CB ?_
  | refine rd_G ?_
  | refine rd_fld ?_
  | refine rd_sl ?_
  | refine rd_part ?_
  | refine rd_noPart ?_
  | refine rd_leaf ?_
  | refine rd_tup ?_
  | refine rd_lst ?_
  | refine rd_star ?_
  | refine rd_bm ?_
  | refine rd_bm0 ?_
  | refine rd_gsub ?_
  | refine rd_rev ?_
  | refine rd_gnil ?_
  | refine rd_gcons ?_
  | refine rd_yes ?_
  | refine rd_abs ?_
  | refine rd_max2 ?_
  | refine rd_min2 ?_
  | refine rd_int1 ?_
  | refine rd_int1b ?_
  | refine rd_inSign ?_
  | refine rd_niSign ?_
  | refine rd_isN ?_
  | refine rd_ntN ?_
  | refine rd_dcLst ?_
  | refine rd_dcTup ?_
  | refine rd_dcItems ?_
  | refine rd_lcTup ?_
  | refine rd_lcLst ?_
  | refine rd_lcStr ?_
  | refine rd_lcR1 ?_
  | refine rd_lcR2 ?_
  | refine rd_lcKeys ?_
  | refine rd_lcVals ?_
  | refine rd_lcItems ?_
  | refine rd_lcZip ?_
  | refine rd_forTup ?_
  | refine rd_forLst ?_
  | refine rd_forR1 ?_
  | refine rd_forR2 ?_
  | refine rd_forR3 ?_
  | refine rd_forZip ?_
  | refine rd_forItems ?_
  | refine rd_lcEnumT ?_
  | refine rd_forEnumT ?_
  | refine rd_oneStr ?_
  | refine rd_mkR ?_
  | refine rd_mk0 ?_
  | refine rd_mR ?_
  | refine rd_mN ?_
  | refine rd_pr ?_
  | refine rd_cmR ?_
  | refine rd_makeC ?_
  | refine rd_tM1 ?_
  | refine rd_fmtT ?_
  | refine ⟨rd_exs, ?_⟩
  | refine rd_listZip ?_
  | refine rd_lenSetS ?_
  | refine rd_sfld ?_
  | refine rd_jc ?_
  | refine rd_jn ?_
  | refine rd_par ?_
  | refine rd_par3 ?_
  | refine rd_dupd ?_
  | refine rd_disp ?_
  | refine rd_pc ?_
  | refine rd_pn ?_
  | refine rd_dni ?_
  | refine rd_dget ?_
  | refine rd_dget2 ?_
  | refine rd_dput ?_
  | refine rd_T ?_
  | refine rd_F ?_
  | refine rd_nT ?_
  | refine rd_nF ?_))
section
variable {X : Cx}
/-- repr of data -/
def rReprD (K : PySem.W.Frag) : List V → Hp → VK → Prop := fun xs H Q => ∃ a d, xs = [.ref a] ∧ Dp K H (.ref a) d ∧ d.showable = true ∧ d.hasDict = false ∧ d.shown.length ≤ sizeLine ∧ d.depth ≤ 20 ∧ Q (.str d.shown) H
theorem c_reprD (hc : X.calm = true) (hu : X.A.units + 65 < cLine) (hg : X.A.guards = some []) : CallR X (.builtin "repr") (rReprD X.K) := by
  intro pins s σ H xs us Q I r q
  obtain ⟨a, d, rfl, hd, hs, hn, hz, hdp, q⟩ := q
  obtain ⟨u, eu, rx⟩ := vals1 r
  subst eu
  obtain ⟨as, rd⟩ := Dp.reads I d _ u hd rx
  cases (show u = Value.ref a from rx)
  refine repr_of_reads' rd hs (PyData.noDict_hsm hn) hg (by omega) (fun _ _ e => e) (fun h' u tk hk => ⟨.str d.shown, H, I.kept hk, ⟨_, rfl⟩, q⟩) hz
end
end FN
set_option maxHeartbeats 4000000
namespace FN
open PySem PySem.Spec PyProof.Rows L2
local macro_rules | `(tactic| walk_at "w") => `(tactic| repeat (with_reducible first
  | refine rd_seq ?_
  | refine rd_asg ?_
  | refine rd_name ?_
  | refine rd_ret ?_
  | refine rd_drop ?_
  | refine rd_if ?_
  | refine rd_next ?_
  | refine rd_var (by k_dflt rfl) ?_
  | refine rd_c ?_
  | refine rd_op ?_
  | refine rd_un ?_
  | refine rd_test ?_
  | refine rd_B ?_
  | refine rd_I0 ?_
  | refine rd_U ?_
  | refine rd_eqI ?_
  | refine rd_neI ?_
  | refine rd_eqS ?_
  | refine rd_neS ?_
  | refine rd_and ?_
  | refine rd_or ?_
  | refine rd_not ?_
  | refine rd_andV ?_
  | refine rd_orV ?_
  | refine rd_notV ?_
  | refine rd_ife ?_
  | refine rd_chain ?_
  | refine rd_exb ?_
  | refine rd_exi ?_
  | refine rd_nil ?_
  | refine rd_cons ?_
  | refine rd_CB ?_
  | refine rd_G ?_
  | refine rd_fld ?_
  | refine rd_sl ?_
  | refine rd_part ?_
  | refine rd_noPart ?_
  | refine rd_leaf ?_
  | refine rd_tup ?_
  | refine rd_lst ?_
  | refine rd_star ?_
  | refine rd_bm ?_
  | refine rd_bm0 ?_
  | refine rd_gsub ?_
  | refine rd_rev ?_
  | refine rd_gnil ?_
  | refine rd_gcons ?_
  | refine rd_yes ?_
  | refine rd_abs ?_
  | refine rd_max2 ?_
  | refine rd_min2 ?_
  | refine rd_int1 ?_
  | refine rd_int1b ?_
  | refine rd_inSign ?_
  | refine rd_niSign ?_
  | refine rd_isN ?_
  | refine rd_ntN ?_
  | refine rd_dcLst ?_
  | refine rd_dcTup ?_
  | refine rd_dcItems ?_
  | refine rd_lcTup ?_
  | refine rd_lcLst ?_
  | refine rd_lcStr ?_
  | refine rd_lcR1 ?_
  | refine rd_lcR2 ?_
  | refine rd_lcKeys ?_
  | refine rd_lcVals ?_
  | refine rd_lcItems ?_
  | refine rd_lcZip ?_
  | refine rd_forTup ?_
  | refine rd_forLst ?_
  | refine rd_forR1 ?_
  | refine rd_forR2 ?_
  | refine rd_forR3 ?_
  | refine rd_forZip ?_
  | refine rd_forItems ?_
  | refine rd_lcEnumT ?_
  | refine rd_forEnumT ?_
  | refine rd_oneStr ?_
  | refine rd_mkR ?_
  | refine rd_mk0 ?_
  | refine rd_mR ?_
  | refine rd_mN ?_
  | refine rd_pr ?_
  | refine rd_cmR ?_
  | refine rd_makeC ?_
  | refine rd_tM1 ?_
  | refine rd_fmtT ?_
  | refine ⟨rd_exs, ?_⟩
  | refine rd_listZip ?_
  | refine rd_lenSetS ?_
  | refine rd_sfld ?_
  | refine rd_jc ?_
  | refine rd_jn ?_
  | refine rd_par ?_
  | refine rd_par3 ?_
  | refine rd_dupd ?_
  | refine rd_disp ?_
  | refine rd_pc ?_
  | refine rd_pn ?_
  | refine rd_dni ?_
  | refine rd_dget ?_
  | refine rd_dget2 ?_
  | refine rd_dput ?_
  | refine rd_T ?_
  | refine rd_F ?_
  | refine rd_nT ?_
  | refine rd_nF ?_))
/-! a def that asks what is under repr: nothing -/
section
variable {P : Program} {w : World} {K : PySem.W.Frag} {mg : Str → Option Value} {base : Heap} {k : Nat} {sp : Sp}
/-- a function's promise, kept where no container is under repr -/
structure FnG (P : Program) (w : World) (K : PySem.W.Frag) (mg : Str → Option Value) (base : Heap) (k : Nat) (f : Addr) (fd : FuncData) (ps : List Str) (sp : Sp) : Prop where
  len : ∀ vs H Q E, sp vs H Q E → vs.length = ps.length
  run : ∀ (A : Around) (outer : List Env) (s : Shared) (H : Hp) (args : Args) (us : List Value) (vs : List V) (Q : VK) (E : XK), A.guards = some [] → Room k A → Env0 P w K mg base A outer s H → BindsTo s fd args (ps.zip us) → Vals vs us → sp vs H Q E →
    codeAny (model P w) A (.call (.ref f) args) (CR CX0 outer P w H s Q E) s
theorem FnG.mono {j : Nat} {f : Addr} {fd : FuncData} {ps : List Str} (F : FnG P w K mg base j f fd ps sp) (h : j ≤ k) : FnG P w K mg base k f fd ps sp :=
  ⟨F.len, fun A outer s H args us vs Q E hg hr => F.run A outer s H args us vs Q E hg (hr.mono h)⟩
/-- such a def of the top -/
structure GfG (P : Program) (w : World) (K : PySem.W.Frag) (mg : Str → Option Value) (base : Heap) (x : Str) (k : Nat) (sp : Sp) : Prop where
  ex : ∃ f fd ps, FnG P w K mg base k f fd ps sp ∧ Binds K fd ps [] ∧ mg x = some (.ref f) ∧ PySem.W.keepIn K (.ref f) = true
theorem FnG.of {x q : Str} {pr : Arguments} {body : List Stmt} {sc : Scope} {dvs : List V} {kws : List (Str × V)} {N ps : List Str} {f : Addr} {fd : FuncData} (D : FunD K x q pr body sc dvs kws f fd) (S : FnScope N ps sc) (len : ∀ vs H Q E, sp vs H Q E → vs.length = ps.length)
    (hbody : ∀ (cdv : Value) (A : Around) (outer : List Env) (s : Shared) (H : Hp) (vs : List V) (Q : VK) (E : XK), A.guards = some [] → Room k (A.deeper (envOfC q sc s.heap.objs.size f cdv)) → sp vs H Q E →
      ∃ t, PSs (cxOf CX0 P w K mg base N q sc f cdv A outer s H E) body t ∧ t { nx := fun _ H' => Q .non H', rt := Q } (start N vs) H) : FnG P w K mg base (k + 1) f fd ps sp := by
  obtain ⟨oc, od, dV, kV, doc, pm, an, cdv, ct, osl, rfl, lk, hcd, _, _⟩ := D.ex
  refine ⟨len, fun A outer s H args us vs Q E hg hr e0 hb r hsp => ?_⟩
  have hl := len _ _ _ _ hsp
  have KX : K.In s.heap := e0.mod.kin.keeps fun b o e => (e0.bs b o e).1
  have kd : ∀ y ∈ ps.zip us, sc.names.lookup y.1 = some .local ∨ (sc.names.lookup y.1 = some .cell ∧ ((cellsFrom (s.heap.objs.size + 1) sc.names []).lookup y.1).isSome = true) := fun y hy => by
    rcases S.par y.1 (List.of_mem_zip hy).1 with z | z
    · exact .inl z
    · exact .inr ⟨z, PySem.W.cellsFrom_some _ _ _ (.inl z)⟩
  refine codeAny_call_function hr.depth (KX _ _ lk) rfl S.co S.gen rfl (PySem.W.codeRec_of KX hcd) (hb _ _ _ _ ?_)
  refine wpAny_newFunctionEnv_cells S.kind kd fun env he s1 x => ?_
  subst he
  refine ⟨(e0.mod.nolimit.keeps fun b o e => (e0.bs b o e).1).keeps x.toInCall.keep, codeAny_func ?_⟩
  obtain ⟨t, ht, z⟩ := hbody cdv A outer s H vs Q E hg (hr.deeper _) hsp
  have I : Inv (cxOf CX0 P w K mg base N q sc f cdv A outer s H E) [] (start N vs) H s1 := inv_start S hr.hd e0 hl r x
  refine wpAny_mono (ht.run [] s1 (start N vs) H _ I z) (fun fl s' hs => ?_) fun e s' hs => hs
  cases fl with
  | ret u =>
    obtain ⟨v, σ', H', J, rv, z⟩ := hs
    exact ⟨v, H', J.os, J.bare, J.base, J.hok, rv, z⟩
  | next =>
    obtain ⟨σ', H', J, z⟩ := hs
    exact ⟨V.non, H', J.os, J.bare, J.base, J.hok, rfl, z⟩
  | brk => obtain ⟨_, _, _, z⟩ := hs; exact z.elim
  | cont => obtain ⟨_, _, _, z⟩ := hs; exact z.elim
end
section
variable {X : Cx} {k : Nat} {x : Str} {sp : Sp} {e : Expr} {es : List Expr} {t : TA} {p pos : Pos}
/-- its call from a def that knows as much -/
theorem pe_gG (G : GfG X.prog X.w X.K X.mg X.base x k sp) (hr : Room k X.A) (hu : X.A.guards = some []) (ha : PA X (e :: es) t) (hg : Gl X x := by rfl) (hdb : (x == ("__debug__" : Str)) = false := by decide)
    (he : starEach (e :: es) X.env = (false, eval e X.env) :: starEach es X.env := by rfl) (hpl : (backTo pos (starEach es X.env)).any (·.1) = false := by rfl) : PE X (.Call (.Name x p) (e :: es) [] pos) (tG sp t) := by
  obtain ⟨f, fd, ps, F, hb, hm, hk⟩ := G
  refine ⟨fun pins s σ H Q I h => ?_⟩
  refine wpAny_Call_Name_kw (ld_glob I hg hm ?_ hdb)
  refine PySem.W.callWith_K (h₀ := X.base) I.ok.mod.kin hk (thn (ha.run pos pins s σ H _ I h) fun us s1 ⟨vs, H1, I1, r, q⟩ => ⟨I1.kIn, ?_⟩) he hpl
  have hl : (us ++ []).length = ps.length := by rw [List.append_nil, ← r.length]; exact F.len _ _ _ _ q
  refine wpAny_call (codeAny_mono (F.run X.A X.stack s1 H1 ⟨us, []⟩ (us ++ []) vs Q E0 hu hr I1.env0 (hb s1 us I1.kIn hl) (by rw [List.append_nil]; exact r) q) fun r s' hq => ?_)
  cases r with
  | error e => exact pass0 pins σ H1 s1 e s' I1 hq
  | ok fl =>
    cases fl with
    | ret u => exact I1.after hq
    | next => exact hq.elim
    | brk => exact hq.elim
    | cont => exact hq.elim
end
end FN
set_option maxHeartbeats 4000000
namespace FN
open PySem PySem.Spec PyProof.Rows L2
local macro_rules | `(tactic| walk_at "w") => `(tactic| repeat (with_reducible first
  | refine rd_seq ?_
  | refine rd_asg ?_
  | refine rd_name ?_
  | refine rd_ret ?_
  | refine rd_drop ?_
  | refine rd_if ?_
  | refine rd_next ?_
  | refine rd_var (by k_dflt rfl) ?_
  | refine rd_c ?_
  | refine rd_op ?_
  | refine rd_un ?_
  | refine rd_test ?_
  | refine rd_B ?_
  | refine rd_I0 ?_
  | refine rd_U ?_
  | refine rd_eqI ?_
  | refine rd_neI ?_
  | refine rd_eqS ?_
  | refine rd_neS ?_
  | refine rd_and ?_
  | refine rd_or ?_
  | refine rd_not ?_
  | refine rd_andV ?_
  | refine rd_orV ?_
  | refine rd_notV ?_
  | refine rd_ife ?_
  | refine rd_chain ?_
  | refine rd_exb ?_
  | refine rd_exi ?_
  | refine rd_nil ?_
  | refine rd_cons ?_
  | refine rd_CB ?_
  | refine rd_G ?_
  | refine rd_fld ?_
  | refine rd_sl ?_
  | refine rd_part ?_
  | refine rd_noPart ?_
  | refine rd_leaf ?_
  | refine rd_tup ?_
  | refine rd_lst ?_
  | refine rd_star ?_
  | refine rd_bm ?_
  | refine rd_bm0 ?_
  | refine rd_gsub ?_
  | refine rd_rev ?_
  | refine rd_gnil ?_
  | refine rd_gcons ?_
  | refine rd_yes ?_
  | refine rd_abs ?_
  | refine rd_max2 ?_
  | refine rd_min2 ?_
  | refine rd_int1 ?_
  | refine rd_int1b ?_
  | refine rd_inSign ?_
  | refine rd_niSign ?_
  | refine rd_isN ?_
  | refine rd_ntN ?_
  | refine rd_dcLst ?_
  | refine rd_dcTup ?_
  | refine rd_dcItems ?_
  | refine rd_lcTup ?_
  | refine rd_lcLst ?_
  | refine rd_lcStr ?_
  | refine rd_lcR1 ?_
  | refine rd_lcR2 ?_
  | refine rd_lcKeys ?_
  | refine rd_lcVals ?_
  | refine rd_lcItems ?_
  | refine rd_lcZip ?_
  | refine rd_forTup ?_
  | refine rd_forLst ?_
  | refine rd_forR1 ?_
  | refine rd_forR2 ?_
  | refine rd_forR3 ?_
  | refine rd_forZip ?_
  | refine rd_forItems ?_
  | refine rd_lcEnumT ?_
  | refine rd_forEnumT ?_
  | refine rd_oneStr ?_
  | refine rd_mkR ?_
  | refine rd_mk0 ?_
  | refine rd_mR ?_
  | refine rd_mN ?_
  | refine rd_pr ?_
  | refine rd_cmR ?_
  | refine rd_makeC ?_
  | refine rd_tM1 ?_
  | refine rd_fmtT ?_
  | refine ⟨rd_exs, ?_⟩
  | refine rd_listZip ?_
  | refine rd_lenSetS ?_
  | refine rd_sfld ?_
  | refine rd_jc ?_
  | refine rd_jn ?_
  | refine rd_par ?_
  | refine rd_par3 ?_
  | refine rd_dupd ?_
  | refine rd_disp ?_
  | refine rd_pc ?_
  | refine rd_pn ?_
  | refine rd_dni ?_
  | refine rd_dget ?_
  | refine rd_dget2 ?_
  | refine rd_dput ?_
  | refine rd_T ?_
  | refine rd_F ?_
  | refine rd_nT ?_
  | refine rd_nF ?_))
/-! the places, one at a time -/
theorem rat_mem {s : Tm} : ∀ (R : List (Tm × Tm)) (p i : Nat), i ∈ rat s p R → ∃ r, p ≤ i ∧ R[i - p]? = some r ∧ fits s r.1 = true
  | [], p, i, h => by rw [rat] at h; cases h
  | r :: R, p, i, h => by
    rw [rat] at h
    have key : i ∈ rat s (p + 1) R → ∃ r', p ≤ i ∧ (r :: R)[i - p]? = some r' ∧ fits s r'.1 = true := fun h => by
      obtain ⟨r', h1, h2, h3⟩ := rat_mem R (p + 1) i h
      refine ⟨r', by omega, ?_, h3⟩
      rw [show i - p = (i - (p + 1)) + 1 by omega, List.getElem?_cons_succ]
      exact h2
    split at h
    · rename_i hf
      rcases List.mem_cons.mp h with e | h
      · subst e
        exact ⟨r, Nat.le_refl _, by rw [Nat.sub_self]; rfl, hf⟩
      · exact key h
    · exact key h
theorem rdxL_mem {R : List (Tm × Tm)} : ∀ (L : List Tm) (p i : Nat), i ∈ rdxL R p L → ∃ s, p ≤ i ∧ L[i - p]? = some s
  | [], p, i, h => by rw [rdxL] at h; cases h
  | s :: L, p, i, h => by
    rw [rdxL] at h
    have key : i ∈ rdxL R (p + 1) L → ∃ s', p ≤ i ∧ (s :: L)[i - p]? = some s' := fun h => by
      obtain ⟨r', h1, h2⟩ := rdxL_mem L (p + 1) i h
      refine ⟨r', by omega, ?_⟩
      rw [show i - p = (i - (p + 1)) + 1 by omega, List.getElem?_cons_succ]
      exact h2
    split at h
    · exact key h
    · rcases List.mem_cons.mp h with e | h
      · subst e
        exact ⟨s, Nat.le_refl _, by rw [Nat.sub_self]; rfl⟩
      · exact key h
theorem rdxL_len {R : List (Tm × Tm)} : ∀ (L : List Tm) (p : Nat), (rdxL R p L).length ≤ L.length
  | [], p => by rw [rdxL]; exact Nat.le_refl _
  | s :: L, p => by
    have := rdxL_len (R := R) L (p + 1)
    rw [rdxL]
    split
    · rw [List.length_cons]; omega
    · rw [List.length_cons, List.length_cons]; omega
theorem rdx_at {R : List (Tm × Tm)} {t : Tm} {p : Nat} (h : p ∈ rdx R t) : ∃ s, At t p s := by
  obtain ⟨s, _, h2⟩ := rdxL_mem _ _ _ h
  exact ⟨s, at_of_part h2⟩
theorem rdx_len {R : List (Tm × Tm)} {t : Tm} : (rdx R t).length ≤ size t := by
  have := rdxL_len (R := R) (parts t) 0
  rw [parts_length] at this
  exact this
theorem lz_len (w : Str) : ∀ (p : Nat) (ns : List Nd), (lz w p ns).length ≤ ns.length
  | p, [] => by rw [lz]; exact Nat.le_refl _
  | p, n :: ns => by
    have := lz_len w (p + 1) ns
    rw [lz]
    split <;> simp <;> omega
/-! what is told of redexes and result -/
def resD (ns : List Nat) (b : Bool) : PyData := .list [intsD ns, .bool b]
theorem shown_small : ∀ n : Nat, n < 64 → (PyData.shown (iD n)).length ≤ 2 ∧ PyData.showable (iD n) = true := by decide +kernel
theorem resD_ok {ns : List Nat} {b : Bool} (h : ∀ n ∈ ns, n < 64) (hl : ns.length ≤ 64) : (resD ns b).showable = true ∧ (resD ns b).hasDict = false ∧ (resD ns b).shown.length ≤ sizeLine ∧ (resD ns b).depth ≤ 20 := by
  have h1 : ∀ ns : List Nat, (∀ n ∈ ns, n < 64) → PyData.showableAll (ns.map iD) = true ∧ PyData.hasDictAll (ns.map iD) = false ∧ (((PyData.shownAll (ns.map iD)).map (·.length)).sum ≤ 2 * ns.length) ∧ (PyData.shownAll (ns.map iD)).length = ns.length ∧ PyData.depthAll (ns.map iD) ≤ 1 := by
    intro ns
    induction ns with
    | nil => intro _; exact ⟨rfl, rfl, Nat.le_refl _, rfl, by simp [PyData.depthAll]⟩
    | cons n r ih =>
      intro h
      obtain ⟨i1, i2, i3, i4, i5⟩ := ih fun m hm => h m (List.mem_cons_of_mem _ hm)
      obtain ⟨s1, s2⟩ := shown_small n (h n List.mem_cons_self)
      refine ⟨?_, ?_, ?_, ?_, ?_⟩
      · rw [List.map_cons, PyData.showableAll, s2, i1]; rfl
      · rw [List.map_cons, PyData.hasDictAll, i2]; rfl
      · rw [List.map_cons, PyData.shownAll, List.map_cons, List.sum_cons, List.length_cons]; omega
      · rw [List.map_cons, PyData.shownAll, List.length_cons, List.length_cons, i4]
      · rw [List.map_cons]
        have e : (iD n).depth ≤ 1 := by simp only [iD, PyData.depth]; omega
        simp only [PyData.depthAll]
        omega
  obtain ⟨i1, i2, i3, i4, i5⟩ := h1 ns h
  have hs := tupleText_len_le (PyData.shownAll (ns.map iD))
  refine ⟨?_, ?_, ?_, ?_⟩
  · simp only [resD, intsD, PyData.showable, PyData.showableAll, i1]; rfl
  · simp only [resD, intsD, PyData.hasDict, PyData.hasDictAll, i2]; rfl
  · have hb : (PyData.shown (.bool b)).length ≤ 5 := by cases b <;> decide
    have ht := listText_len_le [PyData.shown (intsD ns), PyData.shown (.bool b)]
    have e1 : PyData.shown (intsD ns) = tupleText (PyData.shownAll (ns.map iD)) := by simp only [intsD, PyData.shown]
    have e2 : PyData.shown (resD ns b) = listText [PyData.shown (intsD ns), PyData.shown (.bool b)] := by simp only [resD, PyData.shown, PyData.shownAll]
    rw [e2]
    rw [e1] at ht ⊢
    simp only [List.map_cons, List.map_nil, List.sum_cons, List.sum_nil, List.length_cons, List.length_nil] at ht
    have : sizeLine = 16777216 := rfl
    omega
  · simp only [resD, intsD, PyData.depth, PyData.depthAll]
    omega
section
variable {P : Program} {w : World} {K : PySem.W.Frag} {mg : Str → Option Value} {base : Heap} {C : Ad}
theorem GD.okG {x : Str} {st : Stmt} {N ps : List Str} {k : Nat} {sp : Sp} (D : GD K mg x st ps) (S : FnScope N ps (defScope st)) (len : ∀ vs H Q E, sp vs H Q E → vs.length = ps.length)
    (hbody : ∀ (f : Addr) (cdv : Value) (A : Around) (outer : List Env) (s : Shared) (H : Hp) (vs : List V) (Q : VK) (E : XK), A.guards = some [] → Room k (A.deeper (envOfC x (defScope st) s.heap.objs.size f cdv)) → sp vs H Q E →
      ∃ t, PSs (cxOf CX0 P w K mg base N x (defScope st) f cdv A outer s H E).nox (defBody st) t ∧ t { nx := fun _ H' => Q .non H', rt := Q } (start N vs) H) : GfG P w K mg base x (k + 1) sp := by
  obtain ⟨f, fd, F, hm, hb⟩ := D
  refine ⟨f, fd, ps, FnG.of F S len fun cdv A outer s H vs Q E hg hr h => ?_, hb, hm, F.kp⟩
  obtain ⟨t, ht, q⟩ := hbody f cdv A outer s H vs Q E hg hr h
  exact ⟨t, PSs.nox ht, q⟩
theorem dp_res {H : Hp} {l q : Addr} {ns : List Nat} {b : Bool} (hl : SqL K H l [.ref q, .bl b]) (hq : SqT K H q (ns.map vI)) : Dp K H (.ref l) (resD ns b) :=
  .lst hl (.cons (tp_ints hq).dp (.cons (.bl b) .nil))
def sp_law_right : Sp := fun vs H Q _ => ∃ d : Addr, vs = [.ref d] ∧ Dice H d ∧ ∀ H', FrD d H H' → Q (.bl true) H'
theorem ok_law_right (T : Ty K mg C) : GfG P w K mg base "_law_right" 86 sp_law_right := by
  have G__law_book := ok_law_book (P := P) (w := w) (base := base) T
  have G__law_made := ok_law_made (P := P) (w := w) (base := base) T
  have G__law_pick := ok_law_pick (P := P) (w := w) (base := base) T
  have G__law_small_term := ok_small_term (P := P) (w := w) (base := base) T
  have G__law_redexes := ok_law_redexes (P := P) (w := w) (base := base) T
  have G__law_made_term := ok_made_term (P := P) (w := w) (base := base) T
  have G__law_leaves := ok_law_leaves (P := P) (w := w) (base := base) T
  have G_Book_redexes := (ok_Bredexes (P := P) (w := w) (base := base) T).rf
  have G_Book_is_result := (ok_Bresult (P := P) (w := w) (base := base) T).rf
  have G_Book_rules_at := (ok_Brules_at (P := P) (w := w) (base := base) T).rf
  have G__law_parts := ok_law_parts (P := P) (w := w) (base := base) T 40
  have G__law_rules_at := ok_law_rules_at (P := P) (w := w) (base := base) T
  have G__law_some := ok_law_some (P := P) (w := w) (base := base) T
  have G__law_steps_right := ok_law_steps (P := P) (w := w) (base := base) T
  refine T.d__law_right.okG sc__law_right (fun vs H Q E h => ?_) (fun f cdv A outer s H vs Q E hg hr h => ?_)
  · obtain ⟨d, rfl, _⟩ := h
    rfl
  obtain ⟨d, rfl, hd, k⟩ := h
  refine ⟨_, (pss_cons (ps_set (i := 1) sc__law_right.nd rfl (Or.inl rfl) (pe_g G__law_book (hr.mono (by decide)) (pa_cons (pv 0) pa_nil)))
    (pss_cons (ps_set (i := 2) sc__law_right.nd rfl (Or.inl rfl) (pe_g G__law_made (hr.mono (by decide)) (pa_cons (pv 1) pa_nil)))
    (pss_cons (ps_for PassesOwn.never rfl (pi_range1 rfl T.f_range (pa_cons pe_int pa_nil)) (pg_name (i := 3) sc__law_right.nd rfl (Or.inl rfl)) (pss_cons (ps_set (i := 4) sc__law_right.nd rfl (Or.inl rfl) (pe_g G__law_pick (hr.mono (by decide)) (pa_cons (pv 0) (pa_cons (pe_lst (pa_cons (pe_lst pa_nil) (pa_cons (pe_lst (pa_cons pe_str pa_nil)) (pa_cons (pe_lst (pa_cons pe_str (pa_cons pe_str pa_nil))) pa_nil)))) pa_nil))))
      (pss_cons (ps_set (i := 5) sc__law_right.nd rfl (Or.inl rfl) (pe_g G__law_small_term (hr.mono (by decide)) (pa_cons (pv 0) (pa_cons (pe_dget (hu1 hr) (pv 1) pe_str (fun _ _ => rfl)) (pa_cons (pv 4) (pa_cons pe_int (pa_cons pe_int pa_nil)))))))
      (pss_cons (ps_par rfl sc__law_right.nd (i := 9) (j := 10) rfl rfl (by decide) rfl rfl (pa_cons (pe_g G__law_redexes (hr.mono (by decide)) (pa_cons (pv 1) (pa_cons (pv 5) pa_nil))) (pa_cons (pe_g G__law_made_term (hr.mono (by decide)) (pa_cons (pv 5) pa_nil)) pa_nil)) (by rfl))
      (pss_cons (ps_set (i := 6) sc__law_right.nd rfl (Or.inl rfl) (pe_cmpR (op_eqD hr.units) (pe_op op_cat (pe_g G__law_leaves (hr.mono (by decide)) (pa_cons (pv 5) (pa_cons pe_str pa_nil))) (pe_g G__law_leaves (hr.mono (by decide)) (pa_cons (pv 5) (pa_cons pe_str pa_nil)))) (pe_lst pa_nil) (nomark _)))
      (pss_cons (ps_if (pt_cmpR op_ne (pe_callB (c_reprD rfl (hu65 hr) hg) rfl T.f_repr (by decide +kernel) (pa_cons (pe_lst (pa_cons (pe_m G_Book_redexes T.cl_b (pv 2) (hr.mono (by decide)) (pa_cons (pv 10) pa_nil)) (pa_cons (pe_m G_Book_is_result T.cl_b (pv 2) (hr.mono (by decide)) (pa_cons (pv 10) pa_nil)) pa_nil))) pa_nil)) (pe_callB (c_reprD rfl (hu65 hr) hg) rfl T.f_repr (by decide +kernel) (pa_cons (pe_lst (pa_cons (pe_callTy c_tupS rfl T.f_tuple (by decide +kernel) (pa_cons (pv 9) pa_nil)) (pa_cons (pe_and (pv 6) (pe_one (pe_cmpR (op_eqD hr.units) (pv 9) (pe_lst pa_nil) (nomark _)))) pa_nil))) pa_nil)) (nomark _)) (pss_one (ps_ret pe_bl)) pss_nil)
      (pss_cons (ps_set (i := 7) sc__law_right.nd rfl (Or.inl rfl) (pe_g G__law_parts (hr.mono (by decide)) (pa_cons (pv 5) pa_nil)))
      (pss_cons (ps_for PassesOwn.never rfl (pi_range1 rfl T.f_range (pa_cons (pe_callB c_lenS rfl T.f_len PySem.boot_len (pa_cons (pv 7) pa_nil)) pa_nil)) (pg_name (i := 8) sc__law_right.nd rfl (Or.inl rfl)) (pss_one (ps_if (pt_cmpR (op_neD hr.units) (pe_m G_Book_rules_at T.cl_b (pv 2) (hr.mono (by decide)) (pa_cons (pv 10) (pa_cons (pv 8) pa_nil))) (pe_callTy c_tupS rfl T.f_tuple (by decide +kernel) (pa_cons (pe_g G__law_rules_at (hr.mono (by decide)) (pa_cons (pv 1) (pa_cons (pe_ix ix_list (pv 7) (pv 8) (fun _ _ => rfl)) pa_nil))) pa_nil)) (nomark _)) (pss_one (ps_ret pe_bl)) pss_nil)))
      (pss_one (ps_for PassesOwn.never rfl (pi_list (pe_g G__law_some (hr.mono (by decide)) (pa_cons (pv 0) (pa_cons (pv 9) (pa_cons pe_int pa_nil))))) (pg_name (i := 8) sc__law_right.nd rfl (Or.inl rfl)) (pss_one (ps_for PassesOwn.never rfl (pi_list (pe_g G__law_rules_at (hr.mono (by decide)) (pa_cons (pv 1) (pa_cons (pe_ix ix_list (pv 7) (pv 8) (fun _ _ => rfl)) pa_nil)))) (pg_name (i := 11) sc__law_right.nd rfl (Or.inl rfl)) (pss_one (ps_if (pt_not (pt_val (pe_g G__law_steps_right (hr.mono (by decide)) (pa_cons (pv 0) (pa_cons (pv 1) (pa_cons (pv 2) (pa_cons (pv 5) (pa_cons (pv 8) (pa_cons (pv 11) pa_nil))))))))) (pss_one (ps_ret pe_bl)) pss_nil))))))))))))))
    (pss_one (ps_ret pe_bl))))), ?_⟩
  try dsimp only [nox_K]
  refine rd_st (σ' := [some (.ref d), none, none, none, none, none, none, none, none, none, none, none]) rfl ?_
  walk_at "w"
  refine ⟨d, rfl, hd, fun b H1 S R f1 hd1 hb hRs => ?_⟩
  walk_at "w"
  refine ⟨b, S, R, rfl, hb, hRs, fun m H2 s2 hm => ?_⟩
  have hb := hb.same s2
  have hd2 := hd1.same s2
  have hS := sets_sg S hRs.st
  have hbk := hRs.book
  walk_at "w"
  refine ⟨_, rfl, by decide, by decide, ?_⟩
  rw [show (5 : Int).toNat = 5 from rfl]
  refine fo_it walk_range (fun i σ H' => ∃ x3 x4 x5 x6 x7 x8 x9 x10 x11, σ = [some (.ref d), some (.ref b), some (.ref m), x3, x4, x5, x6, x7, x8, x9, x10, x11] ∧ FrD d H2 H' ∧ Dice H' d) ⟨_, _, _, _, _, _, _, _, _, rfl, FrD.refl _ _, hd2⟩ (fun _ _ _ _ _ => trivial) ?_ ?_
  · rintro i x σ H4 H3 hi ⟨x3, x4, x5, x6, x7, x8, x9, x10, x11, rfl, f3, hd3⟩ ⟨rfl, rfl⟩
    have ei : (0 : Int) + (i : Nat) = ((i : Nat) : Int) := by omega
    dsimp only
    rw [ei]
    have hb3 := hb.fr hd2 f3
    have hm3 := hm.kp (f3.kpD hd2)
    walk_at "w"
    refine ⟨small (by simp), fun e1 he1 => ?_⟩
    have s1' := same_new he1 (.lst [])
    have g1 : upd H3 e1 (.lst []) e1 = some (.lst []) := upd_same
    generalize upd H3 e1 (.lst []) = H5 at *
    walk_at "w"
    refine ⟨small (by simp), fun e2 he2 => ?_⟩
    have s2' := same_new he2 (.lst [V.str "_"])
    have g2 : upd H5 e2 (.lst [V.str "_"]) e2 = some (.lst [V.str "_"]) := upd_same
    generalize upd H5 e2 (.lst [V.str "_"]) = H6 at *
    walk_at "w"
    refine ⟨small (by simp), fun e3 he3 => ?_⟩
    have s3' := same_new he3 (.lst [V.str "_", V.str "#"])
    have g3 : upd H6 e3 (.lst [V.str "_", V.str "#"]) e3 = some (.lst [V.str "_", V.str "#"]) := upd_same
    generalize upd H6 e3 (.lst [V.str "_", V.str "#"]) = H7 at *
    walk_at "w"
    refine ⟨small (by simp), fun l hl => ?_⟩
    have s4' := same_new hl (.lst [.ref e1, .ref e2, .ref e3])
    have g4 : upd H7 l (.lst [.ref e1, .ref e2, .ref e3]) l = some (.lst [.ref e1, .ref e2, .ref e3]) := upd_same
    generalize upd H7 l (.lst [.ref e1, .ref e2, .ref e3]) = H8 at *
    have hd5 := hd3.same s1'
    have hd6 := hd5.same s2'
    have hd7 := hd6.same s3'
    have hd8 := hd7.same s4'
    have s38 : Same H3 H8 := s1'.trans (s2'.trans (s3'.trans s4'))
    walk_at "w"
    refine ⟨d, l, _, rfl, hd8, g4, hd7.ne hl, by simp, by simp, fun r y H9 f9 hd9 hy => ?_⟩
    obtain ⟨lv, L, rfl, hL, hlv, hlvd⟩ : ∃ lv L, y = .ref lv ∧ Lvs L ∧ H9 lv = some (.lst (L.map V.str)) ∧ lv ≠ d := by
      match r, hy with
      | 0, hy => cases hy; exact ⟨e1, [], rfl, lvs_0, f9 _ _ (hd3.ne he1) (s4' _ _ (s3' _ _ (s2' _ _ g1))), hd3.ne he1⟩
      | 1, hy => cases hy; exact ⟨e2, ["_"], rfl, lvs_u, f9 _ _ (hd5.ne he2) (s4' _ _ (s3' _ _ g2)), hd5.ne he2⟩
      | 2, hy => cases hy; exact ⟨e3, LL, rfl, lvs_2, f9 _ _ (hd6.ne he3) (s4' _ _ g3), hd6.ne he3⟩
      | r + 3, hy => cases hy
    have hb9 := (hb3.same s38).fr hd8 f9
    have hb9' := hb9
    obtain ⟨sd, rl, xs, hb0, hsd, hrl, hxs⟩ := hb9'
    have hsy : Sy H9 sd S := ⟨hsd, hS⟩
    have f39 : FrD d H3 H9 := (FrD.of s38).trans f9
    walk_at "w"
    refine ⟨b, _, rfl, lb_symbols hb0, ?_⟩
    walk_at "w"
    refine ⟨d, sd, lv, S, L, 3, 16, rfl, hd9, hsy, hlv, hlvd, hL, by decide, by decide, by decide, by decide, fun y H10 t f10 hd10 hy htg htz htd => ?_⟩
    have hb10 := hb9.fr hd9 f10
    have htb : TmB S t := htg.b hS hL (by omega)
    have hRz : ∀ r ∈ R, size r.1 ≤ 40 := fun r hr' => by have := (pats_fact _ (hRs.ok r hr').pat).1; omega
    have hRl : R.length ≤ 6 := by have := hRs.len; omega
    have f310 : FrD d H3 H10 := f39.trans f10
    have hm10 := hm3.kp (f310.kpD hd3)
    walk_at "w"
    refine ⟨b, y, S, R, t, rfl, hb10, hy, hRl, hRz, by omega, fun ql H11 s11 hql => ?_⟩
    walk_at "w"
    refine ⟨y, t, rfl, hy.kp (kp_same s11), htb.w, fun a H12 s12 ha => ?_⟩
    have s1012 := s11.trans s12
    have hy12 := hy.kp (kp_same s1012)
    have hwok : Wok (nodes t) := fun n hn => (htb.w.nd n hn).ok
    walk_at "w"
    refine ⟨_, _, rfl, ?_⟩
    walk_at "w"
    refine ⟨y, t, "_", rfl, hy12, by omega, hwok, by decide +kernel, fun p1 H13 s13 hp1 => ?_⟩
    walk_at "w"
    refine ⟨y, t, "#", rfl, hy12.kp (kp_same s13), by omega, hwok, by decide +kernel, fun p2 H14 s14 hp2 => ?_⟩
    walk_at "w"
    have b1 := lz_len "_" 0 (nodes t)
    have b2 := lz_len "#" 0 (nodes t)
    rw [nodes_length] at b1 b2
    refine rd_cat (s14 _ _ hp1) hp2 (small (by rw [List.length_map, List.length_map]; omega)) fun p3 hp3 => ?_
    have s15 := same_new hp3 (.lst ((lz "_" 0 (nodes t)).map vI ++ (lz "#" 0 (nodes t)).map vI))
    have g3 : upd H14 p3 (.lst ((lz "_" 0 (nodes t)).map vI ++ (lz "#" 0 (nodes t)).map vI)) p3 = some (.lst (((lz "_" 0 (nodes t) ++ lz "#" 0 (nodes t)).map Int.ofNat).map V.int)) := by
      rw [upd_same, ← map_vI, List.map_append]
    generalize upd H14 p3 (.lst ((lz "_" 0 (nodes t)).map vI ++ (lz "#" 0 (nodes t)).map vI)) = H15 at *
    walk_at "w"
    refine ⟨small (by simp), fun p4 hp4 => ?_⟩
    have s16 := same_new hp4 (.lst [])
    have g16 : upd H15 p4 (.lst []) p4 = some (.lst []) := upd_same
    generalize upd H15 p4 (.lst []) = H16 at *
    walk_at "w"
    refine rd_eqLn (SqL.of (s16 _ _ g3)) (SqL.of g16) ?_
    rw [show decide ((lz "_" 0 (nodes t) ++ lz "#" 0 (nodes t)).map Int.ofNat = []) = gr t by
      rw [Bool.eq_iff_iff, decide_eq_true_iff, gr_iff htb.w.nd, List.map_eq_nil_iff, List.append_eq_nil_iff]]
    have s1216 : Same H12 H16 := s13.trans (s14.trans (s15.trans s16))
    have f316 : FrD d H3 H16 := f310.trans (FrD.of (s1012.trans s1216))
    have hm16 := hm3.kp (f316.kpD hd3)
    have ha16 := ha.kp (kp_same s1216)
    have hql16 := s1216 _ _ (s12 _ _ hql)
    have hrn : ∀ n ∈ rdx R t, n < 64 := fun n hn => by
      obtain ⟨s0, h0⟩ := rdx_at hn
      have := h0.lt
      omega
    have hrl' := rdx_len (R := R) (t := t)
    refine rd_seq ?_
    refine rd_ifSame (fun Q' hq => ?_) fun H20 s20 => ?_
    · walk_at "w"
      obtain ⟨dm, sm, rm, pm, km, lm, ym, em⟩ := bookIns hm16
      refine ⟨m, dm, _, rfl, em, rfl, ?_⟩
      walk_at "w"
      refine ⟨m, a, S, R, t, rfl, hm16, hbk, ha16, htb, fun q1 H17 s17 hq1 => ?_⟩
      walk_at "w"
      refine ⟨m, dm, _, rfl, s17 _ _ em, rfl, ?_⟩
      walk_at "w"
      refine ⟨m, a, S, R, t, rfl, hm16.kp (kp_same s17), hbk, ha16.kp (kp_same s17), htb, fun H18 s18 => ?_⟩
      walk_at "w"
      refine ⟨small (by simp), fun l1 hl1 => ?_⟩
      have s19 := same_new hl1 (.lst [.ref q1, .bl (gr t && decide (rdx R t = []))])
      have g19 : upd H18 l1 (.lst [.ref q1, .bl (gr t && decide (rdx R t = []))]) l1 = some (.lst [.ref q1, .bl (gr t && decide (rdx R t = []))]) := upd_same
      generalize upd H18 l1 (.lst [.ref q1, .bl (gr t && decide (rdx R t = []))]) = H19 at *
      walk_at "w"
      obtain ⟨o1, o2, o3, o4⟩ := resD_ok (b := gr t && decide (rdx R t = [])) hrn (by omega)
      refine ⟨l1, _, rfl, dp_res (SqL.of g19) (sqT_kp (kp_same (s18.trans s19)) hq1), o1, o2, o3, o4, ?_⟩
      have s1619 : Same H16 H19 := s17.trans (s18.trans s19)
      walk_at "w"
      refine rd_tupS (SqL.of (s1619 _ _ hql16)) fun q2 hq2 => ?_
      have s20 := same_new hq2 (.tup ((rdx R t).map vI))
      have g20 : upd H19 q2 (.tup ((rdx R t).map vI)) q2 = some (.tup ((rdx R t).map vI)) := upd_same
      generalize upd H19 q2 (.tup ((rdx R t).map vI)) = H20 at *
      have last : ∀ (H21 : Hp), Same H20 H21 → (∀ l2, H21 l2 = none → rReprD K [.ref l2] (upd H21 l2 (.lst [.ref q2, .bl (gr t && decide (rdx R t = []))])) fun y H' => rNe (.str (resD (rdx R t) (gr t && decide (rdx R t = []))).shown) y H' fun v H'' => ∃ c, v = .bl c ∧ Q' c H'') := fun H21 s21 l2 hl2 => by
        have s22 := same_new hl2 (.lst [.ref q2, .bl (gr t && decide (rdx R t = []))])
        refine ⟨l2, _, rfl, dp_res (SqL.of upd_same) (sqT_of (s22 _ _ (s21 _ _ g20))), o1, o2, o3, o4, ?_⟩
        refine rd_neS ⟨_, rfl, ?_⟩
        rw [decide_eq_true rfl]
        exact hq _ (s1619.trans (s20.trans (s21.trans s22)))
      walk_at "w"
      cases hgt : gr t with
      | false =>
        refine rd_F ?_
        rw [hgt] at last
        walk_at "w"
        exact ⟨small (by simp), fun l2 hl2 => last _ (Same.refl _) l2 hl2⟩
      | true =>
        refine rd_T ?_
        rw [hgt] at last
        walk_at "w"
        refine ⟨small (by simp), fun p5 hp5 => ?_⟩
        have s21 := same_new hp5 (.lst [])
        walk_at "w"
        refine rd_eqLn (is := (rdx R t).map Int.ofNat) (SqL.of (by rw [← map_vI]; exact s21 _ _ (s20 _ _ (s1619 _ _ hql16)))) (SqL.of upd_same) ?_
        rw [show decide ((rdx R t).map Int.ofNat = []) = (true && decide (rdx R t = [])) by simp]
        walk_at "w"
        exact ⟨small (by simp), fun l2 hl2 => last _ s21 l2 hl2⟩
    have f320 : FrD d H3 H20 := f316.trans (FrD.of s20)
    have hm20 := hm16.kp (kp_same s20)
    have ha20 := ha16.kp (kp_same s20)
    have hql20 := s20 _ _ hql16
    have s1020 : Same H10 H20 := s1012.trans (s1216.trans s20)
    have hb20 := hb10.same s1020
    have hd20 := hd10.same s1020
    have hy20 := hy.kp (kp_same s1020)
    walk_at "w"
    refine ⟨y, t, rfl, hy20, by omega, by omega, fun rw' H21 ys s21 hrw hys => ?_⟩
    have hyl : ys.length = size t := by rw [hys.len, List.length_map, parts_length]
    have hyp : ∀ {p : Nat} {s : Tm}, At t p s → ∃ v, ys[p]? = some v ∧ Tp K H21 v (tmD s) := fun h => hys.get (by rw [List.getElem?_map, h.part]; rfl)
    walk_at "w"
    refine rd_len (.inl (SqL.of hrw)) ?_
    walk_at "w"
    refine ⟨_, rfl, by omega, by omega, ?_⟩
    rw [show ((ys.length : Nat) : Int).toNat = ys.length by omega]
    refine fo_it walk_range (fun j σ H' => ∃ x8, σ = [some (.ref d), some (.ref b), some (.ref m), some (vI i), some (.ref lv), some y, some (.bl (gr t)), some (.ref rw'), x8, some (.ref ql), some (.ref a), x11] ∧ Same H21 H') ⟨_, rfl, Same.refl _⟩ (fun _ _ _ _ _ => trivial) ?_ ?_
    · rintro p x σ H23 H22 hp ⟨x8, rfl, s22⟩ ⟨rfl, rfl⟩
      have ep : (0 : Int) + (p : Nat) = ((p : Nat) : Int) := by omega
      dsimp only
      rw [ep]
      obtain ⟨s0, hat⟩ := at_of (t := t) (k := p) (by omega)
      obtain ⟨v0, hv0, hv0t⟩ := hyp hat
      have hm22 := hm20.kp (kp_same (s21.trans s22))
      obtain ⟨dm, sm, rm, pm, km, lm, ym, em⟩ := bookIns hm22
      walk_at "w"
      refine ⟨m, dm, _, rfl, em, rfl, ?_⟩
      walk_at "w"
      refine ⟨m, a, S, R, t, p, s0, rfl, hm22, hbk, ha20.kp (kp_same (s21.trans s22)), htb, hat, fun q1 H23 s23 hq1 => ?_⟩
      walk_at "w"
      refine rd_ixL (SqL.of (s23 _ _ (s22 _ _ hrw))) (atI_nat hv0) ?_
      walk_at "w"
      refine ⟨b, v0, S, R, s0, rfl, hb20.same (s21.trans (s22.trans s23)), hv0t.kp (kp_same (s22.trans s23)), hRl, hRz, fun q2 H24 s24 _ hq2 => ?_⟩
      walk_at "w"
      refine rd_tupS (SqL.of hq2) fun q3 hq3 => ?_
      have s25 := same_new hq3 (.tup ((rat s0 0 R).map vI))
      have g25 : upd H24 q3 (.tup ((rat s0 0 R).map vI)) q3 = some (.tup ((rat s0 0 R).map vI)) := upd_same
      generalize upd H24 q3 (.tup ((rat s0 0 R).map vI)) = H25 at *
      refine rd_neIs (tp_ints (sqT_kp (kp_same (s24.trans s25)) hq1)) (tp_ints (sqT_of g25)) ?_
      walk_at "w"
      refine rd_ndT rfl ?_
      walk_at "w"
      exact ⟨_, rfl, s22.trans (s23.trans (s24.trans s25))⟩
    rintro σ H22 ⟨x8, rfl, s22⟩
    have s2022 := s21.trans s22
    have hb22 := hb20.same s2022
    have hd22 := hd20.same s2022
    have hm22 := hm20.kp (kp_same s2022)
    have f322 : FrD d H3 H22 := f320.trans (FrD.of s2022)
    have hy22 := hy20.kp (kp_same s2022)
    have hrw22 := s22 _ _ hrw
    walk_at "w"
    refine ⟨d, ql, 2, _, rfl, hd22, s2022 _ _ hql20, by rw [List.length_map]; omega, fun qs H23 zs ws f23 hd23 hqn hqs hperm hz1 _ => ?_⟩
    have nqs : qs ≠ d := hd22.ne hqn
    have nrw : rw' ≠ d := fun z => by
      subst z
      obtain ⟨g, b', c, q⟩ := hd22
      rw [hrw22] at q
      cases q
      obtain ⟨v0, hv0, hv0t⟩ := hyp (At.root t)
      cases hv0
      cases t
      cases hv0t
    refine rd_oneLst (SqL.of hqs) ?_
    refine fo_it (walk_list (xs := zs)) (fun j σ H' => ∃ x8 x11, σ = [some (.ref d), some (.ref b), some (.ref m), some (vI i), some (.ref lv), some y, some (.bl (gr t)), some (.ref rw'), x8, some (.ref ql), some (.ref a), x11] ∧ FrD d H23 H' ∧ Dice H' d) ⟨_, _, rfl, FrD.refl _ _, hd23⟩ (fun j σ H' _ ⟨_, _, _, f, _⟩ => SqL.of (f _ _ nqs hqs)) ?_ ?_
    · rintro j x σ H25 H24 hj ⟨x8, x11, rfl, f24, hd24⟩ ⟨rfl, hx⟩
      obtain ⟨p, hp, rfl⟩ : ∃ p ∈ rdx R t, vI p = x := List.mem_map.mp (hperm.mem_iff.mp (List.mem_append.mpr (.inl (List.mem_of_getElem? hx))))
      obtain ⟨s0, hat⟩ := rdx_at hp
      obtain ⟨v0, hv0, hv0t⟩ := hyp hat
      have f2224 : FrD d H22 H24 := f23.trans f24
      have hb24 := hb22.fr hd22 f2224
      have k2224 := f2224.kpD hd22
      walk_at "w"
      refine rd_ixL (SqL.of (f2224 _ _ nrw hrw22)) (atI_nat hv0) ?_
      walk_at "w"
      refine ⟨b, v0, S, R, s0, rfl, hb24, (hv0t.kp (kp_same s22)).kp k2224, hRl, hRz, fun q2 H25 s25 hq2n hq2 => ?_⟩
      have hd25 := hd24.same s25
      have nq2 : q2 ≠ d := hd24.ne hq2n
      refine rd_oneLst (SqL.of hq2) ?_
      refine fo_it (walk_list (xs := (rat s0 0 R).map vI)) (fun j σ H' => ∃ x11, σ = [some (.ref d), some (.ref b), some (.ref m), some (vI i), some (.ref lv), some y, some (.bl (gr t)), some (.ref rw'), some (vI p), some (.ref ql), some (.ref a), x11] ∧ FrD d H25 H' ∧ Dice H' d) ⟨_, rfl, FrD.refl _ _, hd25⟩ (fun j σ H' _ ⟨_, _, f, _⟩ => SqL.of (f _ _ nq2 hq2)) ?_ ?_
      · rintro j2 x σ H27 H26 hj2 ⟨x11, rfl, f26, hd26⟩ ⟨rfl, hx2⟩
        obtain ⟨i2, hi2, rfl⟩ : ∃ p ∈ rat s0 0 R, vI p = x := List.mem_map.mp (List.mem_of_getElem? hx2)
        obtain ⟨r, _, hri, hfit⟩ := rat_mem _ _ _ hi2
        have f2226 : FrD d H22 H26 := f2224.trans ((FrD.of s25).trans f26)
        walk_at "w"
        refine ⟨d, b, m, y, p, i2, S, R, L, t, s0, r, rfl, hd26, hb22.fr hd22 f2226, hRs, hm22.kp (f2226.kpD hd22), hy22.kp (f2226.kpD hd22), htg, hL, htz, htd, hat, hri, hfit, fun H28 f28 hd28 => ?_⟩
        refine ⟨_, rfl, ?_⟩
        refine rd_nT ?_
        walk_at "w"
        exact ⟨_, rfl, f26.trans f28, hd28⟩
      · rintro σ H26 ⟨x11, rfl, f26, hd26⟩
        walk_at "w"
        exact ⟨_, _, rfl, f24.trans ((FrD.of s25).trans f26), hd26⟩
    · rintro σ H24 ⟨x8, x11, rfl, f24, hd24⟩
      walk_at "w"
      exact ⟨_, _, _, _, _, _, _, _, _, rfl, f3.trans (f322.trans (f23.trans f24)), hd24⟩
  · rintro σ H3 ⟨x3, x4, x5, x6, x7, x8, x9, x10, x11, rfl, f3, hd3⟩
    walk_at "w"
    exact k H3 ((f1.trans (FrD.of s2)).trans f3)
end
end FN
set_option maxHeartbeats 4000000
namespace FN
open PySem PySem.Spec PyProof.Rows L2
local macro_rules | `(tactic| walk_at "w") => `(tactic| repeat (with_reducible first
  | refine rd_seq ?_
  | refine rd_asg ?_
  | refine rd_name ?_
  | refine rd_ret ?_
  | refine rd_drop ?_
  | refine rd_if ?_
  | refine rd_next ?_
  | refine rd_var (by k_dflt rfl) ?_
  | refine rd_c ?_
  | refine rd_op ?_
  | refine rd_un ?_
  | refine rd_test ?_
  | refine rd_B ?_
  | refine rd_I0 ?_
  | refine rd_U ?_
  | refine rd_eqI ?_
  | refine rd_neI ?_
  | refine rd_eqS ?_
  | refine rd_neS ?_
  | refine rd_and ?_
  | refine rd_or ?_
  | refine rd_not ?_
  | refine rd_andV ?_
  | refine rd_orV ?_
  | refine rd_notV ?_
  | refine rd_ife ?_
  | refine rd_chain ?_
  | refine rd_exb ?_
  | refine rd_exi ?_
  | refine rd_nil ?_
  | refine rd_cons ?_
  | refine rd_CB ?_
  | refine rd_G ?_
  | refine rd_fld ?_
  | refine rd_sl ?_
  | refine rd_part ?_
  | refine rd_noPart ?_
  | refine rd_leaf ?_
  | refine rd_tup ?_
  | refine rd_lst ?_
  | refine rd_star ?_
  | refine rd_bm ?_
  | refine rd_bm0 ?_
  | refine rd_gsub ?_
  | refine rd_rev ?_
  | refine rd_gnil ?_
  | refine rd_gcons ?_
  | refine rd_yes ?_
  | refine rd_abs ?_
  | refine rd_max2 ?_
  | refine rd_min2 ?_
  | refine rd_int1 ?_
  | refine rd_int1b ?_
  | refine rd_inSign ?_
  | refine rd_niSign ?_
  | refine rd_isN ?_
  | refine rd_ntN ?_
  | refine rd_dcLst ?_
  | refine rd_dcTup ?_
  | refine rd_dcItems ?_
  | refine rd_lcTup ?_
  | refine rd_lcLst ?_
  | refine rd_lcStr ?_
  | refine rd_lcR1 ?_
  | refine rd_lcR2 ?_
  | refine rd_lcKeys ?_
  | refine rd_lcVals ?_
  | refine rd_lcItems ?_
  | refine rd_lcZip ?_
  | refine rd_forTup ?_
  | refine rd_forLst ?_
  | refine rd_forR1 ?_
  | refine rd_forR2 ?_
  | refine rd_forR3 ?_
  | refine rd_forZip ?_
  | refine rd_forItems ?_
  | refine rd_lcEnumT ?_
  | refine rd_forEnumT ?_
  | refine rd_oneStr ?_
  | refine rd_mkR ?_
  | refine rd_mk0 ?_
  | refine rd_mR ?_
  | refine rd_mN ?_
  | refine rd_pr ?_
  | refine rd_cmR ?_
  | refine rd_makeC ?_
  | refine rd_tM1 ?_
  | refine rd_fmtT ?_
  | refine ⟨rd_exs, ?_⟩
  | refine rd_listZip ?_
  | refine rd_lenSetS ?_
  | refine rd_sfld ?_
  | refine rd_jc ?_
  | refine rd_jn ?_
  | refine rd_par ?_
  | refine rd_par3 ?_
  | refine rd_dupd ?_
  | refine rd_disp ?_
  | refine rd_pc ?_
  | refine rd_pn ?_
  | refine rd_dni ?_
  | refine rd_dget ?_
  | refine rd_dget2 ?_
  | refine rd_dput ?_
  | refine rd_T ?_
  | refine rd_F ?_
  | refine rd_nT ?_
  | refine rd_nF ?_))
/-! texts cut in tokens -/
theorem seq_to {a b : TS} {D : Ends} {σ σ' : L2.St} {H : Hp} (h2 : b D σ' H) (h1 : ∀ nx : L2.St → Hp → Prop, nx σ' H → a { D with nx := nx } σ H) : tSeq a b D σ H := h1 _ h2
def letters : List Nat := ("abcdefghijklmnopqrstuvwxyz" : Str).cps.toList
def signs : List Nat := ("_#()" : Str).cps.toList
def cutZ (z : Str) (i j : Nat) : Str := cutS z (some (i : Int)) (some (j : Int))
def tokN (z : Str) (i : Nat) : Nat :=
  match z.cps.toList[i]? with
  | none => 0
  | some c => if c ∈ letters then (if cutZ z (i + 1) (i + 2) = "" then 1 else match z.cps.toList[i + 1]? with
    | some d => if d ∈ letters then 0 else 1
    | none => 0) else if cutZ z i (i + 2) = ", " then 2 else if c ∈ signs then 1 else 0
def toksF (z : Str) : Nat → Nat → Option (List Str)
  | 0, i => if i < z.length then none else some []
  | f + 1, i => if i < z.length then (if tokN z i = 0 then none else (toksF z f (i + tokN z i)).map fun r => cutZ z i (i + tokN z i) :: r) else some []
theorem toksF_end {z : Str} {f i : Nat} {ts : List Str} (h : toksF z f i = some ts) (hi : ¬ i < z.length) : ts = [] := by
  cases f with
  | zero => rw [toksF, if_neg hi] at h; exact (Option.some.inj h).symm
  | succ f => rw [toksF, if_neg hi] at h; exact (Option.some.inj h).symm
theorem toksF_step {z : Str} {f i : Nat} {ts : List Str} (h : toksF z f i = some ts) (hi : i < z.length) : ∃ f' r, f = f' + 1 ∧ tokN z i ≠ 0 ∧ toksF z f' (i + tokN z i) = some r ∧ ts = cutZ z i (i + tokN z i) :: r := by
  cases f with
  | zero => rw [toksF, if_pos hi] at h; cases h
  | succ f =>
    rw [toksF, if_pos hi] at h
    split at h
    · cases h
    · rename_i hk
      obtain ⟨r, hr, e⟩ := Option.map_eq_some_iff.mp h
      exact ⟨f, r, rfl, hk, hr, e.symm⟩
theorem tokN_letter {z : Str} {i c : Nat} (hc : z.cps.toList[i]? = some c) (hL : c ∈ letters) (h : tokN z i ≠ 0) : tokN z i = 1 ∧ (cutZ z (i + 1) (i + 2) = "" ∨ (cutZ z (i + 1) (i + 2) ≠ "" ∧ ∃ d, z.cps.toList[i + 1]? = some d ∧ ¬ d ∈ letters)) := by
  unfold tokN at h ⊢
  rw [hc] at h ⊢
  dsimp only at h ⊢
  rw [if_pos hL] at h ⊢
  by_cases e : cutZ z (i + 1) (i + 2) = ""
  · rw [if_pos e]
    exact ⟨rfl, .inl e⟩
  · rw [if_neg e] at h ⊢
    cases hd : z.cps.toList[i + 1]? with
    | none => rw [hd] at h; exact absurd rfl h
    | some d =>
      rw [hd] at h
      dsimp only at h ⊢
      by_cases hl : d ∈ letters
      · rw [if_pos hl] at h; exact absurd rfl h
      · rw [if_neg hl]
        exact ⟨rfl, .inr ⟨e, d, rfl, hl⟩⟩
theorem tokN_sep {z : Str} {i c : Nat} (hc : z.cps.toList[i]? = some c) (hL : ¬ c ∈ letters) (e : cutZ z i (i + 2) = ", ") : tokN z i = 2 := by
  unfold tokN
  rw [hc]
  dsimp only
  rw [if_neg hL, if_pos e]
theorem tokN_sign {z : Str} {i c : Nat} (hc : z.cps.toList[i]? = some c) (hL : ¬ c ∈ letters) (e : cutZ z i (i + 2) ≠ ", ") (h : tokN z i ≠ 0) : tokN z i = 1 ∧ c ∈ signs := by
  unfold tokN at h ⊢
  rw [hc] at h ⊢
  dsimp only at h ⊢
  rw [if_neg hL, if_neg e] at h ⊢
  by_cases hs : c ∈ signs
  · rw [if_pos hs]; exact ⟨rfl, hs⟩
  · rw [if_neg hs] at h; exact absurd rfl h
section
variable {P : Program} {w : World} {K : PySem.W.Frag} {mg : Str → Option Value} {base : Heap} {C : Ad}
def sp_tokens : Sp := fun vs H Q _ => ∃ z f ts, vs = [.str z] ∧ z.length ≤ 1000 ∧ toksF z f 0 = some ts ∧ ts.length ≤ 1000 ∧ ∀ p H', Same H H' → H p = none → H' p = some (.lst (ts.map V.str)) → Q (.ref p) H'
theorem ok_tokens_of (T : Ty K mg C) : Gf P w K mg base "tokens_of" 1 sp_tokens := by
  refine T.d_tokens_of.ok sc_tokens_of (fun vs H Q E h => ?_) (fun f cdv A outer s H vs Q E hr h => ?_)
  · obtain ⟨z, f, ts, rfl, _⟩ := h
    rfl
  obtain ⟨z, fu, ts, rfl, hz, hts, hl, k⟩ := h
  refine ⟨_, (pss_cons (ps_set (i := 1) sc_tokens_of.nd rfl (Or.inl rfl) (pe_lst pa_nil))
    (pss_cons (ps_set (i := 2) sc_tokens_of.nd rfl (Or.inl rfl) pe_int)
    (pss_cons (ps_while PassesOwn.never (pt_cmpR op_lt (pv 2) (pe_callB c_lenZ rfl T.f_len PySem.boot_len (pa_cons (pv 0) pa_nil)) (nomark _)) (pss_cons (ps_set (i := 3) sc_tokens_of.nd rfl (Or.inl rfl) pe_int)
      (pss_cons (ps_if (pt_cmpR o_inSign (pe_ix ix_str (pv 0) (pv 2) (fun _ _ => rfl)) (pe_gS T.c_LETTERS) (by rfl)) (pss_one (ps_while PassesOwn.never (PW.pt (pw_and (pt_cmpR op_ne (pe_slice sl_str (pv 0) (po_some (pe_op op_add (pv 2) (pv 3))) (po_some (pe_op op_add (pe_op op_add (pv 2) (pv 3)) pe_int))) pe_str (nomark _)) (pw_and1 (pt_cmpR o_inSign (pe_ix ix_str (pv 0) (pe_op op_add (pv 2) (pv 3)) (fun _ _ => rfl)) (pe_gS T.c_LETTERS) (by rfl))))) (pss_one (ps_set (i := 3) sc_tokens_of.nd rfl (Or.inl rfl) (pe_op op_add (pv 3) pe_int))))) (pss_one (ps_if (pt_cmpR op_eq (pe_slice sl_str (pv 0) (po_some (pv 2)) (po_some (pe_op op_add (pv 2) pe_int))) pe_str (nomark _)) (pss_one (ps_set (i := 3) sc_tokens_of.nd rfl (Or.inl rfl) pe_int)) (pss_one (ps_if (pt_cmpR o_niSign (pe_ix ix_str (pv 0) (pv 2) (fun _ _ => rfl)) (pe_gS T.c_SIGNS) (by rfl)) (pss_one (ps_ret pe_non)) pss_nil)))))
      (pss_cons (ps_expr (pe_bm PySem.F.plainAttrs_list PySem.F.slot_list_append PySem.F.type_list_append mt_append (pv 1) (pa_cons (pe_slice sl_str (pv 0) (po_some (pv 2)) (po_some (pe_op op_add (pv 2) (pv 3)))) pa_nil)))
      (pss_one (ps_set (i := 2) sc_tokens_of.nd rfl (Or.inl rfl) (pe_op op_add (pv 2) (pv 3))))))))
    (pss_one (ps_ret (pv 1)))))), ?_⟩
  try dsimp only [nox_K]
  refine rd_st (σ' := [some (.str z), none, none, none]) rfl ?_
  walk_at "w"
  refine ⟨small (by simp), fun D hD => ?_⟩
  have sD := same_new hD (.lst [])
  walk_at "w"
  have hzs : z.length ≤ sizeLine := small (by omega)
  refine ⟨fun m σ' H' => ∃ (i : Nat) (acc r : List Str) (x3 : Option V), σ' = [some (.str z), some (.ref D), some (vI i), x3] ∧ toksF z m i = some r ∧ acc ++ r = ts ∧ Same H H' ∧ H' D = some (.lst (acc.map V.str)), ⟨fu, 0, [], ts, none, rfl, hts, rfl, sD, upd_same⟩, ?_⟩
  rintro m σ' H' ⟨i, acc, r, x3, rfl, hm, hacc, s, hD'⟩
  walk_at "w"
  refine rd_lenZ hzs ?_
  walk_at "w"
  by_cases hil : i < z.length
  · obtain ⟨f', r', rfl, hk, hr', rfl⟩ := toksF_step hm hil
    refine rd_dT (by omega) ?_
    refine ⟨fun σ' H' => ∃ (i : Nat) (acc r : List Str) (x3 : Option V), σ' = [some (.str z), some (.ref D), some (vI i), x3] ∧ toksF z f' i = some r ∧ acc ++ r = ts ∧ Same H H' ∧ H' D = some (.lst (acc.map V.str)), fun σ' H' h => ⟨f', Nat.lt_succ_self _, h⟩, ?_⟩
    have hil' : i < z.cps.toList.length := by rw [Array.length_toList]; exact hil
    obtain ⟨c, hc⟩ : ∃ c, z.cps.toList[i]? = some c := ⟨_, List.getElem?_eq_getElem hil'⟩
    refine rd_seq ?_
    refine rd_asg ?_
    refine rd_c ?_
    refine rd_name ?_
    refine seq_to (σ' := [some (.str z), some (.ref D), some (vI i), some (vI (tokN z i))]) ?_ fun nx hnx => ?_
    · walk_at "w"
      refine ⟨tyV_l (SqL.of hD'), ?_⟩
      walk_at "w"
      refine rd_slS hzs ?_
      walk_at "w"
      have hal : acc.length < 1000 := by have := congrArg List.length hacc; rw [List.length_append, List.length_cons] at this; omega
      refine rd_append hD' (small (by rw [List.length_map]; omega)) ?_
      walk_at "w"
      refine ⟨i + tokN z i, acc ++ [cutZ z i (i + tokN z i)], r', _, rfl, hr', by rw [List.append_assoc]; exact hacc, fun a o q => ?_, ?_⟩
      · rw [upd_ne (ne_of_none q hD)]
        exact s _ _ q
      · rw [upd_same, List.map_append]; rfl
    walk_at "w"
    refine rd_ixS hzs (atI_nat hc) ?_
    walk_at "w"
    by_cases hL : c ∈ letters
    · refine rd_dT (show c ∈ (Str.ofString "abcdefghijklmnopqrstuvwxyz").cps.toList from hL) ?_
      obtain ⟨h1, h2⟩ := tokN_letter hc hL hk
      rw [h1] at hnx
      walk_at "w"
      refine ⟨fun _ σ' H'' => σ' = [some (.str z), some (.ref D), some (vI i), some (vI 1)] ∧ H'' = H', ⟨0, rfl, rfl⟩, ?_⟩
      rintro m σ' H'' ⟨rfl, rfl⟩
      walk_at "w"
      refine rd_slS hzs ?_
      walk_at "w"
      rcases h2 with h2 | ⟨h2, d, hd, hdl⟩
      · refine rd_ndT h2 ?_
        exact hnx
      · refine rd_ndF h2 ?_
        walk_at "w"
        refine rd_ixS hzs (atI_nat (j := i + 1) hd) ?_
        walk_at "w"
        refine rd_dF (show ¬ d ∈ (Str.ofString "abcdefghijklmnopqrstuvwxyz").cps.toList from hdl) ?_
        exact hnx
    · refine rd_dF (show ¬ c ∈ (Str.ofString "abcdefghijklmnopqrstuvwxyz").cps.toList from hL) ?_
      walk_at "w"
      refine rd_slS hzs ?_
      walk_at "w"
      by_cases e : cutZ z i (i + 2) = ", "
      · have h1 := tokN_sep hc hL e
        rw [h1] at hnx
        refine rd_dT e ?_
        walk_at "w"
        exact hnx
      · obtain ⟨h1, h2⟩ := tokN_sign hc hL e hk
        rw [h1] at hnx
        refine rd_dF e ?_
        walk_at "w"
        refine rd_ixS hzs (atI_nat hc) ?_
        walk_at "w"
        refine rd_ndT (show c ∈ (Str.ofString "_#()").cps.toList from h2) ?_
        walk_at "w"
        exact hnx
  · obtain rfl := toksF_end hm hil
    refine rd_dF (by omega) ?_
    walk_at "w"
    rw [List.append_nil] at hacc
    subst hacc
    exact k D H' s hD hD'
end
end FN
set_option maxHeartbeats 4000000
namespace FN
open PySem PySem.Spec PyProof.Rows L2
local macro_rules | `(tactic| walk_at "w") => `(tactic| repeat (with_reducible first
  | refine rd_seq ?_
  | refine rd_asg ?_
  | refine rd_name ?_
  | refine rd_ret ?_
  | refine rd_drop ?_
  | refine rd_if ?_
  | refine rd_next ?_
  | refine rd_var (by k_dflt rfl) ?_
  | refine rd_c ?_
  | refine rd_op ?_
  | refine rd_un ?_
  | refine rd_test ?_
  | refine rd_B ?_
  | refine rd_I0 ?_
  | refine rd_U ?_
  | refine rd_eqI ?_
  | refine rd_neI ?_
  | refine rd_eqS ?_
  | refine rd_neS ?_
  | refine rd_and ?_
  | refine rd_or ?_
  | refine rd_not ?_
  | refine rd_andV ?_
  | refine rd_orV ?_
  | refine rd_notV ?_
  | refine rd_ife ?_
  | refine rd_chain ?_
  | refine rd_exb ?_
  | refine rd_exi ?_
  | refine rd_nil ?_
  | refine rd_cons ?_
  | refine rd_CB ?_
  | refine rd_G ?_
  | refine rd_fld ?_
  | refine rd_sl ?_
  | refine rd_part ?_
  | refine rd_noPart ?_
  | refine rd_leaf ?_
  | refine rd_tup ?_
  | refine rd_lst ?_
  | refine rd_star ?_
  | refine rd_bm ?_
  | refine rd_bm0 ?_
  | refine rd_gsub ?_
  | refine rd_rev ?_
  | refine rd_gnil ?_
  | refine rd_gcons ?_
  | refine rd_yes ?_
  | refine rd_abs ?_
  | refine rd_max2 ?_
  | refine rd_min2 ?_
  | refine rd_int1 ?_
  | refine rd_int1b ?_
  | refine rd_inSign ?_
  | refine rd_niSign ?_
  | refine rd_isN ?_
  | refine rd_ntN ?_
  | refine rd_dcLst ?_
  | refine rd_dcTup ?_
  | refine rd_dcItems ?_
  | refine rd_lcTup ?_
  | refine rd_lcLst ?_
  | refine rd_lcStr ?_
  | refine rd_lcR1 ?_
  | refine rd_lcR2 ?_
  | refine rd_lcKeys ?_
  | refine rd_lcVals ?_
  | refine rd_lcItems ?_
  | refine rd_lcZip ?_
  | refine rd_forTup ?_
  | refine rd_forLst ?_
  | refine rd_forR1 ?_
  | refine rd_forR2 ?_
  | refine rd_forR3 ?_
  | refine rd_forZip ?_
  | refine rd_forItems ?_
  | refine rd_lcEnumT ?_
  | refine rd_forEnumT ?_
  | refine rd_oneStr ?_
  | refine rd_mkR ?_
  | refine rd_mk0 ?_
  | refine rd_mR ?_
  | refine rd_mN ?_
  | refine rd_pr ?_
  | refine rd_cmR ?_
  | refine rd_makeC ?_
  | refine rd_tM1 ?_
  | refine rd_fmtT ?_
  | refine ⟨rd_exs, ?_⟩
  | refine rd_listZip ?_
  | refine rd_lenSetS ?_
  | refine rd_sfld ?_
  | refine rd_jc ?_
  | refine rd_jn ?_
  | refine rd_par ?_
  | refine rd_par3 ?_
  | refine rd_dupd ?_
  | refine rd_disp ?_
  | refine rd_pc ?_
  | refine rd_pn ?_
  | refine rd_dni ?_
  | refine rd_dget ?_
  | refine rd_dget2 ?_
  | refine rd_dput ?_
  | refine rd_T ?_
  | refine rd_F ?_
  | refine rd_nT ?_
  | refine rd_nF ?_))
/-! the reader -/
def rF (n o : Addr) (w : Bool) (l : Str) : List (Str × V) := [("of_nodes", .ref n), ("of_open", .ref o), ("of_wants", .bl w), ("of_last", .str l)]
structure RdR (K : PySem.W.Frag) (C : Ad) (H : Hp) (a dx n o : Addr) (xs : List V) (ns : List Nd) (op : List Nat) (w : Bool) (l : Str) : Prop where
  ob : H a = some (.ins C.r dx (rF n o w l))
  nl : H n = some (.lst xs)
  nd : Tps K H xs (ns.map ndD)
  ol : H o = some (.lst (op.map vI))
  ne : n ≠ o
def Fr3 (a n o : Addr) (H H' : Hp) : Prop := ∀ c u, c ≠ a → c ≠ n → c ≠ o → H c = some u → H' c = some u
theorem Fr3.of {a n o : Addr} {H H' : Hp} (s : Same H H') : Fr3 a n o H H' := fun c u _ _ _ h => s c u h
theorem Fr3.trans {a n o : Addr} {H H1 H2 : Hp} (x : Fr3 a n o H H1) (y : Fr3 a n o H1 H2) : Fr3 a n o H H2 := fun c u h1 h2 h3 h => y c u h1 h2 h3 (x c u h1 h2 h3 h)
theorem Fr3.a {a n o : Addr} {H : Hp} {u : HO} : Fr3 a n o H (upd H a u) := fun c v h1 _ _ h => by rw [upd_ne h1]; exact h
theorem Fr3.n {a n o : Addr} {H : Hp} {u : HO} : Fr3 a n o H (upd H n u) := fun c v _ h1 _ h => by rw [upd_ne h1]; exact h
theorem Fr3.o {a n o : Addr} {H : Hp} {u : HO} : Fr3 a n o H (upd H o u) := fun c v _ _ h1 h => by rw [upd_ne h1]; exact h
section
variable {K : PySem.W.Frag} {C : Ad} {H H' : Hp} {a dx n o : Addr} {xs : List V} {ns : List Nd} {op : List Nat} {w : Bool} {l : Str}
theorem RdR.an (R : RdR K C H a dx n o xs ns op w l) : a ≠ n := fun z => by have := R.nl; rw [← z, R.ob] at this; cases this
theorem RdR.ao (R : RdR K C H a dx n o xs ns op w l) : a ≠ o := fun z => by have := R.ol; rw [← z, R.ob] at this; cases this
theorem RdR.same (R : RdR K C H a dx n o xs ns op w l) (s : Same H H') : RdR K C H' a dx n o xs ns op w l := ⟨s _ _ R.ob, s _ _ R.nl, R.nd.kp (kp_same s), s _ _ R.ol, R.ne⟩
theorem RdR.ins (R : RdR K C H a dx n o xs ns op w l) (w' : Bool) (l' : Str) : RdR K C (upd H a (.ins C.r dx (rF n o w' l'))) a dx n o xs ns op w' l' :=
  ⟨upd_same, by rw [upd_ne R.an.symm]; exact R.nl, R.nd.kt (kt_ins R.ob), by rw [upd_ne R.ao.symm]; exact R.ol, R.ne⟩
theorem RdR.nset (R : RdR K C H a dx n o xs ns op w l) {ys : List V} {ms : List Nd} (h : Tps K H ys (ms.map ndD)) : RdR K C (upd H n (.lst ys)) a dx n o ys ms op w l :=
  ⟨by rw [upd_ne R.an]; exact R.ob, upd_same, h.kp (kp_lst R.nl), by rw [upd_ne R.ne.symm]; exact R.ol, R.ne⟩
theorem RdR.oset (R : RdR K C H a dx n o xs ns op w l) (op' : List Nat) : RdR K C (upd H o (.lst (op'.map vI))) a dx n o xs ns op' w l :=
  ⟨by rw [upd_ne R.ao]; exact R.ob, by rw [upd_ne R.ne]; exact R.nl, R.nd.kp (kp_lst R.ol), upd_same, R.ne⟩
theorem Tps.set {x : V} {d : PyData} (h : Tp K H x d) : ∀ {vs : List V} {ds : List PyData} {j : Nat}, Tps K H vs ds → Tps K H (vs.set j x) (ds.set j d)
  | _, _, j, .nil => by rw [List.set_nil, List.set_nil]; exact .nil
  | _, _, 0, .cons _ t => .cons h t
  | _, _, j + 1, .cons g t => .cons g (Tps.set h t)
theorem RdR.len (R : RdR K C H a dx n o xs ns op w l) : xs.length = ns.length := by rw [R.nd.len, List.length_map]
end
def stepR (ns : List Nd) (op : List Nat) (w : Bool) (l tok : Str) : Option (List Nd × List Nat × Bool) :=
  if tok ∈ [("(" : Str), ")", ", "] then
    if tok = "(" then (if w = false ∧ ¬ l ∈ [(")" : Str), "(", ", "] ∧ 0 < ns.length then some (ns, op ++ [ns.length - 1], true) else none)
    else if w = true then none else match op.getLast? with
      | none => none
      | some j => match ns[j]? with
        | none => none
        | some d => some (ns.set j (d.1, d.2 + 1), if tok = ", " then op else op.dropLast, decide (tok = ", "))
  else if w = true then some (ns ++ [(tok, 0)], op, false) else none
section
variable {P : Program} {w : World} {K : PySem.W.Frag} {mg : Str → Option Value} {base : Heap} {C : Ad}
def sp_rinit (K : PySem.W.Frag) (C : Ad) : Sp := fun vs H Q _ => ∃ a dx, vs = [.ref a] ∧ H a = some (.ins C.r dx []) ∧ ∀ H' n o, FrD a H H' → RdR K C H' a dx n o [] [] [] true "" → H n = none → H o = none → Q .non H'
theorem ok_rinit (T : Ty K mg C) : Ro P w K mg base (Mk K C.r) 1 (sp_rinit K C) := by
  refine T.i_r.ok sc_Reader___init__ (fun vs H Q E h => ?_) (fun f cdv A outer s H vs Q E hr h => ?_)
  · obtain ⟨a, dx, rfl, _⟩ := h
    rfl
  obtain ⟨a, dx, rfl, ha, k⟩ := h
  refine ⟨_, (pss_cons (ps_fld (pv 0) (pe_lst pa_nil) rfl)
    (pss_cons (ps_fld (pv 0) (pe_lst pa_nil) rfl)
    (pss_cons (ps_fld (pv 0) pe_bl rfl)
    (pss_one (ps_fld (pv 0) pe_str rfl))))), ?_⟩
  try dsimp only [nox_K]
  refine rd_st (σ' := [some (.ref a)]) rfl ?_
  walk_at "w"
  try refine rd_sfld ?_
  walk_at "w"
  refine ⟨small (by simp), fun n hn => ?_⟩
  walk_at "w"
  refine ⟨a, _, dx, _, rfl, same_new hn _ _ _ ha, T.cl_r, T.na_r_of_nodes, by simp, ?_⟩
  have an : a ≠ n := ne_of_none ha hn
  walk_at "w"
  try refine rd_sfld ?_
  walk_at "w"
  refine ⟨small (by simp), fun o ho => ?_⟩
  have ao : a ≠ o := fun z => by rw [← z, upd_same] at ho; cases ho
  have no : n ≠ o := fun z => by rw [← z, upd_ne an.symm, upd_same] at ho; cases ho
  have ho0 : H o = none := by rw [upd_ne ao.symm, upd_ne no.symm] at ho; exact ho
  walk_at "w"
  refine ⟨a, _, dx, [("of_nodes", .ref n)], rfl, by rw [upd_ne ao, upd_same]; rfl, T.cl_r, T.na_r_of_open, by simp, ?_⟩
  walk_at "w"
  try refine rd_sfld ?_
  walk_at "w"
  refine ⟨a, _, dx, [("of_nodes", .ref n), ("of_open", .ref o)], rfl, by rw [upd_same]; rfl, T.cl_r, T.na_r_of_wants, by simp, ?_⟩
  walk_at "w"
  try refine rd_sfld ?_
  walk_at "w"
  refine ⟨a, _, dx, [("of_nodes", .ref n), ("of_open", .ref o), ("of_wants", .bl true)], rfl, by rw [upd_same]; rfl, T.cl_r, T.na_r_of_last, by simp, ?_⟩
  walk_at "w"
  refine k _ n o ?_ ⟨upd_same, ?_, .nil, ?_, no⟩ hn ho0
  · intro c u hc hu
    rw [upd_ne hc, upd_ne hc, upd_ne hc, upd_ne (ne_of_none hu ho0), upd_ne hc, upd_ne (ne_of_none hu hn)]
    exact hu
  · rw [upd_ne an.symm, upd_ne an.symm, upd_ne an.symm, upd_ne no, upd_ne an.symm, upd_same]
  · rw [upd_ne ao.symm, upd_ne ao.symm, upd_ne ao.symm, upd_same]; rfl
def sp_take_word (K : PySem.W.Frag) (C : Ad) : Sp := fun vs H Q _ => ∃ a dx n o xs ns op l wd, vs = [.ref a, .str wd] ∧ RdR K C H a dx n o xs ns op true l ∧ ns.length ≤ 1000 ∧ ∀ H' xs', Fr3 a n o H H' → RdR K C H' a dx n o xs' (ns ++ [(wd, 0)]) op false l → Q (.bl true) H'
theorem ok_take_word (T : Ty K mg C) : Ro P w K mg base (Meth K C.r "take_word") 1 (sp_take_word K C) := by
  refine T.m_r_take_word.ok sc_Reader_take_word (fun vs H Q E h => ?_) (fun f cdv A outer s H vs Q E hr h => ?_)
  · obtain ⟨a, dx, n, o, xs, ns, op, l, wd, rfl, _⟩ := h
    rfl
  obtain ⟨a, dx, n, o, xs, ns, op, l, wd, rfl, R, hl, k⟩ := h
  refine ⟨_, (pss_cons (ps_if (pt_not (pt_val (pe_fld (pv 0) rfl))) (pss_one (ps_ret pe_bl)) pss_nil)
    (pss_cons (ps_expr (pe_bm PySem.F.plainAttrs_list PySem.F.slot_list_append PySem.F.type_list_append mt_append (pe_fld (pv 0) rfl) (pa_cons (pe_tup (pa_cons (pv 1) (pa_cons pe_int pa_nil))) pa_nil)))
    (pss_cons (ps_fld (pv 0) pe_bl rfl)
    (pss_one (ps_ret pe_bl))))), ?_⟩
  try dsimp only [nox_K]
  refine rd_st (σ' := [some (.ref a), some (.str wd)]) rfl ?_
  walk_at "w"
  refine rd_Fld R.ob T.cl_r T.na_r_of_wants rfl ?_
  walk_at "w"
  refine rd_Fld R.ob T.cl_r T.na_r_of_nodes rfl ?_
  refine ⟨tyV_l (SqL.of R.nl), ?_⟩
  walk_at "w"
  refine ⟨small (by simp), fun y hy => ?_⟩
  have sy := same_new hy (.tup [.str wd, .int 0])
  have gy : Tp K (upd H y (.tup [.str wd, .int 0])) (.ref y) (ndD (wd, 0)) := .tup (sqT_of upd_same) (.cons (.str _) (.cons (.int 0) .nil))
  have R1 := R.same sy
  generalize upd H y (.tup [.str wd, .int 0]) = H1 at *
  walk_at "w"
  have hxl := R.len
  refine rd_append R1.nl (small (by omega)) ?_
  walk_at "w"
  have R2 := R1.nset (ys := xs ++ [.ref y]) (ms := ns ++ [(wd, 0)]) (by rw [List.map_append]; exact R1.nd.app (.cons gy .nil))
  try refine rd_sfld ?_
  walk_at "w"
  refine ⟨a, _, dx, _, rfl, R2.ob, T.cl_r, T.na_r_of_wants, by simp [rF], ?_⟩
  walk_at "w"
  refine k _ _ (((Fr3.of sy).trans Fr3.n).trans Fr3.a) (R2.ins false l)
def sp_take (K : PySem.W.Frag) (C : Ad) : Sp := fun vs H Q _ => ∃ a dx n o xs ns op w l tok ns' op' w', vs = [.ref a, .str tok] ∧ RdR K C H a dx n o xs ns op w l ∧ ns.length ≤ 1000 ∧ op.length ≤ 1000 ∧ stepR ns op w l tok = some (ns', op', w') ∧ ∀ H' xs', Fr3 a n o H H' → RdR K C H' a dx n o xs' ns' op' w' tok → Q (.bl true) H'
theorem ok_take (T : Ty K mg C) : Ro P w K mg base (Meth K C.r "take") 2 (sp_take K C) := by
  have G_Reader_take_word := (ok_take_word (P := P) (w := w) (base := base) T).rf
  refine T.m_r_take.ok sc_Reader_take (fun vs H Q E h => ?_) (fun f cdv A outer s H vs Q E hr h => ?_)
  · obtain ⟨a, dx, n, o, xs, ns, op, w, l, tok, ns', op', w', rfl, _⟩ := h
    rfl
  obtain ⟨a, dx, n, o, xs, ns, op, w', l, tok, ns', op', w'', rfl, R, hl, hol, hst, k⟩ := h
  refine ⟨_, (pss_cons (ps_set (i := 2) sc_Reader_take.nd rfl (Or.inl rfl) (pe_fld (pv 0) rfl))
    (pss_cons (ps_fld (pv 0) (pv 1) rfl)
    (pss_cons (ps_if (pt_cmpR op_notIn_seq (pv 1) (pe_tup (pa_cons pe_str (pa_cons pe_str (pa_cons pe_str pa_nil)))) (by rfl)) (pss_one (ps_ret (pe_m G_Reader_take_word T.cl_r (pv 0) (hr.mono (by decide)) (pa_cons (pv 1) pa_nil)))) pss_nil)
    (pss_cons (ps_if (pt_cmpR op_eq (pv 1) pe_str (nomark _)) (pss_cons (ps_set (i := 4) sc_Reader_take.nd rfl (Or.inl rfl) (pe_and (pe_not (pe_fld (pv 0) rfl)) (pe_one (pe_cmpR op_notIn_seq (pv 2) (pe_tup (pa_cons pe_str (pa_cons pe_str (pa_cons pe_str pa_nil)))) (by rfl)))))
      (pss_cons (ps_expr (pe_bm PySem.F.plainAttrs_list PySem.F.slot_list_append PySem.F.type_list_append mt_append (pe_fld (pv 0) rfl) (pa_cons (pe_op op_sub (pe_callB c_lenS rfl T.f_len PySem.boot_len (pa_cons (pe_fld (pv 0) rfl) pa_nil)) pe_int) pa_nil)))
      (pss_cons (ps_fld (pv 0) pe_bl rfl)
      (pss_one (ps_ret (pv 4)))))) pss_nil)
    (pss_cons (ps_if (PW.pt (pw_or (pt_val (pe_fld (pv 0) rfl)) (pw_or1 (pt_cmpR (op_eqD hr.units) (pe_fld (pv 0) rfl) (pe_lst pa_nil) (nomark _))))) (pss_one (ps_ret pe_bl)) pss_nil)
    (pss_cons (ps_set (i := 3) sc_Reader_take.nd rfl (Or.inl rfl) (pe_ifExp (pt_cmpR op_eq (pv 1) pe_str (nomark _)) (pe_ix ix_list (pe_fld (pv 0) rfl) (pe_un un_neg pe_int) (fun _ _ => rfl)) (pe_bm0 PySem.F.plainAttrs_list PySem.F.slot_list_pop PySem.F.type_list_pop mt_pop (pe_fld (pv 0) rfl))))
    (pss_cons (ps_asg (pe_tup (pa_cons (pe_ix ix_tup (pe_ix ix_list (pe_fld (pv 0) rfl) (pv 3) (fun _ _ => rfl)) pe_int (fun _ _ => rfl)) (pa_cons (pe_op op_add (pe_ix ix_tup (pe_ix ix_list (pe_fld (pv 0) rfl) (pv 3) (fun _ _ => rfl)) pe_int (fun _ _ => rfl)) pe_int) pa_nil))) (pg_sub (pe_fld (pv 0) rfl) (pv 3) set_list))
    (pss_cons (ps_fld (pv 0) (pe_cmpR op_eq (pv 1) pe_str (nomark _)) rfl)
    (pss_one (ps_ret pe_bl)))))))))), ?_⟩
  try dsimp only [nox_K]
  refine rd_st (σ' := [some (.ref a), some (.str tok), none, none, none]) rfl ?_
  walk_at "w"
  refine rd_Fld R.ob T.cl_r T.na_r_of_last rfl ?_
  walk_at "w"
  try refine rd_sfld ?_
  walk_at "w"
  refine ⟨a, _, dx, _, rfl, R.ob, T.cl_r, T.na_r_of_last, by simp [rF], ?_⟩
  have R0 : RdR K C (upd H a (.ins C.r dx (putF "of_last" (.str tok) (rF n o w' l)))) a dx n o xs ns op w' tok := R.ins w' tok
  have f0 : Fr3 a n o H (upd H a (.ins C.r dx (putF "of_last" (.str tok) (rF n o w' l)))) := Fr3.a
  generalize upd H a (.ins C.r dx (putF "of_last" (.str tok) (rF n o w' l))) = H0 at *
  walk_at "w"
  refine ⟨small (by simp), fun p hp => ?_⟩
  have s1 := same_new hp (.tup [V.str "(", V.str ")", V.str ", "])
  have g1 : upd H0 p (.tup [V.str "(", V.str ")", V.str ", "]) p = some (.tup ([("(" : Str), ")", ", "].map V.str)) := upd_same
  have R1 := R0.same s1
  have f1 := f0.trans (Fr3.of s1)
  generalize upd H0 p (.tup [V.str "(", V.str ")", V.str ", "]) = H1 at *
  walk_at "w"
  refine rd_niS (.inr (sqT_of g1)) ?_
  walk_at "w"
  unfold stepR at hst
  by_cases ht : tok ∈ [("(" : Str), ")", ", "]
  · rw [if_pos ht] at hst
    refine rd_ndT ht ?_
    walk_at "w"
    by_cases hop : tok = "("
    · rw [if_pos hop] at hst
      refine rd_dT hop ?_
      split at hst
      · rename_i hc
        obtain ⟨rfl, hlast, hnl⟩ := hc
        cases hst
        walk_at "w"
        refine rd_Fld R1.ob T.cl_r T.na_r_of_wants rfl ?_
        walk_at "w"
        refine ⟨small (by simp), fun p2 hp2 => ?_⟩
        have s2 := same_new hp2 (.tup [V.str ")", V.str "(", V.str ", "])
        have g2 : upd H1 p2 (.tup [V.str ")", V.str "(", V.str ", "]) p2 = some (.tup ([(")" : Str), "(", ", "].map V.str)) := upd_same
        have R2 := R1.same s2
        have f2 := f1.trans (Fr3.of s2)
        generalize upd H1 p2 (.tup [V.str ")", V.str "(", V.str ", "]) = H2 at *
        walk_at "w"
        refine rd_niS (.inr (sqT_of g2)) ?_
        rw [decide_eq_false hlast]
        walk_at "w"
        refine rd_Fld R2.ob T.cl_r T.na_r_of_open rfl ?_
        refine ⟨tyV_l (SqL.of R2.ol), ?_⟩
        walk_at "w"
        refine rd_Fld R2.ob T.cl_r T.na_r_of_nodes rfl ?_
        walk_at "w"
        refine rd_len (.inl (SqL.of R2.nl)) ?_
        have hxl := R2.len
        walk_at "w"
        refine rd_append R2.ol (small (by rw [List.length_map]; omega)) ?_
        rw [show (op.map vI ++ [V.int ((xs.length : Nat) - 1 : Int)]) = (op ++ [ns.length - 1]).map vI by
          rw [List.map_append, hxl]
          show _ = op.map vI ++ [V.int ((ns.length - 1 : Nat) : Int)]
          rw [show ((ns.length - 1 : Nat) : Int) = (ns.length : Int) - 1 by omega]]
        have R3 := R2.oset (op ++ [ns.length - 1])
        walk_at "w"
        try refine rd_sfld ?_
        walk_at "w"
        refine ⟨a, _, dx, _, rfl, R3.ob, T.cl_r, T.na_r_of_wants, by simp [rF], ?_⟩
        walk_at "w"
        exact k _ _ ((f2.trans Fr3.o).trans Fr3.a) (R3.ins true tok)
      · cases hst
    · rw [if_neg hop] at hst
      refine rd_dF hop ?_
      walk_at "w"
      refine rd_Fld R1.ob T.cl_r T.na_r_of_wants rfl ?_
      cases w' with
      | true => rw [if_pos rfl] at hst; cases hst
      | false =>
      rw [if_neg (by decide)] at hst
      cases hlast : op.getLast? with
      | none => rw [hlast] at hst; cases hst
      | some j =>
      rw [hlast] at hst
      dsimp only at hst
      cases hnd : ns[j]? with
      | none => rw [hnd] at hst; cases hst
      | some nd0 =>
      rw [hnd] at hst
      dsimp only at hst
      cases hst
      have hjl : j < ns.length := (List.getElem?_eq_some_iff.mp hnd).1
      have hxl := R1.len
      obtain ⟨ops, rfl⟩ := List.getLast?_eq_some_iff.mp hlast
      refine ⟨_, rfl, ?_⟩
      refine rd_F ?_
      walk_at "w"
      refine rd_Fld R1.ob T.cl_r T.na_r_of_open rfl ?_
      walk_at "w"
      refine ⟨small (by simp), fun p2 hp2 => ?_⟩
      have s2 := same_new hp2 (.lst [])
      have g2 : upd H1 p2 (.lst []) p2 = some (.lst []) := upd_same
      have R2 := R1.same s2
      have f2 := f1.trans (Fr3.of s2)
      generalize upd H1 p2 (.lst []) = H2 at *
      walk_at "w"
      refine rd_eqLn (is := (ops ++ [j]).map Int.ofNat) (SqL.of (by rw [← map_vI]; exact R2.ol)) (SqL.of g2) ?_
      walk_at "w"
      refine rd_dF (by simp) ?_
      walk_at "w"
      have rest : ∀ (H3 : Hp) (op3 : List Nat), Fr3 a n o H H3 → RdR K C H3 a dx n o xs ns op3 false tok → op3 = (if tok = ", " then ops ++ [j] else (ops ++ [j]).dropLast) → tSeq (tAsg (tTup (tCons (tOp (rIxT K) (tOp (rIxL K) (tFld K (tVar 0) "of_nodes") (tVar 3)) (tC (V.int 0))) (tCons (tOp (rI0 fun i j => V.int (i + j)) (tOp (rIxT K) (tOp (rIxL K) (tFld K (tVar 0) "of_nodes") (tVar 3)) (tC (V.int 1))) (tC (V.int 1))) tNil))) (gSub (tFld K (tVar 0) "of_nodes") (tVar 3) rSetL))
          (tSeq (sFld K (tVar 0) (tOp rEq (tVar 1) (tC (V.str ", "))) "of_wants") (tRet (tC (V.bl true)))) { nx := fun x H' => Q V.non H', rt := Q } [some (.ref a), some (.str tok), some (.str l), some (vI j), none] H3 := by
        intro H3 op3 f3 R3 e3
        obtain ⟨x, hx, hxt⟩ := R3.nd.get (i := j) (d := ndD nd0) (by rw [List.getElem?_map, hnd]; rfl)
        obtain ⟨y, rfl, hy⟩ := tp_ndE hxt
        walk_at "w"
        refine rd_Fld R3.ob T.cl_r T.na_r_of_nodes rfl ?_
        walk_at "w"
        refine rd_ixL (SqL.of R3.nl) (atI_nat hx) ?_
        walk_at "w"
        refine rd_ixT hy (v := .str nd0.1) rfl ?_
        walk_at "w"
        refine rd_Fld R3.ob T.cl_r T.na_r_of_nodes rfl ?_
        walk_at "w"
        refine rd_ixL (SqL.of R3.nl) (atI_nat hx) ?_
        walk_at "w"
        refine rd_ixT hy (v := vI nd0.2) rfl ?_
        walk_at "w"
        refine ⟨small (by simp), fun q hq => ?_⟩
        have s4 := same_new hq (.tup [.str nd0.1, .int ((nd0.2 : Int) + 1)])
        have g4 : Tp K (upd H3 q (.tup [.str nd0.1, .int ((nd0.2 : Int) + 1)])) (.ref q) (ndD (nd0.1, nd0.2 + 1)) := .tup (sqT_of upd_same) (.cons (.str _) (.cons (.int _) .nil))
        have R4 := R3.same s4
        have f4 := f3.trans (Fr3.of s4)
        generalize upd H3 q (.tup [.str nd0.1, .int ((nd0.2 : Int) + 1)]) = H4 at *
        walk_at "w"
        refine rd_Fld R4.ob T.cl_r T.na_r_of_nodes rfl ?_
        walk_at "w"
        refine rd_setL R4.nl (ixN_nat (by omega)) ?_
        have R5 := R4.nset (ys := xs.set j (.ref q)) (ms := ns.set j (nd0.1, nd0.2 + 1)) (by rw [List.map_set]; exact Tps.set g4 R4.nd)
        walk_at "w"
        try refine rd_sfld ?_
        walk_at "w"
        refine ⟨a, _, dx, _, rfl, R5.ob, T.cl_r, T.na_r_of_wants, by simp [rF], ?_⟩
        walk_at "w"
        subst e3
        exact k _ _ ((f4.trans Fr3.n).trans Fr3.a) (R5.ins _ tok)
      by_cases hsep : tok = ", "
      · refine rd_dT hsep ?_
        walk_at "w"
        refine rd_Fld R2.ob T.cl_r T.na_r_of_open rfl ?_
        walk_at "w"
        refine rd_ixL (SqL.of R2.ol) (v := vI j) (atI_lastN (by simp)) ?_
        refine rd_name ?_
        exact rest _ _ f2 R2 (by rw [if_pos hsep])
      · refine rd_dF hsep ?_
        walk_at "w"
        refine rd_Fld R2.ob T.cl_r T.na_r_of_open rfl ?_
        refine ⟨tyV_l (SqL.of R2.ol), ?_⟩
        refine ⟨o, _, vI j, rfl, rfl, R2.ol, by simp, ?_⟩
        rw [show ((ops ++ [j]).map vI).dropLast = ((ops ++ [j]).dropLast).map vI by simp]
        refine rd_name ?_
        exact rest _ _ (f2.trans Fr3.o) (R2.oset _) (by rw [if_neg hsep])
  · rw [if_neg ht] at hst
    refine rd_ndF ht ?_
    walk_at "w"
    refine ⟨a, dx, _, rfl, R1.ob, rfl, ?_⟩
    walk_at "w"
    cases w' with
    | false => rw [if_neg (by decide)] at hst; cases hst
    | true =>
      rw [if_pos rfl] at hst
      cases hst
      exact ⟨a, dx, n, o, xs, ns, op, tok, tok, rfl, R1, hl, fun H' xs' f R' => k H' xs' (f1.trans f) R'⟩
end
end FN
set_option maxHeartbeats 4000000
namespace FN
open PySem PySem.Spec PyProof.Rows L2
local macro_rules | `(tactic| walk_at "w") => `(tactic| repeat (with_reducible first
  | refine rd_seq ?_
  | refine rd_asg ?_
  | refine rd_name ?_
  | refine rd_ret ?_
  | refine rd_drop ?_
  | refine rd_if ?_
  | refine rd_next ?_
  | refine rd_var (by k_dflt rfl) ?_
  | refine rd_c ?_
  | refine rd_op ?_
  | refine rd_un ?_
  | refine rd_test ?_
  | refine rd_B ?_
  | refine rd_I0 ?_
  | refine rd_U ?_
  | refine rd_eqI ?_
  | refine rd_neI ?_
  | refine rd_eqS ?_
  | refine rd_neS ?_
  | refine rd_and ?_
  | refine rd_or ?_
  | refine rd_not ?_
  | refine rd_andV ?_
  | refine rd_orV ?_
  | refine rd_notV ?_
  | refine rd_ife ?_
  | refine rd_chain ?_
  | refine rd_exb ?_
  | refine rd_exi ?_
  | refine rd_nil ?_
  | refine rd_cons ?_
  | refine rd_CB ?_
  | refine rd_G ?_
  | refine rd_fld ?_
  | refine rd_sl ?_
  | refine rd_part ?_
  | refine rd_noPart ?_
  | refine rd_leaf ?_
  | refine rd_tup ?_
  | refine rd_lst ?_
  | refine rd_star ?_
  | refine rd_bm ?_
  | refine rd_bm0 ?_
  | refine rd_gsub ?_
  | refine rd_rev ?_
  | refine rd_gnil ?_
  | refine rd_gcons ?_
  | refine rd_yes ?_
  | refine rd_abs ?_
  | refine rd_max2 ?_
  | refine rd_min2 ?_
  | refine rd_int1 ?_
  | refine rd_int1b ?_
  | refine rd_inSign ?_
  | refine rd_niSign ?_
  | refine rd_isN ?_
  | refine rd_ntN ?_
  | refine rd_dcLst ?_
  | refine rd_dcTup ?_
  | refine rd_dcItems ?_
  | refine rd_lcTup ?_
  | refine rd_lcLst ?_
  | refine rd_lcStr ?_
  | refine rd_lcR1 ?_
  | refine rd_lcR2 ?_
  | refine rd_lcKeys ?_
  | refine rd_lcVals ?_
  | refine rd_lcItems ?_
  | refine rd_lcZip ?_
  | refine rd_forTup ?_
  | refine rd_forLst ?_
  | refine rd_forR1 ?_
  | refine rd_forR2 ?_
  | refine rd_forR3 ?_
  | refine rd_forZip ?_
  | refine rd_forItems ?_
  | refine rd_lcEnumT ?_
  | refine rd_forEnumT ?_
  | refine rd_oneStr ?_
  | refine rd_mkR ?_
  | refine rd_mk0 ?_
  | refine rd_mR ?_
  | refine rd_mN ?_
  | refine rd_pr ?_
  | refine rd_cmR ?_
  | refine rd_makeC ?_
  | refine rd_tM1 ?_
  | refine rd_fmtT ?_
  | refine ⟨rd_exs, ?_⟩
  | refine rd_listZip ?_
  | refine rd_lenSetS ?_
  | refine rd_sfld ?_
  | refine rd_jc ?_
  | refine rd_jn ?_
  | refine rd_par ?_
  | refine rd_par3 ?_
  | refine rd_dupd ?_
  | refine rd_disp ?_
  | refine rd_pc ?_
  | refine rd_pn ?_
  | refine rd_dni ?_
  | refine rd_dget ?_
  | refine rd_dget2 ?_
  | refine rd_dput ?_
  | refine rd_T ?_
  | refine rd_F ?_
  | refine rd_nT ?_
  | refine rd_nF ?_))
/-! terms read -/
def readF : List Str → List Nd → List Nat → Bool → Str → Option (List Nd)
  | [], ns, op, w, _ => if w = false ∧ op = [] then some ns else none
  | t :: r, ns, op, w, l => match stepR ns op w l t with
    | none => none
    | some (ns', op', w') => readF r ns' op' w' t
theorem stepR_len {ns ns' : List Nd} {op op' : List Nat} {w w' : Bool} {l t : Str} (h : stepR ns op w l t = some (ns', op', w')) : ns'.length ≤ ns.length + 1 ∧ op'.length ≤ op.length + 1 := by
  unfold stepR at h
  split at h
  · split at h
    · split at h
      · cases h; exact ⟨by omega, by rw [List.length_append]; exact Nat.le_refl _⟩
      · cases h
    · split at h
      · cases h
      · split at h
        · cases h
        · split at h
          · cases h
          · cases h
            refine ⟨by rw [List.length_set]; omega, ?_⟩
            split
            · omega
            · rw [List.length_dropLast]; omega
  · split at h
    · cases h; exact ⟨by rw [List.length_append]; exact Nat.le_refl _, by omega⟩
    · cases h
/-- the text z is that of the term t -/
structure Reads (z : Str) (t : Tm) : Prop where
  len : z.length ≤ 1000
  ex : ∃ f ts, toksF z f 0 = some ts ∧ ts.length ≤ 100 ∧ readF ts [] [] true "" = some (nodes t)
section
variable {P : Program} {w : World} {K : PySem.W.Frag} {mg : Str → Option Value} {base : Heap} {C : Ad}
def sp_nodes_of (K : PySem.W.Frag) : Sp := fun vs H Q _ => ∃ z t, vs = [.str z] ∧ Reads z t ∧ TmW t ∧ ∀ x H', Same H H' → Tp K H' (.ref x) (nodesD (nodes t)) → Q (.ref x) H'
theorem ok_nodes_of (T : Ty K mg C) : Gf P w K mg base "nodes_of" 5 (sp_nodes_of K) := by
  have G_tokens_of := ok_tokens_of (P := P) (w := w) (base := base) T
  have G_Reader___init__ := ok_rinit (P := P) (w := w) (base := base) T
  have G_Reader_take := (ok_take (P := P) (w := w) (base := base) T).rf
  have G_is_node := ok_is_node (P := P) (w := w) (base := base) T
  have G_children_of := ok_children_of (P := P) (w := w) (base := base) T.toTx
  refine T.d_nodes_of.ok sc_nodes_of (fun vs H Q E h => ?_) (fun f cdv A outer s H vs Q E hr h => ?_)
  · obtain ⟨z, t, rfl, _⟩ := h
    rfl
  obtain ⟨z, t, rfl, ⟨hzl, fu, ts, hto, htl, hrd⟩, ht, k⟩ := h
  refine ⟨_, (pss_cons (ps_set (i := 1) sc_nodes_of.nd rfl (Or.inl rfl) (pe_ifExp (pt_val (pe_callB call_isi rfl T.f_isinstance (by decide +kernel) (pa_cons (pv 0) (pa_cons (pe_bltn (v := .ty "str") rfl T.f_str (by decide +kernel) rfl) pa_nil)))) (pe_g G_tokens_of (hr.mono (by decide)) (pa_cons (pv 0) pa_nil)) pe_non))
    (pss_cons (ps_if (pt_cmpR o_isN (pv 1) pe_non (nomark _)) (pss_one (ps_ret pe_non)) pss_nil)
    (pss_cons (ps_set (i := 2) sc_nodes_of.nd rfl (Or.inl rfl) (pe_mk0 G_Reader___init__ (hr.mono (by decide)) T.g_Reader))
    (pss_cons (ps_for PassesOwn.never rfl (pi_list (pv 1)) (pg_name (i := 3) sc_nodes_of.nd rfl (Or.inl rfl)) (pss_one (ps_if (pt_not (pt_val (pe_m G_Reader_take T.cl_r (pv 2) (hr.mono (by decide)) (pa_cons (pv 3) pa_nil)))) (pss_one (ps_ret pe_non)) pss_nil)))
    (pss_cons (ps_if (PW.pt (pw_or (pt_val (pe_fld (pv 2) rfl)) (pw_or (pt_cmpR (op_neD hr.units) (pe_fld (pv 2) rfl) (pe_lst pa_nil) (nomark _)) (pw_or1 (pt_cmpR op_gt (pe_callB c_lenS rfl T.f_len PySem.boot_len (pa_cons (pe_fld (pv 2) rfl) pa_nil)) (pe_gI T.c_MAX_NODES) (nomark _)))))) (pss_one (ps_ret pe_non)) pss_nil)
    (pss_cons (ps_set (i := 4) sc_nodes_of.nd rfl (Or.inl rfl) (pe_callTy c_tupS rfl T.f_tuple (by decide +kernel) (pa_cons (pe_fld (pv 2) rfl) pa_nil)))
    (pss_one (ps_ret (pe_ifExp (PW.pt (pw_and (pt_val (pe_callB (cr_all rfl) rfl T.f_all (by decide +kernel) (pa_cons (pe_lc (own := [("node", 5)]) rfl sc_nodes_of.nd (pi_tup (pv 4)) (blkOk_by (own := [("node", 5)]) (N := ["text", "tokens", "reader", "token", "nodes", "node"]) (sc := defScope s_nodes_of) (by decide +kernel)) (fun _ _ _ _ _ => (pg_name (i := 5) sc_nodes_of.nd rfl (Or.inl rfl))) (fun _ _ _ _ _ => pts_nil) (fun _ _ _ _ _ => (pe_g G_is_node (hr.mono (by decide)) (pa_cons (pv 5) pa_nil)))) pa_nil))) (pw_and1 (pt_cmpR o_ntN (pe_g G_children_of (hr.mono (by decide)) (pa_cons (pv 4) pa_nil)) pe_non (nomark _))))) (pv 4) pe_non))))))))), ?_⟩
  try dsimp only [nox_K]
  refine rd_st (σ' := [some (.str z), none, none, none, none, none]) rfl ?_
  walk_at "w"
  refine rd_isi_str (b := true) (by decide +kernel) ?_
  walk_at "w"
  refine ⟨z, fu, ts, rfl, hzl, hto, by omega, fun tk H1 s1 htk0 htk => ?_⟩
  walk_at "w"
  refine rd_dF (fun z => nomatch z) ?_
  walk_at "w"
  intro a dx ha hdx _
  have s2 : Same H1 (upd (upd H1 dx (.own a)) a (.ins C.r dx [])) := same_make ha hdx
  refine ⟨a, dx, rfl, upd_same, fun H2 n o f2 R hn ho => ⟨rfl, ?_⟩⟩
  have s02 : Same H1 H2 := same_made ha hdx f2
  have han : H1 a = none := ha
  have tka : tk ≠ a := ne_of_none htk ha
  have tkn : tk ≠ n := ne_of_none (s2 _ _ htk) hn
  have tko : tk ≠ o := ne_of_none (s2 _ _ htk) ho
  have fr : ∀ {H3 : Hp}, Fr3 a n o H2 H3 → Same H1 H3 := fun {H3} f c u h => f c u (ne_of_none h ha) (ne_of_none (s2 _ _ h) hn) (ne_of_none (s2 _ _ h) ho) (s02 _ _ h)
  walk_at "w"
  refine rd_oneLst (SqL.of (s02 _ _ htk)) ?_
  refine fo_it (walk_list (xs := ts.map V.str)) (fun i σ H' => ∃ xs ns op w l x3, σ = [some (.str z), some (.ref tk), some (.ref a), x3, none, none] ∧ Fr3 a n o H2 H' ∧ RdR K C H' a dx n o xs ns op w l ∧ readF (ts.drop i) ns op w l = some (nodes t) ∧ ns.length ≤ i ∧ op.length ≤ i) ⟨[], [], [], true, "", none, rfl, fun _ _ _ _ _ h => h, R, hrd, Nat.le_refl _, Nat.le_refl _⟩ (fun i σ H' _ ⟨_, _, _, _, _, _, _, f, _⟩ => SqL.of (f _ _ tka tkn tko (s02 _ _ htk))) ?_ ?_
  · rintro i x σ H4 H3 hi ⟨xs, ns, op, w', l, x3, rfl, f3, R3, hr3, hn3, ho3⟩ ⟨rfl, hx⟩
    rw [List.length_map] at hi
    have hti : ts[i]? = some ts[i] := List.getElem?_eq_getElem hi
    rw [List.getElem?_map, hti] at hx
    cases hx
    rw [List.drop_eq_getElem_cons hi, readF] at hr3
    cases hst : stepR ns op w' l ts[i] with
    | none => rw [hst] at hr3; cases hr3
    | some q =>
    obtain ⟨ns', op', w2⟩ := q
    rw [hst] at hr3
    dsimp only at hr3
    obtain ⟨l1, l2⟩ := stepR_len hst
    walk_at "w"
    refine ⟨a, dx, _, rfl, R3.ob, rfl, ?_⟩
    walk_at "w"
    refine ⟨a, dx, n, o, xs, ns, op, w', l, ts[i], ns', op', w2, rfl, R3, by omega, by omega, hst, fun H5 xs' f5 R5 => ?_⟩
    refine ⟨_, rfl, ?_⟩
    refine rd_nT ?_
    walk_at "w"
    exact ⟨xs', ns', op', w2, ts[i], _, rfl, f3.trans f5, R5, hr3, by omega, by omega⟩
  · rintro σ H3 ⟨xs, ns, op, w', l, x3, rfl, f3, R3, hr3, hn3, ho3⟩
    rw [List.length_map, List.drop_length, readF] at hr3
    split at hr3
    · rename_i hc
      obtain ⟨rfl, rfl⟩ := hc
      cases hr3
      have hxl := R3.len
      rw [nodes_length] at hxl
      have htz := ht.sz
      walk_at "w"
      refine rd_Fld R3.ob T.cl_r T.na_r_of_wants rfl ?_
      refine ⟨_, rfl, ?_⟩
      refine rd_F ?_
      walk_at "w"
      refine rd_Fld R3.ob T.cl_r T.na_r_of_open rfl ?_
      walk_at "w"
      refine ⟨small (by simp), fun p2 hp2 => ?_⟩
      have s4 := same_new hp2 (.lst [])
      have g4 : upd H3 p2 (.lst []) p2 = some (.lst []) := upd_same
      have R4 := R3.same s4
      have f4 := f3.trans (Fr3.of s4)
      generalize upd H3 p2 (.lst []) = H4 at *
      walk_at "w"
      refine rd_neLn (is := []) (SqL.of R4.ol) (SqL.of g4) ?_
      walk_at "w"
      refine rd_ndT rfl ?_
      walk_at "w"
      refine rd_Fld R4.ob T.cl_r T.na_r_of_nodes rfl ?_
      walk_at "w"
      refine rd_len (.inl (SqL.of R4.nl)) ?_
      walk_at "w"
      refine rd_dF (by omega) ?_
      walk_at "w"
      refine rd_Fld R4.ob T.cl_r T.na_r_of_nodes rfl ?_
      walk_at "w"
      refine rd_tupS (SqL.of R4.nl) fun q hq => ?_
      have s5 := same_new hq (.tup xs)
      have g5 : upd H4 q (.tup xs) q = some (.tup xs) := upd_same
      have R5 := R4.same s5
      have sF : Same H (upd H4 q (.tup xs)) := s1.trans (fr (f4.trans (Fr3.of s5)))
      have hv : Tp K (upd H4 q (.tup xs)) (.ref q) (nodesD (nodes t)) := .tup (sqT_of g5) R5.nd
      generalize upd H4 q (.tup xs) = H5 at *
      walk_at "w"
      refine rd_oneTup (sqT_of g5) fun D hD => ?_
      refine lc_map walk_tup (fun _ y _ => y = .bl true) (by omega) hD nok (fun H' s => sqT_of (s _ _ g5)) ?_ ?_
      · rintro i acc x H6 H7 hi hl s6 hD' r ⟨rfl, hx1⟩
        obtain ⟨n1, na, hn1, rfl, hna⟩ := tps_get_nd (R5.nd.kp (kp_same s6)) hx1
        walk_at "w"
        refine ⟨rfl, ?_⟩
        walk_at "w"
        exact ⟨_, n1, rfl, tp_nd hna, ht.nd n1 (List.mem_of_getElem? hn1), fun H4 s4 => lc_put (by omega) hl hD' hD s6 s4 nok r rfl⟩
      · intro acc H6 s6 hD' hl1 hf
        walk_at "w"
        refine rd_allT (SqL.of hD') hf ?_
        walk_at "w"
        refine ⟨q, t, rfl, hv.kp (kp_same s6), htz, fun p H7 ys s7 hp2 _ => ?_⟩
        walk_at "w"
        refine rd_ndF (fun z => nomatch z) ?_
        walk_at "w"
        exact k q H7 (sF.trans (s6.trans s7)) ((hv.kp (kp_same s6)).kp (kp_same s7))
    · cases hr3
def sp_Tread (K : PySem.W.Frag) (C : Ad) : Sp := fun vs H Q _ => ∃ z t, vs = [.ref C.t, .str z] ∧ Reads z t ∧ TmW t ∧ ∀ x H', Same H H' → TermAt K C H' x t → Q (.ref x) H'
theorem ok_Tread (T : Ty K mg C) : Ro P w K mg base (CmC K C.t "read") 7 (sp_Tread K C) := by
  have G_nodes_of := ok_nodes_of (P := P) (w := w) (base := base) T
  have G_Term___init__ := (ok_TermI (P := P) (w := w) (base := base) T).rf
  refine T.c_t_read.ok sc_Term_read (fun vs H Q E h => ?_) (fun f cdv A outer s H vs Q E hr h => ?_)
  · obtain ⟨z, t, rfl, _⟩ := h
    rfl
  obtain ⟨z, t, rfl, hz, ht, k⟩ := h
  refine ⟨_, (pss_cons (ps_set (i := 2) sc_Term_read.nd rfl (Or.inl rfl) (pe_g G_nodes_of (hr.mono (by decide)) (pa_cons (pv 1) pa_nil)))
    (pss_cons (ps_if (pt_cmpR o_isN (pv 2) pe_non (nomark _)) (pss_one ps_never) pss_nil)
    (pss_one (ps_ret (pe_mkC G_Term___init__ (pv 0) (hr.mono (by decide)) (pa_cons (pv 2) pa_nil)))))), ?_⟩
  try dsimp only [nox_K]
  refine rd_st (σ' := [some (.ref C.t), some (.str z), none]) rfl ?_
  walk_at "w"
  refine ⟨z, t, rfl, hz, ht, fun v H1 s1 hv => ?_⟩
  walk_at "w"
  refine rd_dF (fun z => nomatch z) ?_
  walk_at "w"
  refine ⟨rfl, ?_⟩
  walk_at "w"
  intro x dx hx hdx _
  have s2 : Same H1 (upd (upd H1 dx (.own x)) x (.ins C.t dx [])) := same_make hx hdx
  exact ⟨x, dx, _, t, rfl, upd_same, .inl (hv.kp (kp_same s2)), ht, fun H' fr ta => ⟨rfl, k x H' (s1.trans (same_made hx hdx fr)) ta⟩⟩
end
end FN
set_option maxHeartbeats 4000000
namespace FN
open PySem PySem.Spec PyProof.Rows L2
local macro_rules | `(tactic| walk_at "w") => `(tactic| repeat (with_reducible first
  | refine rd_seq ?_
  | refine rd_asg ?_
  | refine rd_name ?_
  | refine rd_ret ?_
  | refine rd_drop ?_
  | refine rd_if ?_
  | refine rd_next ?_
  | refine rd_var (by k_dflt rfl) ?_
  | refine rd_c ?_
  | refine rd_op ?_
  | refine rd_un ?_
  | refine rd_test ?_
  | refine rd_B ?_
  | refine rd_I0 ?_
  | refine rd_U ?_
  | refine rd_eqI ?_
  | refine rd_neI ?_
  | refine rd_eqS ?_
  | refine rd_neS ?_
  | refine rd_and ?_
  | refine rd_or ?_
  | refine rd_not ?_
  | refine rd_andV ?_
  | refine rd_orV ?_
  | refine rd_notV ?_
  | refine rd_ife ?_
  | refine rd_chain ?_
  | refine rd_exb ?_
  | refine rd_exi ?_
  | refine rd_nil ?_
  | refine rd_cons ?_
  | refine rd_CB ?_
  | refine rd_G ?_
  | refine rd_fld ?_
  | refine rd_sl ?_
  | refine rd_part ?_
  | refine rd_noPart ?_
  | refine rd_leaf ?_
  | refine rd_tup ?_
  | refine rd_lst ?_
  | refine rd_star ?_
  | refine rd_bm ?_
  | refine rd_bm0 ?_
  | refine rd_gsub ?_
  | refine rd_rev ?_
  | refine rd_gnil ?_
  | refine rd_gcons ?_
  | refine rd_yes ?_
  | refine rd_abs ?_
  | refine rd_max2 ?_
  | refine rd_min2 ?_
  | refine rd_int1 ?_
  | refine rd_int1b ?_
  | refine rd_inSign ?_
  | refine rd_niSign ?_
  | refine rd_isN ?_
  | refine rd_ntN ?_
  | refine rd_dcLst ?_
  | refine rd_dcTup ?_
  | refine rd_dcItems ?_
  | refine rd_lcTup ?_
  | refine rd_lcLst ?_
  | refine rd_lcStr ?_
  | refine rd_lcR1 ?_
  | refine rd_lcR2 ?_
  | refine rd_lcKeys ?_
  | refine rd_lcVals ?_
  | refine rd_lcItems ?_
  | refine rd_lcZip ?_
  | refine rd_forTup ?_
  | refine rd_forLst ?_
  | refine rd_forR1 ?_
  | refine rd_forR2 ?_
  | refine rd_forR3 ?_
  | refine rd_forZip ?_
  | refine rd_forItems ?_
  | refine rd_lcEnumT ?_
  | refine rd_forEnumT ?_
  | refine rd_oneStr ?_
  | refine rd_mkR ?_
  | refine rd_mk0 ?_
  | refine rd_mR ?_
  | refine rd_mN ?_
  | refine rd_pr ?_
  | refine rd_cmR ?_
  | refine rd_makeC ?_
  | refine rd_tM1 ?_
  | refine rd_fmtT ?_
  | refine ⟨rd_exs, ?_⟩
  | refine rd_listZip ?_
  | refine rd_lenSetS ?_
  | refine rd_sfld ?_
  | refine rd_jc ?_
  | refine rd_jn ?_
  | refine rd_par ?_
  | refine rd_par3 ?_
  | refine rd_dupd ?_
  | refine rd_disp ?_
  | refine rd_pc ?_
  | refine rd_pn ?_
  | refine rd_dni ?_
  | refine rd_dget ?_
  | refine rd_dget2 ?_
  | refine rd_dput ?_
  | refine rd_T ?_
  | refine rd_F ?_
  | refine rd_nT ?_
  | refine rd_nF ?_))
/-! ### xs[lo::c] -/
def pickV (xs : List V) (lo c : Int) : List V := (sliceRange (sliceBounds (some lo) none (some c) xs.length).1 (sliceBounds (some lo) none (some c) xs.length).2.1 (sliceBounds (some lo) none (some c) xs.length).2.2).filterMap fun i => xs[i]?
theorem vals_pick {xs : List V} {us : List Value} (r : Vals xs us) : ∀ is : List Nat, Vals (is.filterMap fun i => xs[i]?) (is.filterMap fun i => us[i]?)
  | [] => .nil
  | i :: is => by
    have hl := r.length
    cases hx : xs[i]? with
    | none =>
      have hu : us[i]? = none := by rw [List.getElem?_eq_none_iff] at hx ⊢; omega
      rw [List.filterMap_cons_none hx, List.filterMap_cons_none hu]
      exact vals_pick r is
    | some x =>
      obtain ⟨u, hu, rx⟩ := r.get hx
      rw [List.filterMap_cons_some hx, List.filterMap_cons_some hu]
      exact .cons rx (vals_pick r is)
def rStepL (K : PySem.W.Frag) (lo c : Int) : V → Hp → VK → Prop := fun x H1 Q => ∃ a xs, x = .ref a ∧ SqL K H1 a xs ∧ ∀ p, H1 p = none → Q (.ref p) (upd H1 p (.lst (pickV xs lo c)))
def tStepL (K : PySem.W.Frag) (lo c : Int) (te : TE) : TE := fun σ H Q => te σ H fun x H1 => rStepL K lo c x H1 Q
theorem rd_stepL {K : PySem.W.Frag} {lo c : Int} {te : TE} {σ : L2.St} {H : Hp} {Q : VK} (h : te σ H fun x H1 => rStepL K lo c x H1 Q) : tStepL K lo c te σ H Q := h
theorem pe_step {X : Cx} {e : Expr} {te : TE} {lo c : Int} {k1 k2 : Nat} {p1 p2 p3 pos : Pos} (he : PE X e te) (hc : c ≠ 0) : PE X (.Subscript e (.Slice (some (.Constant (.int lo) k1 p1)) none (some (.Constant (.int c) k2 p2)) p3) pos) (tStepL X.K lo c te) := by
  refine ⟨fun pins s σ H Q I h => ?_⟩
  refine Subscript_ (thn (he.run pins s σ H _ I h) fun v s1 ⟨x, H1, I1, r1, q1⟩ => ?_)
  obtain ⟨a, xs, ex, hx, q⟩ := q1
  subst ex
  cases r1
  have hlo : PO X (some (.Constant (.int lo) k1 p1)) (tPart (tC (.int lo))) := po_some pe_int
  have hst : PO X (some (.Constant (.int c) k2 p2)) (tPart (tC (.int c))) := po_some pe_int
  refine wpAny_Slice (thn (hlo.run pins s1 σ H1 (fun o H2 => o = some lo ∧ H2 = H1) I1 ⟨lo, rfl, rfl, rfl⟩) fun vl s2 ⟨l, H2, I2, pl, el, e2⟩ => ?_)
  subst el e2
  refine thn (po_none.run pins s2 σ H2 (fun o H3 => o = none ∧ H3 = H2) I2 ⟨rfl, rfl⟩) fun vu s3 ⟨u, H3, I3, pu, eu, e3⟩ => ?_
  subst eu e3
  refine thn (hst.run pins s3 σ H3 (fun o H4 => o = some c ∧ H4 = H3) I3 ⟨c, rfl, rfl, rfl⟩) fun vs s4 ⟨o, H4, I4, ps, eo, e4⟩ => ?_
  subst eo e4
  have I5 : Inv X pins σ H4 { s4 with heap := s4.heap.push { cls := .type "slice", data := .fields #[vl, vu, vs] } } := I4.kept (t' := s4.toks) fun b ob q => Heap.get?_push_of_some _ q
  obtain ⟨its, r, ht, hz⟩ := I5.list hx
  have hlen := r.length
  show wpAny (model X.prog X.w) X.A (subscriptTail e (.Slice (some (.Constant (.int lo) k1 p1)) none (some (.Constant (.int c) k2 p2)) p3) (.ref a) (.ref s4.heap.objs.size)) (EP X pins σ Q) X.xe { s4 with heap := s4.heap.push { cls := .type "slice", data := .fields #[vl, vu, vs] } }
  refine tail_any (ops := [.ref a, .ref s4.heap.objs.size]) ht.isList.typeIs (PySem.slot_list_getitem.lookup) ?_ (by with_unfolding_all rfl)
  have hz2 : its.toArray.size ≤ sizeLine := by rw [List.size_toArray]; omega
  refine wpAny_getItem_list_slice ht.isList (Heap.IsSliceOf.new _ vl vu vs) pl pu ps (fun z => hc (Option.some.inj z)) ?_ hz2
  have hp : slicePick its.toArray (some lo) none (some c) = ((sliceRange (sliceBounds (some lo) none (some c) xs.length).1 (sliceBounds (some lo) none (some c) xs.length).2.1 (sliceBounds (some lo) none (some c) xs.length).2.2).filterMap fun i => its[i]?).toArray := by
    unfold slicePick
    rw [List.size_toArray, ← hlen]
    simp only [List.getElem?_toArray]
  have hsz := slicePick_size_le its.toArray (some lo) none (some c)
  have hv := vals_pick r (sliceRange (sliceBounds (some lo) none (some c) xs.length).1 (sliceBounds (some lo) none (some c) xs.length).2.1 (sliceBounds (some lo) none (some c) xs.length).2.2)
  rw [hp] at hsz ⊢
  refine ⟨.ref _, _, I5.laid (t' := s4.toks) (o := .lst (pickV xs lo c)) (fun b ob q => Heap.get?_push_of_some _ q) (Nat.le_refl _) ?_, rfl, q _ (I5.hok.fresh (Nat.le_refl _))⟩
  refine ⟨?_, _, 0, hv, Heap.get?_push_size _ rfl⟩
  rw [List.size_toArray] at hsz
  have := hv.length
  unfold pickV
  omega
end FN
set_option maxHeartbeats 4000000
namespace FN
open PySem PySem.Spec PyProof.Rows L2
local macro_rules | `(tactic| walk_at "w") => `(tactic| repeat (with_reducible first
  | refine rd_seq ?_
  | refine rd_asg ?_
  | refine rd_name ?_
  | refine rd_ret ?_
  | refine rd_drop ?_
  | refine rd_if ?_
  | refine rd_next ?_
  | refine rd_var (by k_dflt rfl) ?_
  | refine rd_c ?_
  | refine rd_op ?_
  | refine rd_un ?_
  | refine rd_test ?_
  | refine rd_B ?_
  | refine rd_I0 ?_
  | refine rd_U ?_
  | refine rd_eqI ?_
  | refine rd_neI ?_
  | refine rd_eqS ?_
  | refine rd_neS ?_
  | refine rd_and ?_
  | refine rd_or ?_
  | refine rd_not ?_
  | refine rd_andV ?_
  | refine rd_orV ?_
  | refine rd_notV ?_
  | refine rd_ife ?_
  | refine rd_chain ?_
  | refine rd_exb ?_
  | refine rd_exi ?_
  | refine rd_nil ?_
  | refine rd_cons ?_
  | refine rd_CB ?_
  | refine rd_G ?_
  | refine rd_fld ?_
  | refine rd_sl ?_
  | refine rd_part ?_
  | refine rd_noPart ?_
  | refine rd_leaf ?_
  | refine rd_tup ?_
  | refine rd_lst ?_
  | refine rd_star ?_
  | refine rd_bm ?_
  | refine rd_bm0 ?_
  | refine rd_gsub ?_
  | refine rd_rev ?_
  | refine rd_gnil ?_
  | refine rd_gcons ?_
  | refine rd_yes ?_
  | refine rd_abs ?_
  | refine rd_max2 ?_
  | refine rd_min2 ?_
  | refine rd_int1 ?_
  | refine rd_int1b ?_
  | refine rd_inSign ?_
  | refine rd_niSign ?_
  | refine rd_isN ?_
  | refine rd_ntN ?_
  | refine rd_dcLst ?_
  | refine rd_dcTup ?_
  | refine rd_dcItems ?_
  | refine rd_lcTup ?_
  | refine rd_lcLst ?_
  | refine rd_lcStr ?_
  | refine rd_lcR1 ?_
  | refine rd_lcR2 ?_
  | refine rd_lcKeys ?_
  | refine rd_lcVals ?_
  | refine rd_lcItems ?_
  | refine rd_lcZip ?_
  | refine rd_forTup ?_
  | refine rd_forLst ?_
  | refine rd_forR1 ?_
  | refine rd_forR2 ?_
  | refine rd_forR3 ?_
  | refine rd_forZip ?_
  | refine rd_forItems ?_
  | refine rd_lcEnumT ?_
  | refine rd_forEnumT ?_
  | refine rd_oneStr ?_
  | refine rd_mkR ?_
  | refine rd_mk0 ?_
  | refine rd_mR ?_
  | refine rd_mN ?_
  | refine rd_pr ?_
  | refine rd_cmR ?_
  | refine rd_makeC ?_
  | refine rd_tM1 ?_
  | refine rd_fmtT ?_
  | refine ⟨rd_exs, ?_⟩
  | refine rd_stepL ?_
  | refine rd_listZip ?_
  | refine rd_lenSetS ?_
  | refine rd_sfld ?_
  | refine rd_jc ?_
  | refine rd_jn ?_
  | refine rd_par ?_
  | refine rd_par3 ?_
  | refine rd_dupd ?_
  | refine rd_disp ?_
  | refine rd_pc ?_
  | refine rd_pn ?_
  | refine rd_dni ?_
  | refine rd_dget ?_
  | refine rd_dget2 ?_
  | refine rd_dput ?_
  | refine rd_T ?_
  | refine rd_F ?_
  | refine rd_nT ?_
  | refine rd_nF ?_))
/-! ### name = {k: v for ..} on one line, the name a local -/
section
variable {X : Cx}
theorem ps_setDc {i : Nat} {y : Str} {py : Pos} {kx vx tg iter : Expr} {ifs : List Expr} {scope : Scope} {own : List (Str × Nat)} {pos spos : Pos} {wi : TI} {g : TG} {tt : TT} {tk tv : TE} (hc : X.calm = true) (hN : X.N.Nodup) (hy : X.N[i]? = some y) (hyl : X.env.scope.names.lookup y = some .local)
    (hsw : swapsWith (.DictComp kx vx [⟨tg, iter, ifs, 0⟩] scope pos) (some (.Name y py)) spos.line X.env = pure true) (hi : PI X tg iter wi) (ok : BlkOk X.N X.env.scope scope own)
    (hg : ∀ (s : Shared) (H : Hp) (C : Addr) (cl : List (Str × Addr)) (fp : List Addr), PG (X.blk s H scope (compEnvC scope cl C X.env) fp) tg g) (ht : ∀ (s : Shared) (H : Hp) (C : Addr) (cl : List (Str × Addr)) (fp : List Addr), PTs (X.blk s H scope (compEnvC scope cl C X.env) fp) ifs tt)
    (hk : ∀ (s : Shared) (H : Hp) (C : Addr) (cl : List (Str × Addr)) (fp : List Addr), PE (X.blk s H scope (compEnvC scope cl C X.env) fp) kx tk)
    (he : ∀ (s : Shared) (H : Hp) (C : Addr) (cl : List (Str × Addr)) (fp : List Addr), PE (X.blk s H scope (compEnvC scope cl C X.env) fp) vx tv) (hs : ∀ x, foldedSetIterable iter X.env x = pure x := by intro _; rfl) :
    PS X (.Assign [.Name y py] (.DictComp kx vx [⟨tg, iter, ifs, 0⟩] scope pos) spos) (tAsg (tDc wi g tt tk tv (own.map (·.2))) (gName i)) := by
  refine ⟨fun pins s σ H D I h => ?_⟩
  rw [exec_Assign_Name_used _ _ _ _ hsw]
  refine wpAny_bind (wpAny_standAt (wpAny_bind ?_))
  show wpAny _ X.A (do let _ ← comprehension (.DictComp kx vx [⟨tg, iter, ifs, 0⟩] scope pos) scope X.env (firstIterPos [⟨tg, iter, ifs, 0⟩] pos) newDict false (eval iter X.env) (some (assign (.Name y py) X.env))) _ _ s
  have h' : tDc wi g tt tk tv (own.map (·.2)) σ H (fun x H1 => gName i x σ H1 D.nx) := h
  refine wpAny_bind (thn (dc_core (Qf := fun _ s' => SP X pins D .next s') hc hN I hi ok hg ht hk he hs h' fun L C s' m H' I' q hn f => ?_) fun _ s' hq => wpAny_pure (wpAny_pure hq))
  show wpAny _ _ (assign (.Name y py) X.env (.ref L)) _ _ _
  refine wpAny_assign_Name (store_ok2 (v := V.ref L) I' hN hy (.inl hyl) rfl (fun s2 I2 ⟨a, sb, ha⟩ => ?_) (.inr hyl))
  obtain ⟨f0, f1, f2, f3, f4, f5⟩ := f
  have haC : C ≠ a := by
    rcases ha with z | z
    · rw [z]; exact f1
    · exact fun e => f4 y a z e.symm
  refine ⟨m, hn.sameBut sb haC, fun h3 sb3 => ?_⟩
  exact ⟨_, H', I2.turned (t' := s2.toks) (fun b o hb e => (sb3.2 b hb).trans e) f0 f1 f3 f4 f5, q⟩
theorem sw_trueD {kx vx : Expr} {gs : List Comprehension} {scope : Scope} {pos py : Pos} {y : Str} {l : Nat} {env : Env} (hk : env.scope.kind = .function) (hy : env.scope.names.lookup y = some .local) (hl : (py.line == pos.line) = true)
    (ha : (scope.names.any fun (n, k) => n == y && (k == .local || k == .cell)) = false) : swapsWith (.DictComp kx vx gs scope pos) (some (.Name y py)) l env = pure true := by
  have ky : env.kindOf y = some .local := hy
  have hb : env.blockKind = .function := by unfold Env.blockKind; rw [hk]; rfl
  unfold swapsWith
  simp only [hb, ky, ha, Expr.pos, hl]
  rfl
end
/-! a line of symbols read -/
theorem eqv_strs : ∀ (xs ys : List Str), PyData.eqvAll (xs.map PyData.str) (ys.map PyData.str) = decide (xs = ys)
  | [], [] => rfl
  | [], y :: ys => by simp [PyData.eqvAll]
  | x :: xs, [] => by simp [PyData.eqvAll]
  | x :: xs, y :: ys => by
    rw [List.map_cons, List.map_cons, PyData.eqvAll, eqv_strs xs ys, Bool.eq_iff_iff]
    simp [PyData.eqv]
theorem dpAll_strs {K : PySem.W.Frag} {H : Hp} : ∀ xs : List Str, DpAll K H (xs.map V.str) (xs.map PyData.str)
  | [] => .nil
  | x :: r => .cons (.str x) (dpAll_strs r)
theorem shaped_strs {xs : List Str} (h : ∀ x ∈ xs, PyData.strOk x = true) : SeqAt.shaped (.list (xs.map PyData.str)) = true := by
  refine shaped_of ?_ ?_
  · simp only [PyData.canLay0]
    refine canAll_of fun x hx => ?_
    obtain ⟨n, hn, rfl⟩ := List.mem_map.mp hx
    simp only [PyData.canLay0]
    exact h n hn
  · simp only [PyData.depth]
    have := depthAll_of (n := 0) (xs := xs.map PyData.str) (fun x hx => by
      obtain ⟨n, hn, rfl⟩ := List.mem_map.mp hx
      simp [PyData.depth])
    omega
section
variable {K : PySem.W.Frag} {H : Hp} {Q : VK} {a b : Addr} {xs ys : List Str}
theorem rd_eqStrs (h1 : SqL K H a (xs.map V.str)) (h2 : SqL K H b (ys.map V.str)) (o1 : ∀ x ∈ xs, PyData.strOk x = true) (o2 : ∀ x ∈ ys, PyData.strOk x = true) (k : Q (.bl (decide (xs = ys))) H) : rEqD K (.ref a) (.ref b) H Q :=
  ⟨_, _, .lst h1 (dpAll_strs xs), .lst h2 (dpAll_strs ys), shaped_strs o1, shaped_strs o2, by rw [PyData.eqv, eqv_strs]; exact k⟩
theorem rd_neStrs (h1 : SqL K H a (xs.map V.str)) (h2 : SqL K H b (ys.map V.str)) (o1 : ∀ x ∈ xs, PyData.strOk x = true) (o2 : ∀ x ∈ ys, PyData.strOk x = true) (k : Q (.bl (!decide (xs = ys))) H) : rNeD K (.ref a) (.ref b) H Q :=
  ⟨_, _, .lst h1 (dpAll_strs xs), .lst h2 (dpAll_strs ys), shaped_strs o1, shaped_strs o2, by rw [PyData.eqv, eqv_strs]; exact k⟩
end
def SYM : Str := "symbols a 0 b 0 f 3 g 0"
def SYW : List Str := ["symbols", "a", "0", "b", "0", "f", "3", "g", "0"]
def SYK : List Str := ["a", "b", "f", "g"]
def SYA : List Str := ["0", "0", "3", "0"]
theorem sym_split : Txt.split SYM " " = SYW := by decide +kernel
theorem syk_pick : pickV (SYW.map V.str) 1 2 = SYK.map V.str := by decide +kernel
theorem sya_pick : pickV (SYW.map V.str) 2 2 = SYA.map V.str := by decide +kernel
theorem syk_sorted : ∀ a ∈ SYK, ∀ b ∈ SYK, ∀ c ∈ SYK, ∀ d ∈ SYK, sortedS [a, b, c, d] = true → [a, b, c, d].Nodup → [a, b, c, d] = SYK := by decide +kernel
theorem syk_of {ys : List Str} (p : ys.Perm SYK) (s : sortedS ys = true) : ys = SYK := by
  have hl := p.length_eq
  have hn : ys.Nodup := (p.nodup_iff).mpr (by decide +kernel)
  have hm : ∀ y ∈ ys, y ∈ SYK := fun y hy => p.subset hy
  match ys, hl with
  | [a, b, c, d], _ => exact syk_sorted a (hm a (by simp)) b (hm b (by simp)) c (hm c (by simp)) d (hm d (by simp)) s hn
section
variable {P : Program} {w : World} {K : PySem.W.Frag} {mg : Str → Option Value} {base : Heap} {C : Ad}
def sp_read_symbols : Sp := fun vs H Q _ => vs = [.str SYM] ∧ ∀ p H', Same H H' → H' p = some (.dK (GS.map kvN)) → Q (.ref p) H'
theorem ok_read_symbols (T : Ty K mg C) : Gf P w K mg base "read_symbols" 4 sp_read_symbols := by
  have G_is_word := ok_is_word (P := P) (w := w) (base := base) T.toTx
  have G_is_symbols := ok_is_symbols (P := P) (w := w) (base := base) T
  refine T.d_read_symbols.ok sc_read_symbols (fun vs H Q E h => ?_) (fun f cdv A outer s H vs Q E hr h => ?_)
  · obtain ⟨rfl, _⟩ := h
    rfl
  obtain ⟨rfl, k⟩ := h
  refine ⟨_, (pss_cons (ps_set (i := 1) sc_read_symbols.nd rfl (Or.inl rfl) (pe_ifExp (pt_val (pe_callB call_isi rfl T.f_isinstance (by decide +kernel) (pa_cons (pv 0) (pa_cons (pe_bltn (v := .ty "str") rfl T.f_str (by decide +kernel) rfl) pa_nil)))) (pe_split (pv 0) pe_str) (pe_lst pa_nil)))
    (pss_cons (ps_if (PW.pt (pw_or (pt_cmpR (op_neD hr.units) (pe_slice sl_list (pv 1) po_none (po_some pe_int)) (pe_lst (pa_cons pe_str pa_nil)) (nomark _)) (pw_or1 (pt_cmpR op_eq (pe_op op_modN (pe_callB c_lenS rfl T.f_len PySem.boot_len (pa_cons (pv 1) pa_nil)) pe_int) pe_int (nomark _))))) (pss_one (ps_ret pe_non)) pss_nil)
    (pss_cons (ps_set (i := 2) sc_read_symbols.nd rfl (Or.inl rfl) (pe_listZip rfl T.f_list rfl T.f_zip (pa_cons (pe_step (pv 1) (by decide)) (pa_cons (pe_step (pv 1) (by decide)) pa_nil))))
    (pss_cons (ps_if (pt_not (pt_val (pe_callB (cr_all rfl) rfl T.f_all (by decide +kernel) (pa_cons (pe_lc (own := [("word", 4), ("arity", 5)]) rfl sc_read_symbols.nd (pi_list (pv 2)) (blkOk_by (own := [("word", 4), ("arity", 5)]) (N := ["line", "words", "pairs", "found", "word", "arity"]) (sc := defScope s_read_symbols) (by decide +kernel)) (fun _ _ _ _ _ => (tupG_k (K := K) (n := 2) rfl rfl (pgs_cons (pg_name (i := 4) sc_read_symbols.nd rfl (Or.inl rfl)) (pgs_cons (pg_name (i := 5) sc_read_symbols.nd rfl (Or.inl rfl)) pgs_nil)))) (fun _ _ _ _ _ => pts_nil) (fun _ _ _ _ _ => (pe_and (pe_g G_is_word (hr.mono (by decide)) (pa_cons (pv 4) pa_nil)) (pe_one (pe_cmpR (in_k (K := K) rfl) (pv 5) (pe_tup (pa_cons pe_str (pa_cons pe_str (pa_cons pe_str (pa_cons pe_str pa_nil))))) (by rfl)))))) pa_nil)))) (pss_one (ps_ret pe_non)) pss_nil)
    (pss_cons (ps_setDc (i := 3) (own := [("word", 4), ("arity", 5)]) rfl sc_read_symbols.nd rfl rfl (sw_trueD rfl rfl rfl (by decide +kernel)) (pi_list (pv 2)) (blkOk_by (own := [("word", 4), ("arity", 5)]) (N := ["line", "words", "pairs", "found", "word", "arity"]) (sc := defScope s_read_symbols) (by decide +kernel)) (fun _ _ _ _ _ => (tupG_k (K := K) (n := 2) rfl rfl (pgs_cons (pg_name (i := 4) sc_read_symbols.nd rfl (Or.inl rfl)) (pgs_cons (pg_name (i := 5) sc_read_symbols.nd rfl (Or.inl rfl)) pgs_nil)))) (fun _ _ _ _ _ => pts_nil) (fun _ _ _ _ _ => (pv 4)) (fun _ _ _ _ _ => (pe_callTy c_intS rfl T.f_int (by decide +kernel) (pa_cons (pv 5) pa_nil))))
    (pss_one (ps_ret (pe_ifExp (PW.pt (pw_and (pt_val (pe_g G_is_symbols (hr.mono (by decide)) (pa_cons (pv 3) pa_nil))) (pw_and1 (pt_cmpR (op_eqD hr.units) (pe_callB cr_sortedS rfl T.f_sorted (by decide +kernel) (pa_cons (pe_callTy (call_list_dK rfl) rfl T.f_list (by decide +kernel) (pa_cons (pv 3) pa_nil)) pa_nil)) (pe_lc (own := [("word", 4), ("arity", 5)]) rfl sc_read_symbols.nd (pi_list (pv 2)) (blkOk_by (own := [("word", 4), ("arity", 5)]) (N := ["line", "words", "pairs", "found", "word", "arity"]) (sc := defScope s_read_symbols) (by decide +kernel)) (fun _ _ _ _ _ => (tupG_k (K := K) (n := 2) rfl rfl (pgs_cons (pg_name (i := 4) sc_read_symbols.nd rfl (Or.inl rfl)) (pgs_cons (pg_name (i := 5) sc_read_symbols.nd rfl (Or.inl rfl)) pgs_nil)))) (fun _ _ _ _ _ => pts_nil) (fun _ _ _ _ _ => (pv 4))) (nomark _))))) (pv 3) pe_non)))))))), ?_⟩
  try dsimp only [nox_K]
  refine rd_st (σ' := [some (.str SYM), none, none, none, none, none]) rfl ?_
  walk_at "w"
  refine rd_isi_str (b := true) (by decide +kernel) ?_
  walk_at "w"
  refine ⟨SYM, " ", rfl, rfl, by decide +kernel, small (by decide +kernel), fun wl hwl => ?_⟩
  rw [sym_split]
  have s1 := same_new hwl (.lst (SYW.map V.str))
  have g1 : upd H wl (.lst (SYW.map V.str)) wl = some (.lst (SYW.map V.str)) := upd_same
  generalize upd H wl (.lst (SYW.map V.str)) = H1 at *
  walk_at "w"
  refine rd_slL (SqL.of g1) fun p1 hp1 => ?_
  rw [show cutV (SYW.map V.str) none (some 1) = [("symbols" : Str)].map V.str by decide +kernel]
  have s2 := same_new hp1 (.lst ([("symbols" : Str)].map V.str))
  have g2 : upd H1 p1 (.lst ([("symbols" : Str)].map V.str)) p1 = some (.lst ([("symbols" : Str)].map V.str)) := upd_same
  generalize upd H1 p1 (.lst ([("symbols" : Str)].map V.str)) = H2 at *
  walk_at "w"
  refine ⟨small (by simp), fun p2 hp2 => ?_⟩
  have s3 := same_new hp2 (.lst [V.str "symbols"])
  have g3 : upd H2 p2 (.lst [V.str "symbols"]) p2 = some (.lst ([("symbols" : Str)].map V.str)) := upd_same
  generalize upd H2 p2 (.lst [V.str "symbols"]) = H3 at *
  walk_at "w"
  refine rd_neStrs (SqL.of (s3 _ _ g2)) (SqL.of g3) (by decide +kernel) (by decide +kernel) ?_
  walk_at "w"
  refine rd_ndT rfl ?_
  walk_at "w"
  have s13 : Same H1 H3 := s2.trans s3
  refine rd_len (.inl (SqL.of (s13 _ _ g1))) ?_
  walk_at "w"
  refine ⟨_, _, rfl, rfl, by decide, ?_⟩
  walk_at "w"
  refine rd_dF (by decide +kernel) ?_
  walk_at "w"
  refine ⟨wl, _, rfl, SqL.of (s13 _ _ g1), fun p4 hp4 => ?_⟩
  rw [syk_pick]
  have s4 := same_new hp4 (.lst (SYK.map V.str))
  have g4 : upd H3 p4 (.lst (SYK.map V.str)) p4 = some (.lst (SYK.map V.str)) := upd_same
  generalize upd H3 p4 (.lst (SYK.map V.str)) = H4 at *
  walk_at "w"
  refine ⟨wl, _, rfl, SqL.of (s4 _ _ (s13 _ _ g1)), fun p5 hp5 => ?_⟩
  rw [sya_pick]
  have s5 := same_new hp5 (.lst (SYA.map V.str))
  have g5 : upd H4 p5 (.lst (SYA.map V.str)) p5 = some (.lst (SYA.map V.str)) := upd_same
  generalize upd H4 p5 (.lst (SYA.map V.str)) = H5 at *
  walk_at "w"
  refine ⟨p4, p5, SYK.map (fun z => (.inr z : Key)), SYA.map V.str, rfl, .inr ⟨by rw [List.map_map]; exact SqL.of (s5 _ _ g4), SqL.of g5⟩, by decide, fun pz H6 ts _ s6 hpz htl hti => ?_⟩
  have htl' : ts.length = 4 := htl
  have sA : Same H H6 := s1.trans (s13.trans (s4.trans (s5.trans s6)))
  have hpair : ∀ (i : Nat) (t : Addr), ts[i]? = some t → ∃ n, GS[i]? = some n ∧ (n.1 ∈ SYK) ∧ SYK[i]? = some n.1 ∧ ∃ a, SYA[i]? = some a ∧ PySem.intText? a = some (n.2 : Int) ∧ a.length ≤ 640 ∧ a ∈ [("0" : Str), "1", "2", "3"] ∧ H6 t = some (.tup [.str n.1, .str a]) := by
    intro i t ht
    have hi : i < 4 := by have := (List.getElem?_eq_some_iff.mp ht).1; omega
    match i, hi with
    | 0, _ => exact ⟨nd "a" 0, rfl, by decide +kernel, rfl, "0", rfl, by decide +kernel, by decide +kernel, by decide +kernel, hti 0 t (.inr "a") (.str "0") ht rfl rfl⟩
    | 1, _ => exact ⟨nd "b" 0, rfl, by decide +kernel, rfl, "0", rfl, by decide +kernel, by decide +kernel, by decide +kernel, hti 1 t (.inr "b") (.str "0") ht rfl rfl⟩
    | 2, _ => exact ⟨nd "f" 3, rfl, by decide +kernel, rfl, "3", rfl, by decide +kernel, by decide +kernel, by decide +kernel, hti 2 t (.inr "f") (.str "3") ht rfl rfl⟩
    | 3, _ => exact ⟨nd "g" 0, rfl, by decide +kernel, rfl, "0", rfl, by decide +kernel, by decide +kernel, by decide +kernel, hti 3 t (.inr "g") (.str "0") ht rfl rfl⟩
  have hmem : ∀ {i : Nat} {x : V} {H' : Hp}, Same H6 H' → (ts.map V.ref)[i]? = some x → ∃ t n a, x = .ref t ∧ GS[i]? = some n ∧ SYK[i]? = some n.1 ∧ PySem.intText? a = some (n.2 : Int) ∧ a.length ≤ 640 ∧ a ∈ [("0" : Str), "1", "2", "3"] ∧ SqT K H' t [.str n.1, .str a] := by
    intro i x H' s' hx
    rw [List.getElem?_map] at hx
    cases ht : ts[i]? with
    | none => rw [ht] at hx; cases hx
    | some t =>
      rw [ht] at hx
      obtain ⟨n, h1, _, h2, a, _, h4, h5, h6, h7⟩ := hpair i t ht
      exact ⟨t, n, a, by simpa using hx.symm, h1, h2, h4, h5, h6, sqT_of (s' _ _ h7)⟩
  have hsg : SG GS := sets_sg GS gs_mem
  walk_at "w"
  refine rd_oneLst (SqL.of hpz) fun D hD => ?_
  refine lc_map (walk_list (xs := ts.map V.ref)) (fun _ y _ => y = .bl true) (by rw [List.length_map]; omega) hD nok (fun H' s => SqL.of (s _ _ hpz)) ?_ ?_
  · rintro i acc x H8 H7 hi hl s7 hD' r ⟨rfl, hx⟩
    obtain ⟨t, n, a, rfl, h1, h2, h4, h5, h6, h7⟩ := hmem s7 hx
    walk_at "w"
    refine rd_gtup h7 rfl ?_
    walk_at "w"
    refine ⟨rfl, ?_⟩
    walk_at "w"
    obtain ⟨c, hc, hcl, _⟩ := hsg.row n (List.mem_of_getElem? h1)
    refine ⟨c, by rw [hc], fun H8 s8 => ?_⟩
    rw [decide_eq_true hcl]
    walk_at "w"
    refine ⟨small (by simp), fun q hq => ?_⟩
    have s9 := same_new hq (.tup [V.str "0", V.str "1", V.str "2", V.str "3"])
    have g9 : upd H8 q (.tup [V.str "0", V.str "1", V.str "2", V.str "3"]) q = some (.tup ([("0" : Str), "1", "2", "3"].map V.str)) := upd_same
    generalize upd H8 q (.tup [V.str "0", V.str "1", V.str "2", V.str "3"]) = H9 at *
    walk_at "w"
    refine rd_inS (.inr (sqT_of g9)) ?_
    rw [List.length_map] at hi
    exact lc_put (by omega) hl hD' hD s7 (s8.trans s9) nok r (by rw [decide_eq_true h6])
  · intro acc H7 s7 hD' hl1 hf
    walk_at "w"
    refine rd_allT (SqL.of hD') hf ?_
    walk_at "w"
    refine ⟨pz, rfl, ⟨_, SqL.of (s7 _ _ hpz)⟩, fun D2 hD2 => ?_⟩
    have pD2 : pz ≠ D2 := ne_of_none (s7 _ _ hpz) hD2
    have hGl : (ts.map V.ref).length = 4 := by rw [List.length_map]; exact htl'
    refine dc_it (walk_list (xs := ts.map V.ref)) (fun i H' => Same H7 H' ∧ H' D2 = some (.dK ((GS.take i).map kvN))) ⟨same_new hD2 _, by rw [upd_same]; rfl⟩ (fun i H' _ r => SqL.of (r.1 _ _ (s7 _ _ hpz))) ?_ ?_
    · rintro i x H9 H8 hi ⟨r1, r2⟩ ⟨rfl, hx⟩
      obtain ⟨t, n, a, rfl, h1, h2, h4, h5, h6, h7⟩ := hmem (s7.trans r1) hx
      walk_at "w"
      refine rd_gtup h7 rfl ?_
      walk_at "w"
      refine ⟨rfl, ?_⟩
      walk_at "w"
      refine rd_intS h4 h5 ?_
      refine ⟨_, .inr n.1, rfl, r2, ?_, ?_⟩
      · rw [List.length_map, List.length_take]
        exact smallL (by omega)
      · have hout : n.1 ∉ (GS.take i).map (·.1) := by
          intro hm
          have hd : GS = GS.take i ++ n :: GS.drop (i + 1) := by
            have hlt := (List.getElem?_eq_some_iff.mp h1).1
            have e1 := List.drop_eq_getElem_cons hlt
            have e2 : GS[i] = n := (List.getElem?_eq_some_iff.mp h1).2
            rw [e2] at e1
            rw [← e1, List.take_append_drop]
          have hn' := hsg.nod
          unfold NodK at hn'
          rw [hd, List.map_append, List.map_cons] at hn'
          exact (List.nodup_append.mp hn').2.2 n.1 hm n.1 List.mem_cons_self rfl
        rw [show V.int (n.2 : Int) = vI n.2 from rfl, putK_out hout, ← take_succ_get h1]
        exact ⟨same_mut r1 hD2, upd_same⟩
    · rintro H8 ⟨r1, r2⟩
      rw [hGl] at r2
      have r2' : H8 D2 = some (.dK (GS.map kvN)) := r2
      have sB : Same H H8 := sA.trans (s7.trans r1)
      walk_at "w"
      refine ⟨D2, GS, rfl, r2', hsg, fun H9 s9 => ?_⟩
      walk_at "w"
      refine rd_listD (s9 _ _ r2') fun l hl => ?_
      rw [show (GS.map kvN).map (fun kv => kV kv.1) = SYK.map V.str by decide +kernel]
      have s10 := same_new hl (.lst (SYK.map V.str))
      have g10 : upd H9 l (.lst (SYK.map V.str)) l = some (.lst (SYK.map V.str)) := upd_same
      generalize upd H9 l (.lst (SYK.map V.str)) = H10 at *
      walk_at "w"
      refine sorted_r (SqL.of g10) (by decide) fun ys q hp hs hq => ?_
      obtain rfl := syk_of hp hs
      have s11 := same_new hq (.lst (SYK.map V.str))
      have g11 : upd H10 q (.lst (SYK.map V.str)) q = some (.lst (SYK.map V.str)) := upd_same
      generalize upd H10 q (.lst (SYK.map V.str)) = H11 at *
      have s811 : Same H8 H11 := s9.trans (s10.trans s11)
      have s611 : Same H6 H11 := s7.trans (r1.trans s811)
      walk_at "w"
      refine rd_oneLst (SqL.of (s611 _ _ hpz)) fun D3 hD3 => ?_
      refine lc_map (walk_list (xs := ts.map V.ref)) (fun i y _ => ∃ z, SYK[i]? = some z ∧ y = .str z) (by rw [List.length_map]; omega) hD3 (fun _ _ _ _ h _ => h) (fun H' s => SqL.of (s _ _ (s611 _ _ hpz))) ?_ ?_
      · rintro i acc x H13 H12 hi hl s12 hD' r ⟨rfl, hx⟩
        obtain ⟨t, n, a, rfl, h1, h2, h4, h5, h6, h7⟩ := hmem (s611.trans s12) hx
        walk_at "w"
        refine rd_gtup h7 rfl ?_
        walk_at "w"
        refine ⟨rfl, ?_⟩
        walk_at "w"
        rw [List.length_map] at hi
        exact lc_put (by omega) hl hD' hD3 s12 (Same.refl _) (fun _ _ _ _ h _ => h) r ⟨n.1, h2, rfl⟩
      · intro acc3 H12 s12 hD3' hl3 hf3
        walk_at "w"
        have he3 : acc3 = SYK.map V.str := by
          apply List.ext_getElem?
          intro i
          rw [List.getElem?_map]
          cases hz : SYK[i]? with
          | none =>
            rw [List.getElem?_eq_none_iff] at hz
            show acc3[i]? = none
            rw [List.getElem?_eq_none_iff, hl3, hGl]
            exact hz
          | some z =>
            have hi : i < acc3.length := by rw [hl3, hGl]; exact (List.getElem?_eq_some_iff.mp hz).1
            obtain ⟨z', h1, h2⟩ := hf3 i _ (List.getElem?_eq_getElem hi)
            rw [hz] at h1; cases h1
            rw [List.getElem?_eq_getElem hi, h2]; rfl
        rw [he3] at hD3'
        refine rd_eqStrs (SqL.of (s12 _ _ g11)) (SqL.of hD3') (by decide +kernel) (by decide +kernel) ?_
        walk_at "w"
        refine rd_dT rfl ?_
        walk_at "w"
        exact k D2 H12 (sB.trans (s811.trans s12)) ((s811.trans s12) _ _ r2')
end
end FN
set_option maxHeartbeats 4000000
namespace FN
open PySem PySem.Spec PyProof.Rows L2
local macro_rules | `(tactic| walk_at "w") => `(tactic| repeat (with_reducible first
  | refine rd_seq ?_
  | refine rd_asg ?_
  | refine rd_name ?_
  | refine rd_ret ?_
  | refine rd_drop ?_
  | refine rd_if ?_
  | refine rd_next ?_
  | refine rd_var (by k_dflt rfl) ?_
  | refine rd_c ?_
  | refine rd_op ?_
  | refine rd_un ?_
  | refine rd_test ?_
  | refine rd_B ?_
  | refine rd_I0 ?_
  | refine rd_U ?_
  | refine rd_eqI ?_
  | refine rd_neI ?_
  | refine rd_eqS ?_
  | refine rd_neS ?_
  | refine rd_and ?_
  | refine rd_or ?_
  | refine rd_not ?_
  | refine rd_andV ?_
  | refine rd_orV ?_
  | refine rd_notV ?_
  | refine rd_ife ?_
  | refine rd_chain ?_
  | refine rd_exb ?_
  | refine rd_exi ?_
  | refine rd_nil ?_
  | refine rd_cons ?_
  | refine rd_CB ?_
  | refine rd_G ?_
  | refine rd_fld ?_
  | refine rd_sl ?_
  | refine rd_part ?_
  | refine rd_noPart ?_
  | refine rd_leaf ?_
  | refine rd_tup ?_
  | refine rd_lst ?_
  | refine rd_star ?_
  | refine rd_bm ?_
  | refine rd_bm0 ?_
  | refine rd_gsub ?_
  | refine rd_rev ?_
  | refine rd_gnil ?_
  | refine rd_gcons ?_
  | refine rd_yes ?_
  | refine rd_abs ?_
  | refine rd_max2 ?_
  | refine rd_min2 ?_
  | refine rd_int1 ?_
  | refine rd_int1b ?_
  | refine rd_inSign ?_
  | refine rd_niSign ?_
  | refine rd_isN ?_
  | refine rd_ntN ?_
  | refine rd_dcLst ?_
  | refine rd_dcTup ?_
  | refine rd_dcItems ?_
  | refine rd_lcTup ?_
  | refine rd_lcLst ?_
  | refine rd_lcStr ?_
  | refine rd_lcR1 ?_
  | refine rd_lcR2 ?_
  | refine rd_lcKeys ?_
  | refine rd_lcVals ?_
  | refine rd_lcItems ?_
  | refine rd_lcZip ?_
  | refine rd_forTup ?_
  | refine rd_forLst ?_
  | refine rd_forR1 ?_
  | refine rd_forR2 ?_
  | refine rd_forR3 ?_
  | refine rd_forZip ?_
  | refine rd_forItems ?_
  | refine rd_lcEnumT ?_
  | refine rd_forEnumT ?_
  | refine rd_oneStr ?_
  | refine rd_mkR ?_
  | refine rd_mk0 ?_
  | refine rd_mR ?_
  | refine rd_mN ?_
  | refine rd_pr ?_
  | refine rd_cmR ?_
  | refine rd_makeC ?_
  | refine rd_tM1 ?_
  | refine rd_fmtT ?_
  | refine ⟨rd_exs, ?_⟩
  | refine rd_stepL ?_
  | refine rd_listZip ?_
  | refine rd_lenSetS ?_
  | refine rd_sfld ?_
  | refine rd_jc ?_
  | refine rd_jn ?_
  | refine rd_par ?_
  | refine rd_par3 ?_
  | refine rd_dupd ?_
  | refine rd_disp ?_
  | refine rd_pc ?_
  | refine rd_pn ?_
  | refine rd_dni ?_
  | refine rd_dget ?_
  | refine rd_dget2 ?_
  | refine rd_dput ?_
  | refine rd_T ?_
  | refine rd_F ?_
  | refine rd_nT ?_
  | refine rd_nF ?_))
/-! ### None in a list of instances with an own == -/
open PyProof.Rows in
theorem none_notSub (K : PySem.W.Frag) (C : Addr) : PySem.W.notFirst K C (.type "NoneType") = true := by
  have e : fastBuiltinMro "NoneType" = some [.type "NoneType", .type "object"] := by decide +kernel
  unfold PySem.W.notFirst
  simp only [PySem.W.subIn, e]
  rfl
def rNonIn (K : PySem.W.Frag) (C : Addr) (sp : Sp) : R2 := fun x y H Q => ∃ (l : Addr) (as : List Addr), x = .non ∧ y = .ref l ∧ SqL K H l (as.map V.ref) ∧ (∀ a ∈ as, (∃ dx fs, H a = some (.ins C dx fs)) ∧ sp [.ref a, .non] H (fun v H' => v = .bl false ∧ H' = H) E0) ∧ Q (.bl false) H
theorem refs_eq : ∀ {as : List Addr} {us : List Value}, Vals (as.map V.ref) us → us = as.map Value.ref
  | [], _, .nil => rfl
  | a :: as, _, .cons r t => by rw [List.map_cons, refs_eq t, show _ = Value.ref a from r]
open AutoSeq1 (wpAny_loadPart')
open PyProof.Rows in
theorem op_nonIn {X : Cx} {n : Nat} {C : Addr} {sp : Sp} (G : Rf X.prog X.w X.K X.mg X.base (NeC X.K C) n sp) (hr : Room (n + 1) X.A) : OpR X (compareOp .In) (rNonIn X.K C sp) := by
  obtain ⟨f, FF, c⟩ := G
  intro pins s σ H x y v u Q I rx ry h
  obtain ⟨l, as, rfl, rfl, hl, ha, q⟩ := h
  obtain rfl : v = Value.none := rx
  obtain rfl : u = Value.ref l := ry
  obtain ⟨its, r, pl, hz⟩ := I.list hl
  have loop : ∀ (k i : Nat) (s1 : Shared) (R : Result → Shared → Prop), as.length - i = k → Inv X pins σ H s1 → (∀ s2, Inv X pins σ H s2 → R (.ok (.ret (.bool false))) s2) → (∀ e s2, X.xe e s2 → R (.error e) s2) →
      codeAny (model X.prog X.w) X.A (.builtin "list.__contains__.loop" ⟨[.ref l, .none, rawInt i], []⟩) R s1 := by
    intro k
    induction k with
    | zero =>
      intro i s1 R hk I1 done bad
      obtain ⟨its1, r1, pl1, _⟩ := I1.list hl
      have e1 := refs_eq r1
      subst e1
      obtain ⟨⟨cls, dd, data, sl⟩, ho, hc, nn, hd⟩ := pl1.isList
      simp only at hc hd
      subst hc hd
      refine codeAny_builtin MeetsSeq.entry_contains_loop ?_
      rw [Around.under_plainId MeetsSeq.plain_contains_loop _]
      have hi : ((as.map Value.ref).toArray)[((i : Nat) : Int).toNat]? = none := by simp; omega
      obtain ⟨hp, g, d, tk, os⟩ := s1
      wp_walk using wpAny_loadPart' ho
      rw [hi]
      wp_walk
      exact done _ I1
    | succ k ih =>
      intro i s1 R hk I1 done bad
      obtain ⟨its1, r1, pl1, _⟩ := I1.list hl
      have e1 := refs_eq r1
      subst e1
      obtain ⟨⟨cls, dd, data, sl⟩, ho, hc, nn, hd⟩ := pl1.isList
      simp only at hc hd
      subst hc hd
      have hlt : i < as.length := by omega
      obtain ⟨⟨dx, fs, hax⟩, hsp⟩ := ha as[i] (List.getElem_mem hlt)
      refine codeAny_builtin MeetsSeq.entry_contains_loop ?_
      rw [Around.under_plainId MeetsSeq.plain_contains_loop _]
      have hi : ((as.map Value.ref).toArray)[((i : Nat) : Int).toNat]? = some (.ref as[i]) := by simp [hlt]
      generalize as[i] = a at *
      have key : wpAny (model X.prog X.w) X.A.in1 (eqBool (.ref a) .none) (fun b s2 => b = false ∧ Inv X pins σ H s2) (fun e s' => R (.error e) s') s1 := by
        obtain ⟨mA, J, _⟩ := ins_get I1.hok hax
        obtain ⟨od, J, _⟩ := J.look
        obtain ⟨m, hF⟩ := I1.fr
        unfold eqBool
        refine wpAny_holding ?_
        refine wpAny_ite_split (fun hab => absurd (eq_of_beq hab) (fun z => nomatch z)) (fun _ => ?_)
        refine wpAny_bind (wpAny_mono (PySem.W.cmp_K (op := .Eq) (tb := .type "NoneType") (Q := fun v s2 => v = .bool false ∧ Inv X pins σ H s2) (E := X.xe) hr.in1.units0 hF I1.ok.mod.kin J (PySem.W.Looks.of_pure rfl) (none_notSub _ _) c.eq c.fn
          (wpAny_mono (wpAny_call (SlX.run_at (us := [.ref a, .none]) (ws := [.ref a, .non]) FF hr.in1 I1.env0.in1 pass0 I1 (.cons rfl (.cons rfl .nil)) hsp)) (fun w s' z => ?_) fun _ _ x => x)) (fun v s' z => ?_) fun e s' x => bad e s' x)
        · obtain ⟨z', H', I', rz, ez, eH⟩ := z
          subst ez eH
          obtain rfl : w = Value.bool false := rz
          exact ⟨rfl, I'⟩
        · obtain ⟨rfl, I'⟩ := z
          exact wpAny_truthy_bool ⟨rfl, I'⟩
      obtain ⟨hp, g, d, tk, os⟩ := s1
      wp_walk using wpAny_loadPart' ho
      rw [hi]
      refine wpAny_bind (wpAny_mono key (fun b s2 z => ?_) fun _ _ x => x)
      obtain ⟨rfl, I2⟩ := z
      have hc : ((i : Int) + 1) = ((i + 1 : Nat) : Int) := by push_cast; rfl
      wp_walk
      rw [hc]
      exact ⟨plainId_quiet MeetsSeq.plain_contains_loop _, ih (i + 1) s2 R (by omega) I2 done bad⟩
  have ty : s.TypeIs (.ref l) "list" := pl.isList.typeIs
  show wpAny _ X.A (do return Value.bool (← contains (.ref l) .none)) _ _ s
  refine wpAny_bind (wpAny_contains_slot ty PySem.F.slot_list_contains (wpAny_mono (call_meetsIn PySem.F.slot_list_contains ty PySem.F.entry_list_contains (PySem.F.args_list_contains_2 _ _) (Q := fun v s2 => v = .bool false ∧ Inv X pins σ H s2) (E := X.xe) (S := fun A R s0 => A = X.A ∧ s0 = s ∧ (∀ s2, Inv X pins σ H s2 → R (.ok (.ret (.bool false))) s2) ∧ ∀ e s2, X.xe e s2 → R (.error e) s2) (fun A R s0 hS => ?_) ⟨rfl, rfl, fun s2 I2 => ⟨rfl, I2⟩, fun e s2 z => z⟩) (fun v s2 z => ?_) fun _ _ x => x))
  · obtain ⟨rfl, rfl, h1, h2⟩ := hS
    obtain ⟨⟨cls, dd, data, sl⟩, ho, hc, nn, hd⟩ := pl.isList
    simp only at hc hd
    subst hc hd
    obtain ⟨hp, g, d, tk, os⟩ := s0
    wp_walk using wpAny_loadPart' ho
    exact ⟨plainId_quiet MeetsSeq.plain_contains_loop _, loop _ 0 _ R rfl I h1 h2⟩
  · obtain ⟨rfl, I2⟩ := z
    exact wpAny_truthy_bool (wpAny_pure ⟨.bl false, H, I2, rfl, q⟩)
end FN
set_option maxHeartbeats 4000000
namespace FN
open PySem PySem.Spec PyProof.Rows L2
local macro_rules | `(tactic| walk_at "w") => `(tactic| repeat (with_reducible first
  | refine rd_seq ?_
  | refine rd_asg ?_
  | refine rd_name ?_
  | refine rd_ret ?_
  | refine rd_drop ?_
  | refine rd_if ?_
  | refine rd_next ?_
  | refine rd_var (by k_dflt rfl) ?_
  | refine rd_c ?_
  | refine rd_op ?_
  | refine rd_un ?_
  | refine rd_test ?_
  | refine rd_B ?_
  | refine rd_I0 ?_
  | refine rd_U ?_
  | refine rd_eqI ?_
  | refine rd_neI ?_
  | refine rd_eqS ?_
  | refine rd_neS ?_
  | refine rd_and ?_
  | refine rd_or ?_
  | refine rd_not ?_
  | refine rd_andV ?_
  | refine rd_orV ?_
  | refine rd_notV ?_
  | refine rd_ife ?_
  | refine rd_chain ?_
  | refine rd_exb ?_
  | refine rd_exi ?_
  | refine rd_nil ?_
  | refine rd_cons ?_
  | refine rd_CB ?_
  | refine rd_G ?_
  | refine rd_fld ?_
  | refine rd_sl ?_
  | refine rd_part ?_
  | refine rd_noPart ?_
  | refine rd_leaf ?_
  | refine rd_tup ?_
  | refine rd_lst ?_
  | refine rd_star ?_
  | refine rd_bm ?_
  | refine rd_bm0 ?_
  | refine rd_gsub ?_
  | refine rd_rev ?_
  | refine rd_gnil ?_
  | refine rd_gcons ?_
  | refine rd_yes ?_
  | refine rd_abs ?_
  | refine rd_max2 ?_
  | refine rd_min2 ?_
  | refine rd_int1 ?_
  | refine rd_int1b ?_
  | refine rd_inSign ?_
  | refine rd_niSign ?_
  | refine rd_isN ?_
  | refine rd_ntN ?_
  | refine rd_dcLst ?_
  | refine rd_dcTup ?_
  | refine rd_dcItems ?_
  | refine rd_lcTup ?_
  | refine rd_lcLst ?_
  | refine rd_lcStr ?_
  | refine rd_lcR1 ?_
  | refine rd_lcR2 ?_
  | refine rd_lcKeys ?_
  | refine rd_lcVals ?_
  | refine rd_lcItems ?_
  | refine rd_lcZip ?_
  | refine rd_forTup ?_
  | refine rd_forLst ?_
  | refine rd_forR1 ?_
  | refine rd_forR2 ?_
  | refine rd_forR3 ?_
  | refine rd_forZip ?_
  | refine rd_forItems ?_
  | refine rd_lcEnumT ?_
  | refine rd_forEnumT ?_
  | refine rd_oneStr ?_
  | refine rd_mkR ?_
  | refine rd_mk0 ?_
  | refine rd_mR ?_
  | refine rd_mN ?_
  | refine rd_pr ?_
  | refine rd_cmR ?_
  | refine rd_makeC ?_
  | refine rd_tM1 ?_
  | refine rd_fmtT ?_
  | refine ⟨rd_exs, ?_⟩
  | refine rd_stepL ?_
  | refine rd_listZip ?_
  | refine rd_lenSetS ?_
  | refine rd_sfld ?_
  | refine rd_jc ?_
  | refine rd_jn ?_
  | refine rd_par ?_
  | refine rd_par3 ?_
  | refine rd_dupd ?_
  | refine rd_disp ?_
  | refine rd_pc ?_
  | refine rd_pn ?_
  | refine rd_dni ?_
  | refine rd_dget ?_
  | refine rd_dget2 ?_
  | refine rd_dput ?_
  | refine rd_T ?_
  | refine rd_F ?_
  | refine rd_nT ?_
  | refine rd_nF ?_))
/-! rules and books read -/
structure ReadsRule (z : Str) (r : Tm × Tm) : Prop where
  len : z.length ≤ 1000
  ex : ∃ z1 z2, Txt.split z " => " = [z1, z2] ∧ Reads z1 r.1 ∧ Reads z2 r.2
section
variable {P : Program} {w : World} {K : PySem.W.Frag} {mg : Str → Option Value} {base : Heap} {C : Ad}
def sp_side_of (K : PySem.W.Frag) (C : Ad) : Sp := fun vs H Q _ => ∃ z t, vs = [.str z] ∧ Reads z t ∧ TmW t ∧ ∀ x H', Same H H' → TermAt K C H' x t → Q (.ref x) H'
theorem ok_side_of (T : Ty K mg C) : Gf P w K mg base "side_of" 8 (sp_side_of K C) := by
  have G_Term_read := (ok_Tread (P := P) (w := w) (base := base) T).rf
  refine T.d_side_of.ok sc_side_of (fun vs H Q E h => ?_) (fun f cdv A outer s H vs Q E hr h => ?_)
  · obtain ⟨z, t, rfl, _⟩ := h
    rfl
  obtain ⟨z, t, rfl, hz, ht, k⟩ := h
  refine ⟨_, (pss_one (ps_try_thru0 (pss_one (ps_ret (pe_cm G_Term_read (pe_glob (v := .ref C.t) rfl T.g_Term rfl) (hr.mono (by decide)) (pa_cons (pv 0) pa_nil)))))), ?_⟩
  try dsimp only [nox_K]
  refine rd_st (σ' := [some (.str z)]) rfl ?_
  walk_at "w"
  refine ⟨rfl, ?_⟩
  walk_at "w"
  exact ⟨z, t, rfl, hz, ht, k⟩
def sp_read_rule (K : PySem.W.Frag) (C : Ad) : Sp := fun vs H Q _ => ∃ z r, vs = [.str z] ∧ ReadsRule z r ∧ TmW r.1 ∧ TmW r.2 ∧ ∀ x H', Same H H' → PairAt K C H' x r → x ≠ .non → Q x H'
theorem ok_read_rule (T : Ty K mg C) : Gf P w K mg base "read_rule" 9 (sp_read_rule K C) := by
  have G_side_of := ok_side_of (P := P) (w := w) (base := base) T
  have G_Teq := (ok_Teq (P := P) (w := w) (base := base) T).rf
  refine T.d_read_rule.ok sc_read_rule (fun vs H Q E h => ?_) (fun f cdv A outer s H vs Q E hr h => ?_)
  · obtain ⟨z, t, rfl, _⟩ := h
    rfl
  obtain ⟨z, r, rfl, ⟨hzl, z1, z2, hsp, hr1, hr2⟩, hw1, hw2, k⟩ := h
  refine ⟨_, (pss_cons (ps_set (i := 1) sc_read_rule.nd rfl (Or.inl rfl) (pe_ifExp (pt_val (pe_callB call_isi rfl T.f_isinstance (by decide +kernel) (pa_cons (pv 0) (pa_cons (pe_bltn (v := .ty "str") rfl T.f_str (by decide +kernel) rfl) pa_nil)))) (pe_split (pv 0) (pe_gS T.c_ARROW)) (pe_lst pa_nil)))
    (pss_cons (ps_if (pt_cmpR op_ne (pe_callB c_lenS rfl T.f_len PySem.boot_len (pa_cons (pv 1) pa_nil)) pe_int (nomark _)) (pss_one (ps_ret pe_non)) pss_nil)
    (pss_cons (ps_setLc (i := 2) (own := [("side", 3)]) rfl sc_read_rule.nd rfl rfl (sw_true rfl rfl rfl (by decide +kernel)) (pi_list (pv 1)) (blkOk_by (own := [("side", 3)]) (N := ["line", "sides", "found", "side"]) (sc := defScope s_read_rule) (by decide +kernel)) (fun _ _ _ _ _ => (pg_name (i := 3) sc_read_rule.nd rfl (Or.inl rfl))) (fun _ _ _ _ _ => pts_nil) (fun _ _ _ _ _ => (pe_g G_side_of (hr.mono (by decide)) (pa_cons (pv 3) pa_nil))))
    (pss_one (ps_ret (pe_ifExp (pt_cmpR (op_nonIn G_Teq (hr.mono (by decide))) pe_non (pv 2) (by rfl)) pe_non (pe_tup (pa_cons (pe_ix ix_list (pv 2) pe_int (fun _ _ => rfl)) (pa_cons (pe_ix ix_list (pv 2) pe_int (fun _ _ => rfl)) pa_nil))))))))), ?_⟩
  try dsimp only [nox_K]
  refine rd_st (σ' := [some (.str z), none, none, none]) rfl ?_
  walk_at "w"
  refine rd_isi_str (b := true) (by decide +kernel) ?_
  walk_at "w"
  refine ⟨z, " => ", rfl, rfl, by decide +kernel, small (by omega), fun wl hwl => ?_⟩
  rw [hsp]
  have s1 := same_new hwl (.lst ([z1, z2].map V.str))
  have g1 : upd H wl (.lst ([z1, z2].map V.str)) wl = some (.lst [.str z1, .str z2]) := upd_same
  generalize upd H wl (.lst ([z1, z2].map V.str)) = H1 at *
  walk_at "w"
  refine rd_len (.inl (SqL.of g1)) ?_
  walk_at "w"
  refine rd_ndT rfl ?_
  walk_at "w"
  refine rd_oneLst (SqL.of g1) fun D hD => ?_
  have hside : ∀ (i : Nat) x, [V.str z1, .str z2][i]? = some x → ∃ y u, x = .str y ∧ Reads y u ∧ TmW u ∧ [r.1, r.2][i]? = some u := fun i x hx => by
    match i, hx with
    | 0, hx => cases hx; exact ⟨z1, r.1, rfl, hr1, hw1, rfl⟩
    | 1, hx => cases hx; exact ⟨z2, r.2, rfl, hr2, hw2, rfl⟩
    | i + 2, hx => cases hx
  refine lc_map (walk_list (xs := [V.str z1, .str z2])) (fun i y H' => ∃ u a, [r.1, r.2][i]? = some u ∧ y = .ref a ∧ TermAt K C H' a u) (by simp) hD (fun i y H H' q kk => ?_) (fun H' s => SqL.of (s _ _ g1)) ?_ ?_
  · obtain ⟨u, a, h1, h2, h3⟩ := q
    exact ⟨u, a, h1, h2, h3.kp kk⟩
  · rintro i acc x H3 H2 hi hl s2 hD' rr ⟨rfl, hx⟩
    obtain ⟨y, u, rfl, h1, h2, h3⟩ := hside i x hx
    walk_at "w"
    refine ⟨rfl, ?_⟩
    walk_at "w"
    refine ⟨y, u, rfl, h1, h2, fun a H4 s4 ha => ?_⟩
    refine lc_put (by have : [V.str z1, V.str z2].length = 2 := rfl; omega) hl hD' hD s2 s4 (fun i y H H' q kk => ?_) rr ⟨u, a, h3, rfl, ha⟩
    obtain ⟨u, a, h1, h2, h3⟩ := q
    exact ⟨u, a, h1, h2, h3.kp kk⟩
  · intro acc H2 s2 hD' hl hf
    obtain ⟨x1, x2, rfl⟩ := len_two hl
    obtain ⟨u1, a1, e1, rfl, ha1⟩ := hf 0 _ rfl
    cases e1
    obtain ⟨u2, a2, e2, rfl, ha2⟩ := hf 1 _ rfl
    cases e2
    walk_at "w"
    refine ⟨D, [a1, a2], rfl, rfl, SqL.of hD', fun a ha => ?_, ?_⟩
    · have hT : ∃ u, TermAt K C H2 a u ∧ TmW u := by
        rcases List.mem_cons.mp ha with rfl | ha
        · exact ⟨r.1, ha1, hw1⟩
        · rw [List.mem_singleton] at ha
          subst ha
          exact ⟨r.2, ha2, hw2⟩
      obtain ⟨u, hu, hwu⟩ := hT
      obtain ⟨dx, n, c, e, s, uu, l, hi⟩ := termIns hu
      exact ⟨⟨dx, _, hi⟩, a, u, hu, hwu, .inr ⟨rfl, rfl, rfl⟩⟩
    walk_at "w"
    refine rd_ixL (SqL.of hD') (v := .ref a1) rfl ?_
    walk_at "w"
    refine rd_ixL (SqL.of hD') (v := .ref a2) rfl ?_
    walk_at "w"
    refine ⟨small (by simp), fun q hq => ?_⟩
    have s3 := same_new hq (.tup [V.ref a1, .ref a2])
    exact k _ _ (s1.trans (s2.trans s3)) ⟨q, a1, a2, rfl, sqT_of upd_same, ha1.kp (kp_same s3), ha2.kp (kp_same s3)⟩ (fun z => nomatch z)
end
end FN
set_option maxHeartbeats 4000000
namespace FN
open PySem PySem.Spec PyProof.Rows L2
local macro_rules | `(tactic| walk_at "w") => `(tactic| repeat (with_reducible first
  | refine rd_seq ?_
  | refine rd_asg ?_
  | refine rd_name ?_
  | refine rd_ret ?_
  | refine rd_drop ?_
  | refine rd_if ?_
  | refine rd_next ?_
  | refine rd_var (by k_dflt rfl) ?_
  | refine rd_c ?_
  | refine rd_op ?_
  | refine rd_un ?_
  | refine rd_test ?_
  | refine rd_B ?_
  | refine rd_I0 ?_
  | refine rd_U ?_
  | refine rd_eqI ?_
  | refine rd_neI ?_
  | refine rd_eqS ?_
  | refine rd_neS ?_
  | refine rd_and ?_
  | refine rd_or ?_
  | refine rd_not ?_
  | refine rd_andV ?_
  | refine rd_orV ?_
  | refine rd_notV ?_
  | refine rd_ife ?_
  | refine rd_chain ?_
  | refine rd_exb ?_
  | refine rd_exi ?_
  | refine rd_nil ?_
  | refine rd_cons ?_
  | refine rd_CB ?_
  | refine rd_G ?_
  | refine rd_fld ?_
  | refine rd_sl ?_
  | refine rd_part ?_
  | refine rd_noPart ?_
  | refine rd_leaf ?_
  | refine rd_tup ?_
  | refine rd_lst ?_
  | refine rd_star ?_
  | refine rd_bm ?_
  | refine rd_bm0 ?_
  | refine rd_gsub ?_
  | refine rd_rev ?_
  | refine rd_gnil ?_
  | refine rd_gcons ?_
  | refine rd_yes ?_
  | refine rd_abs ?_
  | refine rd_max2 ?_
  | refine rd_min2 ?_
  | refine rd_int1 ?_
  | refine rd_int1b ?_
  | refine rd_inSign ?_
  | refine rd_niSign ?_
  | refine rd_isN ?_
  | refine rd_ntN ?_
  | refine rd_dcLst ?_
  | refine rd_dcTup ?_
  | refine rd_dcItems ?_
  | refine rd_lcTup ?_
  | refine rd_lcLst ?_
  | refine rd_lcStr ?_
  | refine rd_lcR1 ?_
  | refine rd_lcR2 ?_
  | refine rd_lcKeys ?_
  | refine rd_lcVals ?_
  | refine rd_lcItems ?_
  | refine rd_lcZip ?_
  | refine rd_forTup ?_
  | refine rd_forLst ?_
  | refine rd_forR1 ?_
  | refine rd_forR2 ?_
  | refine rd_forR3 ?_
  | refine rd_forZip ?_
  | refine rd_forItems ?_
  | refine rd_lcEnumT ?_
  | refine rd_forEnumT ?_
  | refine rd_oneStr ?_
  | refine rd_mkR ?_
  | refine rd_mk0 ?_
  | refine rd_mR ?_
  | refine rd_mN ?_
  | refine rd_pr ?_
  | refine rd_cmR ?_
  | refine rd_makeC ?_
  | refine rd_tM1 ?_
  | refine rd_fmtT ?_
  | refine ⟨rd_exs, ?_⟩
  | refine rd_stepL ?_
  | refine rd_listZip ?_
  | refine rd_lenSetS ?_
  | refine rd_sfld ?_
  | refine rd_jc ?_
  | refine rd_jn ?_
  | refine rd_par ?_
  | refine rd_par3 ?_
  | refine rd_dupd ?_
  | refine rd_disp ?_
  | refine rd_pc ?_
  | refine rd_pn ?_
  | refine rd_dni ?_
  | refine rd_dget ?_
  | refine rd_dget2 ?_
  | refine rd_dput ?_
  | refine rd_T ?_
  | refine rd_F ?_
  | refine rd_nT ?_
  | refine rd_nF ?_))
/-! the law's last book -/
def R0 : List (Tm × Tm) := [(T1, lf "_"), (T2, lf "_"), (T3, lf "_"), (T4, lf "_")]
def RLN : List Str := ["f(a, b, _) => _", "f(_, a, b) => _", "f(b, _, a) => _", "g => _"]
theorem lrs0 : LRs GS R0 where
  st := gs_mem
  len := by decide
  ok := fun r hr => by
    simp only [R0, List.mem_cons, List.not_mem_nil, or_false] at hr
    rcases hr with rfl | rfl | rfl | rfl <;> exact gs_rule (by simp) (by simp)
  nod := gs_nod
theorem reads1 : Reads "f(a, b, _)" T1 := ⟨by decide +kernel, 20, ["f", "(", "a", ", ", "b", ", ", "_", ")"], by decide +kernel, by decide, by decide +kernel⟩
theorem reads2 : Reads "f(_, a, b)" T2 := ⟨by decide +kernel, 20, ["f", "(", "_", ", ", "a", ", ", "b", ")"], by decide +kernel, by decide, by decide +kernel⟩
theorem reads3 : Reads "f(b, _, a)" T3 := ⟨by decide +kernel, 20, ["f", "(", "b", ", ", "_", ", ", "a", ")"], by decide +kernel, by decide, by decide +kernel⟩
theorem reads4 : Reads "g" T4 := ⟨by decide +kernel, 20, ["g"], by decide +kernel, by decide, by decide +kernel⟩
theorem readsU : Reads "_" (lf "_") := ⟨by decide +kernel, 20, ["_"], by decide +kernel, by decide, by decide +kernel⟩
theorem rln_reads : ∀ (i : Nat) (z : Str), RLN[i]? = some z → ∃ r, R0[i]? = some r ∧ ReadsRule z r := fun i z hz => by
  match i, hz with
  | 0, hz => cases hz; exact ⟨_, rfl, by decide +kernel, _, _, by decide +kernel, reads1, readsU⟩
  | 1, hz => cases hz; exact ⟨_, rfl, by decide +kernel, _, _, by decide +kernel, reads2, readsU⟩
  | 2, hz => cases hz; exact ⟨_, rfl, by decide +kernel, _, _, by decide +kernel, reads3, readsU⟩
  | 3, hz => cases hz; exact ⟨_, rfl, by decide +kernel, _, _, by decide +kernel, reads4, readsU⟩
  | i + 4, hz => cases hz
section
variable {P : Program} {w : World} {K : PySem.W.Frag} {mg : Str → Option Value} {base : Heap} {C : Ad}
def sp_Bread (K : PySem.W.Frag) (C : Ad) : Sp := fun vs H Q _ => ∃ v : Addr, vs = [.ref C.b, .ref v] ∧ SqT K H v ((SYM :: RLN).map V.str) ∧ ∀ b H', Same H H' → BookAt K C H' b GS R0 → Q (.ref b) H'
theorem ok_Bread (T : Ty K mg C) : Rf P w K mg base (CmC K C.b "read") 50 (spStar 1 (sp_Bread K C)) := by
  have G_read_symbols := ok_read_symbols (P := P) (w := w) (base := base) T
  have G_read_rule := ok_read_rule (P := P) (w := w) (base := base) T
  have G_Book___init__ := (ok_Book (P := P) (w := w) (base := base) T).rf
  refine T.c_b_read.ok sc_Book_read (fun f cdv A outer s H vs Q E hr h => ?_)
  obtain ⟨v, rfl, hv, k⟩ := h
  refine ⟨_, (pss_cons (ps_set (i := 2) sc_Book_read.nd rfl (Or.inl rfl) (pe_ifExp (pt_cmpR (op_neD hr.units) (pv 1) (pe_tup pa_nil) (nomark _)) (pe_g G_read_symbols (hr.mono (by decide)) (pa_cons (pe_ix ix_tup (pv 1) pe_int (fun _ _ => rfl)) pa_nil)) pe_non))
    (pss_cons (ps_if (pt_cmpR o_isN (pv 2) pe_non (nomark _)) (pss_one ps_never) pss_nil)
    (pss_cons (ps_set (i := 3) sc_Book_read.nd rfl (Or.inl rfl) (pe_lst pa_nil))
    (pss_cons (ps_for PassesOwn.never rfl (pi_enumT rfl T.f_enumerate (pa_cons (pe_slice sl_tupA (pv 1) (po_some pe_int) po_none) pa_nil)) (pg_tup (n := 2) rfl (pgs_cons (pg_name (i := 4) sc_Book_read.nd rfl (Or.inl rfl)) (pgs_cons (pg_name (i := 5) sc_Book_read.nd rfl (Or.inl rfl)) pgs_nil))) (pss_cons (ps_set (i := 6) sc_Book_read.nd rfl (Or.inl rfl) (pe_g G_read_rule (hr.mono (by decide)) (pa_cons (pv 5) pa_nil)))
      (pss_cons (ps_if (pt_cmpR o_isN (pv 6) pe_non (nomark _)) (pss_one ps_never) pss_nil)
      (pss_one (ps_expr (pe_bm PySem.F.plainAttrs_list PySem.F.slot_list_append PySem.F.type_list_append mt_append (pv 3) (pa_cons (pv 6) pa_nil)))))))
    (pss_one (ps_ret (pe_mkC G_Book___init__ (pv 0) (hr.mono (by decide)) (pa_cons (pv 2) (pa_cons (pe_callTy c_tupS rfl T.f_tuple (by decide +kernel) (pa_cons (pv 3) pa_nil)) pa_nil))))))))), ?_⟩
  try dsimp only [nox_K]
  refine rd_st (σ' := [some (.ref C.b), some (.ref v), none, none, none, none, none]) rfl ?_
  walk_at "w"
  refine ⟨small (by simp), fun e0 he0 => ?_⟩
  have s1 := same_new he0 (.tup [])
  have g1 : upd H e0 (.tup []) e0 = some (.tup []) := upd_same
  generalize upd H e0 (.tup []) = H1 at *
  have hv1 := sqT_kp (kp_same s1) hv
  refine ⟨_, _, .tup hv1 (dpAll_strs (SYM :: RLN)), .tup (sqT_of g1) .nil, by decide +kernel, by decide +kernel, ?_⟩
  rw [eqv_nilT]
  walk_at "w"
  refine rd_ndF (by simp) ?_
  walk_at "w"
  refine rd_ixT hv1 (v := .str SYM) rfl ?_
  walk_at "w"
  refine ⟨rfl, fun sd H2 s2 hsd => ?_⟩
  walk_at "w"
  refine rd_dF (fun z => nomatch z) ?_
  walk_at "w"
  refine ⟨small (by simp), fun D hD => ?_⟩
  have s3 := same_new hD (.lst [])
  have gD : upd H2 D (.lst []) D = some (.lst []) := upd_same
  have hDs : sd ≠ D := ne_of_none hsd hD
  have hv2 := sqT_kp (kp_same s2) hv1
  generalize upd H2 D (.lst []) = H3 at *
  have hv3 := sqT_kp (kp_same s3) hv2
  walk_at "w"
  refine rd_slA hv3 fun p H4 s4 hp => ?_
  rw [show cutV ((SYM :: RLN).map V.str) (some 1) none = RLN.map V.str by decide +kernel] at hp
  walk_at "w"
  refine ⟨p, _, rfl, hp, ?_⟩
  have gD4 := s4 _ _ gD
  have sd4 := s4 _ _ (s3 _ _ hsd)
  have s24 : Same H2 H4 := s3.trans s4
  refine fo_it (walk_enumT (xs := RLN.map V.str)) (fun i σ H' => ∃ x4 x5 x6 acc, σ = [some (.ref C.b), some (.ref v), some (.ref sd), some (.ref D), x4, x5, x6] ∧ FrD D H4 H' ∧ H' D = some (.lst acc) ∧ PairsAt K C H' acc (R0.take i)) ⟨_, _, _, [], rfl, FrD.refl _ _, gD4, rfl, fun i x r h => by cases h⟩ (fun i σ H' _ ⟨_, _, _, _, _, f, _⟩ => sqT_kp (f.kp gD4) hp) ?_ ?_
  · rintro i x σ H6 H5 hi ⟨x4, x5, x6, acc, rfl, f5, hacc, hpa⟩ ⟨Ta, k1, v1, rfl, hTa, rfl, hk, hx1⟩
    have hk1 : k1 = vI i := by simpa using hk.symm
    subst hk1
    have hil : i < 4 := hi
    obtain ⟨z, hz, rfl⟩ : ∃ z, RLN[i]? = some z ∧ v1 = .str z := by
      dsimp only at hx1
      rw [List.getElem?_map] at hx1
      cases e : RLN[i]? with
      | none => rw [e] at hx1; cases hx1
      | some z => rw [e] at hx1; exact ⟨z, rfl, by simpa using hx1.symm⟩
    obtain ⟨r, hr0, hrr⟩ := rln_reads i z hz
    have hrk := (lrs0.ok r (List.mem_of_getElem? hr0)).ok (sets_sg GS gs_mem)
    have st := same_new hTa (.tup [vI i, .str z])
    have hal : acc.length = i := by rw [hpa.1, List.length_take]; show min i 4 = i; omega
    refine rd_gtup (sqT_of upd_same) rfl ?_
    walk_at "w"
    refine ⟨z, r, rfl, hrr, hrk.w1, hrk.w2, fun y H7 s7 hy hyn => ?_⟩
    walk_at "w"
    refine rd_dF hyn ?_
    walk_at "w"
    have hD7 := s7 _ _ (st _ _ hacc)
    refine ⟨tyV_l (SqL.of hD7), ?_⟩
    walk_at "w"
    refine rd_append hD7 (small (by omega)) ?_
    refine ⟨_, _, _, acc ++ [y], rfl, f5.trans ((FrD.of (st.trans s7)).trans fun a o n q => by rw [upd_ne n]; exact q), upd_same, ?_⟩
    have hpa7 := (hpa.kp (kp_same (st.trans s7))).kp (kp_lst (o := .lst (acc ++ [y])) hD7)
    rw [take_succ_get hr0]
    refine ⟨by rw [List.length_append, List.length_append, hpa7.1]; rfl, fun j x r' h1 h2 => ?_⟩
    rcases Nat.lt_or_ge j acc.length with hj | hj
    · rw [List.getElem?_append_left hj] at h1
      rw [List.getElem?_append_left (by rw [← hpa.1]; exact hj)] at h2
      exact hpa7.2 j x r' h1 h2
    · rw [List.getElem?_append_right hj] at h1
      rw [List.getElem?_append_right (by rw [← hpa.1]; exact hj), ← hpa.1] at h2
      cases hjz : j - acc.length with
      | zero =>
        rw [hjz] at h1 h2
        cases h1; cases h2
        exact hy.kp (kp_lst hD7)
      | succ m => rw [hjz] at h1; cases h1
  · rintro σ H5 ⟨x4, x5, x6, acc, rfl, f5, hacc, hpa⟩
    rw [show R0.take (RLN.map V.str).length = R0 from rfl] at hpa
    have hsd5 := f5 _ _ hDs sd4
    have sF : Same H H5 := fun a o q => f5 _ _ (ne_of_none ((s1.trans s2) _ _ q) hD) (s24 _ _ ((s1.trans s2) _ _ q))
    walk_at "w"
    refine ⟨rfl, ?_⟩
    walk_at "w"
    refine rd_tupS (SqL.of hacc) fun l hl => ?_
    have sl := same_new hl (.tup acc)
    walk_at "w"
    intro x dx hx0 hdx hne
    have s3' : Same (upd H5 l (.tup acc)) (upd (upd (upd H5 l (.tup acc)) dx (.own x)) x (.ins C.b dx [])) := same_make hx0 hdx
    exact ⟨x, dx, sd, l, acc, GS, R0, rfl, upd_same, s3' _ _ (sl _ _ hsd5), sets_sg GS gs_mem, sqT_of (s3' _ _ upd_same), (hpa.kp (kp_same sl)).kp (kp_same s3'), lrs0.book.rs, fun H' fr hB => ⟨rfl, k x H' (sF.trans (sl.trans (same_made hx0 hdx fr))) hB⟩⟩
end
end FN
set_option maxHeartbeats 4000000
namespace FN
open PySem PySem.Spec PyProof.Rows L2
local macro_rules | `(tactic| walk_at "w") => `(tactic| repeat (with_reducible first
  | refine rd_seq ?_
  | refine rd_asg ?_
  | refine rd_name ?_
  | refine rd_ret ?_
  | refine rd_drop ?_
  | refine rd_if ?_
  | refine rd_next ?_
  | refine rd_var (by k_dflt rfl) ?_
  | refine rd_c ?_
  | refine rd_op ?_
  | refine rd_un ?_
  | refine rd_test ?_
  | refine rd_B ?_
  | refine rd_I0 ?_
  | refine rd_U ?_
  | refine rd_eqI ?_
  | refine rd_neI ?_
  | refine rd_eqS ?_
  | refine rd_neS ?_
  | refine rd_and ?_
  | refine rd_or ?_
  | refine rd_not ?_
  | refine rd_andV ?_
  | refine rd_orV ?_
  | refine rd_notV ?_
  | refine rd_ife ?_
  | refine rd_chain ?_
  | refine rd_exb ?_
  | refine rd_exi ?_
  | refine rd_nil ?_
  | refine rd_cons ?_
  | refine rd_CB ?_
  | refine rd_G ?_
  | refine rd_fld ?_
  | refine rd_sl ?_
  | refine rd_part ?_
  | refine rd_noPart ?_
  | refine rd_leaf ?_
  | refine rd_tup ?_
  | refine rd_lst ?_
  | refine rd_star ?_
  | refine rd_bm ?_
  | refine rd_bm0 ?_
  | refine rd_gsub ?_
  | refine rd_rev ?_
  | refine rd_gnil ?_
  | refine rd_gcons ?_
  | refine rd_yes ?_
  | refine rd_abs ?_
  | refine rd_max2 ?_
  | refine rd_min2 ?_
  | refine rd_int1 ?_
  | refine rd_int1b ?_
  | refine rd_inSign ?_
  | refine rd_niSign ?_
  | refine rd_isN ?_
  | refine rd_ntN ?_
  | refine rd_dcLst ?_
  | refine rd_dcTup ?_
  | refine rd_dcItems ?_
  | refine rd_lcTup ?_
  | refine rd_lcLst ?_
  | refine rd_lcStr ?_
  | refine rd_lcR1 ?_
  | refine rd_lcR2 ?_
  | refine rd_lcKeys ?_
  | refine rd_lcVals ?_
  | refine rd_lcItems ?_
  | refine rd_lcZip ?_
  | refine rd_forTup ?_
  | refine rd_forLst ?_
  | refine rd_forR1 ?_
  | refine rd_forR2 ?_
  | refine rd_forR3 ?_
  | refine rd_forZip ?_
  | refine rd_forItems ?_
  | refine rd_lcEnumT ?_
  | refine rd_forEnumT ?_
  | refine rd_oneStr ?_
  | refine rd_mkR ?_
  | refine rd_mk0 ?_
  | refine rd_mR ?_
  | refine rd_mN ?_
  | refine rd_pr ?_
  | refine rd_cmR ?_
  | refine rd_makeC ?_
  | refine rd_tM1 ?_
  | refine rd_fmtT ?_
  | refine ⟨rd_exs, ?_⟩
  | refine rd_stepL ?_
  | refine rd_listZip ?_
  | refine rd_lenSetS ?_
  | refine rd_sfld ?_
  | refine rd_jc ?_
  | refine rd_jn ?_
  | refine rd_par ?_
  | refine rd_par3 ?_
  | refine rd_dupd ?_
  | refine rd_disp ?_
  | refine rd_pc ?_
  | refine rd_pn ?_
  | refine rd_dni ?_
  | refine rd_dget ?_
  | refine rd_dget2 ?_
  | refine rd_dput ?_
  | refine rd_T ?_
  | refine rd_F ?_
  | refine rd_nT ?_
  | refine rd_nF ?_))
/-! the law -/
def t0 : Tm := .mk "f" [T4, lf "a", lf "b"]
def tU : Tm := .mk "f" [lf "b", lf "a", lf "b"]
def tA : Tm := .mk "f" [lf "a", lf "a", lf "a"]
def tB : Tm := .mk "f" [lf "a", lf "a", lf "_"]
theorem reads_t0 : Reads "f(g, a, b)" t0 := ⟨by decide +kernel, 20, ["f", "(", "g", ", ", "a", ", ", "b", ")"], by decide +kernel, by decide, by decide +kernel⟩
theorem reads_b : Reads "b" (lf "b") := ⟨by decide +kernel, 20, ["b"], by decide +kernel, by decide, by decide +kernel⟩
theorem reads_tA : Reads "f(a, a, a)" tA := ⟨by decide +kernel, 20, ["f", "(", "a", ", ", "a", ", ", "a", ")"], by decide +kernel, by decide, by decide +kernel⟩
theorem reads_tB : Reads "f(a, a, _)" tB := ⟨by decide +kernel, 20, ["f", "(", "a", ", ", "a", ", ", "_", ")"], by decide +kernel, by decide, by decide +kernel⟩
theorem last_b : ∀ t ∈ [t0, lf "b", tU, tA, tB], TmB GS t := fun t ht => by
  have h1 : ∀ t ∈ [t0, lf "b", tU, tA, tB], (∀ n ∈ nodes t, n ∈ GS ∨ (n.1 ∈ [("_" : Str)] ∧ n.2 = 0)) ∧ size t ≤ 40 := by decide +kernel
  exact TmG.b (h1 t ht).1 (sets_sg GS gs_mem) lvs_u (h1 t ht).2
def TOLD : PyData := .list [intsD [0, 1], intsD [1], .str "f(b, a, b)", .bool true]
section
variable {P : Program} {w : World} {K : PySem.W.Frag} {mg : Str → Option Value} {base : Heap} {C : Ad}
theorem sqL_same {H H' : Hp} {a : Addr} {xs : List V} (s : Same H H') (h : SqL K H a xs) : SqL K H' a xs := by
  rcases h with (h | ⟨o, h⟩) | h
  · exact .inl (.inl (s _ _ h))
  · exact .inl (.inr ⟨o, s _ _ h⟩)
  · exact .inr h
def sp_law (K : PySem.W.Frag) : Sp := fun vs H Q _ => ∃ (a : Addr) (is : List Int), vs = [.ref a] ∧ SqL K H a (is.map V.int) ∧ is.length ≤ 63 ∧ ∀ H', Q (.bl true) H'
theorem okGF {x : Str} {st : Stmt} {N ps : List Str} {k : Nat} {sp : Sp} {f : Addr} {fd : FuncData} (F : FunD K x x (defArgs st) (defBody st) (defScope st) [] [] f fd) (S : FnScope N ps (defScope st)) (len : ∀ vs H Q E, sp vs H Q E → vs.length = ps.length)
    (hbody : ∀ (cdv : Value) (A : Around) (outer : List Env) (s : Shared) (H : Hp) (vs : List V) (Q : VK) (E : XK), A.guards = some [] → Room k (A.deeper (envOfC x (defScope st) s.heap.objs.size f cdv)) → sp vs H Q E →
      ∃ t, PSs (cxOf CX0 P w K mg base N x (defScope st) f cdv A outer s H E).nox (defBody st) t ∧ t { nx := fun _ H' => Q .non H', rt := Q } (start N vs) H) : FnG P w K mg base (k + 1) f fd ps sp :=
  FnG.of F S len fun cdv A outer s H vs Q E hg hr h => by
    obtain ⟨t, ht, q⟩ := hbody cdv A outer s H vs Q E hg hr h
    exact ⟨t, PSs.nox ht, q⟩
theorem ok_law (T : Ty K mg C) {f : Addr} {fd : FuncData} (F : FunD K "law" "law" (defArgs s_law) (defBody s_law) (defScope s_law) [] [] f fd) : FnG P w K mg base 88 f fd ["_law_script"] (sp_law K) := by
  have G__law_right := ok_law_right (P := P) (w := w) (base := base) T
  have G__law_dice := ok_law_dice (P := P) (w := w) (base := base) T
  have G_Book_read := ok_Bread (P := P) (w := w) (base := base) T
  have G_Term_read := (ok_Tread (P := P) (w := w) (base := base) T).rf
  have G_Book_redexes := (ok_Bredexes (P := P) (w := w) (base := base) T).rf
  have G_Book_rules_at := (ok_Brules_at (P := P) (w := w) (base := base) T).rf
  have G_Book_step := ok_Bstep (P := P) (w := w) (base := base) T
  have G_Term_text := ok_text (P := P) (w := w) (base := base) T
  have G_Book_is_result := (ok_Bresult (P := P) (w := w) (base := base) T).rf
  refine okGF F sc_law (fun vs H Q E h => ?_) (fun cdv A outer s H vs Q E hg hr h => ?_)
  · obtain ⟨a, is, rfl, _⟩ := h
    rfl
  obtain ⟨a, is, rfl, ha, hil, k⟩ := h
  refine ⟨_, (pss_cons (ps_for PassesOwn.never rfl (pi_range1 rfl T.f_range (pa_cons (pe_callB (c_max2 rfl) rfl T.f_max (by decide +kernel) (pa_cons pe_int (pa_cons (pe_callB (c_min2 rfl) rfl T.f_min (by decide +kernel) (pa_cons pe_int (pa_cons (pe_callB c_lenS rfl T.f_len PySem.boot_len (pa_cons (pv 0) pa_nil)) pa_nil))) pa_nil))) pa_nil)) (pg_name (i := 1) sc_law.nd rfl (Or.inl rfl)) (pss_one (ps_if (pt_not (pt_val (pe_gG G__law_right (hr.mono (by decide)) hg (pa_cons (pe_g G__law_dice (hr.mono (by decide)) (pa_cons (pv 0) (pa_cons (pv 1) pa_nil))) pa_nil)))) (pss_one (ps_ret pe_bl)) pss_nil)))
    (pss_cons (ps_set (i := 2) sc_law.nd rfl (Or.inl rfl) (pe_cm G_Book_read (pe_glob (v := .ref C.b) rfl T.g_Book rfl) (hr.mono (by decide)) (pa_cons pe_str (pa_cons pe_str (pa_cons pe_str (pa_cons pe_str (pa_cons pe_str pa_nil)))))))
    (pss_cons (ps_set (i := 3) sc_law.nd rfl (Or.inl rfl) (pe_cm G_Term_read (pe_glob (v := .ref C.t) rfl T.g_Term rfl) (hr.mono (by decide)) (pa_cons pe_str pa_nil)))
    (pss_cons (ps_set (i := 4) sc_law.nd rfl (Or.inl rfl) (pe_lst (pa_cons (pe_m G_Book_redexes T.cl_b (pv 2) (hr.mono (by decide)) (pa_cons (pv 3) pa_nil)) (pa_cons (pe_m G_Book_rules_at T.cl_b (pv 2) (hr.mono (by decide)) (pa_cons (pv 3) (pa_cons pe_int pa_nil))) (pa_cons (pe_p G_Term_text T.cl_t (pe_m G_Book_step T.cl_b (pv 2) (hr.mono (by decide)) (pa_cons (pv 3) (pa_cons pe_int (pa_cons pe_int (pa_cons (pe_cm G_Term_read (pe_glob (v := .ref C.t) rfl T.g_Term rfl) (hr.mono (by decide)) (pa_cons pe_str pa_nil)) pa_nil))))) (hr.mono (by decide))) pa_nil)))))
    (pss_cons (ps_expr (pe_bm PySem.F.plainAttrs_list PySem.F.slot_list_append PySem.F.type_list_append mt_append (pv 4) (pa_cons (pe_m G_Book_is_result T.cl_b (pv 2) (hr.mono (by decide)) (pa_cons (pe_cm G_Term_read (pe_glob (v := .ref C.t) rfl T.g_Term rfl) (hr.mono (by decide)) (pa_cons pe_str pa_nil)) pa_nil)) pa_nil)))
    (pss_one (ps_ret (pe_and (pe_cmpR (op_eqD hr.units) (pv 4) (pe_lst (pa_cons (pe_tup (pa_cons pe_int (pa_cons pe_int pa_nil))) (pa_cons (pe_tup (pa_cons pe_int pa_nil)) (pa_cons pe_str (pa_cons pe_bl pa_nil))))) (nomark _)) (pe_one (pe_not (pe_m G_Book_is_result T.cl_b (pv 2) (hr.mono (by decide)) (pa_cons (pe_cm G_Term_read (pe_glob (v := .ref C.t) rfl T.g_Term rfl) (hr.mono (by decide)) (pa_cons pe_str pa_nil)) pa_nil)))))))))))), ?_⟩
  try dsimp only [nox_K]
  refine rd_st (σ' := [some (.ref a), none, none, none, none]) rfl ?_
  walk_at "w"
  refine rd_len (.inl ha) ?_
  walk_at "w"
  rw [List.length_map]
  have hn : ∃ n : Nat, (if (if (is.length : Int) < 5 then (is.length : Int) else 5) > 1 then (if (is.length : Int) < 5 then (is.length : Int) else 5) else 1) = (n : Int) ∧ n ≤ 5 := by
    by_cases h5 : (is.length : Int) < 5
    · rw [if_pos h5]
      by_cases h1 : (is.length : Int) > 1
      · rw [if_pos h1]; exact ⟨is.length, rfl, by omega⟩
      · rw [if_neg h1]; exact ⟨1, rfl, by omega⟩
    · rw [if_neg h5, if_pos (by decide)]
      exact ⟨5, rfl, by omega⟩
  obtain ⟨n, hn, hn5⟩ := hn
  rw [hn]
  refine ⟨_, rfl, by omega, by omega, ?_⟩
  rw [Int.toNat_natCast]
  refine fo_it walk_range (fun i σ H' => ∃ x1, σ = [some (.ref a), x1, none, none, none] ∧ Same H H') ⟨_, rfl, Same.refl _⟩ (fun _ _ _ _ _ => trivial) ?_ ?_
  · rintro i x σ H2 H1 hi ⟨x1, rfl, s1⟩ ⟨rfl, rfl⟩
    have ei : (0 : Int) + (i : Nat) = ((i : Nat) : Int) := by omega
    dsimp only
    rw [ei]
    walk_at "w"
    refine ⟨a, i, is, rfl, sqL_same s1 ha, fun q H3 s3 hq hd => ?_⟩
    walk_at "w"
    refine ⟨q, rfl, hd, fun H4 f4 => ?_⟩
    refine ⟨_, rfl, ?_⟩
    refine rd_nT ?_
    walk_at "w"
    exact ⟨_, rfl, s1.trans fun c o e => f4 c o (ne_of_none e hq) (s3 _ _ e)⟩
  rintro σ H1 ⟨x1, rfl, s1⟩
  have hb0 := last_b t0 (by simp)
  have hbb := last_b (lf "b") (by simp)
  have hbU := last_b tU (by simp)
  have hbA := last_b tA (by simp)
  have hbB := last_b tB (by simp)
  have hbk := lrs0.book
  walk_at "w"
  refine ⟨rfl, ?_⟩
  walk_at "w"
  refine ⟨[.ref C.b], (SYM :: RLN).map V.str, rfl, rfl, small (by decide), fun lv hlv => ?_⟩
  have s2 := same_new hlv (.tup ((SYM :: RLN).map V.str))
  refine ⟨lv, rfl, sqT_of upd_same, fun m H2 s2' hm => ?_⟩
  walk_at "w"
  refine ⟨rfl, ?_⟩
  walk_at "w"
  refine ⟨_, t0, rfl, reads_t0, hb0.w, fun t H3 s3 ht => ?_⟩
  have hm3 := hm.kp (kp_same s3)
  obtain ⟨dm, sm, rm, pm, km, lm, ym, em⟩ := bookIns hm3
  walk_at "w"
  refine ⟨m, dm, _, rfl, em, rfl, ?_⟩
  walk_at "w"
  refine ⟨m, t, GS, R0, t0, rfl, hm3, hbk, ht, hb0, fun q1 H4 s4 hq1 => ?_⟩
  walk_at "w"
  refine ⟨m, dm, _, rfl, s4 _ _ em, rfl, ?_⟩
  walk_at "w"
  refine ⟨m, t, GS, R0, t0, 0, t0, rfl, hm3.kp (kp_same s4), hbk, ht.kp (kp_same s4), hb0, .root _, fun q2 H5 s5 hq2 => ?_⟩
  walk_at "w"
  have s35 := s4.trans s5
  refine ⟨m, dm, _, rfl, s35 _ _ em, rfl, ?_⟩
  walk_at "w"
  refine ⟨rfl, ?_⟩
  walk_at "w"
  refine ⟨_, lf "b", rfl, reads_b, hbb.w, fun tb H6 s6 htb => ?_⟩
  walk_at "w"
  refine ⟨[.ref m, .ref t, .int 1, .int 3], [.ref tb], rfl, rfl, small (by simp), fun lv2 hlv2 => ?_⟩
  have s7 := same_new hlv2 (.tup [V.ref tb])
  have k7 := kp_same (s35.trans (s6.trans s7))
  refine ⟨m, t, GS, R0, t0, 1, T4, 3, (T4, lf "_"), lv2, [.ref tb], [lf "b"], tU, rfl, hm3.kp k7, hbk, ht.kp k7, hb0, at_of_part rfl, rfl, by decide +kernel, sqT_of upd_same, ⟨rfl, fun j x u h1 h2 => ?_⟩, fun f hf => ?_, by decide +kernel, by decide, by decide +kernel, by decide +kernel, hbU.w, fun u H8 s8 hu => ?_⟩
  · match j, h1, h2 with
    | 0, h1, h2 => cases h1; cases h2; exact ⟨tb, rfl, htb.kp (kp_same s7)⟩
    | j + 1, h1, h2 => cases h1
  · rw [List.mem_singleton] at hf
    subst hf
    exact ⟨hbb, by decide +kernel⟩
  obtain ⟨du, nu, cu, eu, su, uu, lu, hui⟩ := termIns hu
  refine ⟨u, du, _, rfl, hui, u, tU, rfl, hu, hbU.w, fun H9 s9 => ?_⟩
  walk_at "w"
  refine ⟨small (by simp), fun l hl => ?_⟩
  have s10 := same_new hl (.lst [.ref q1, .ref q2, .str (tx tU)])
  have g10 : upd H9 l (.lst [.ref q1, .ref q2, .str (tx tU)]) l = some (.lst [.ref q1, .ref q2, .str (tx tU)]) := upd_same
  generalize upd H9 l (.lst [.ref q1, .ref q2, .str (tx tU)]) = H10 at *
  have s310 : Same H3 H10 := s35.trans (s6.trans (s7.trans (s8.trans (s9.trans s10))))
  have s410 : Same H4 H10 := s5.trans (s6.trans (s7.trans (s8.trans (s9.trans s10))))
  have s510 : Same H5 H10 := s6.trans (s7.trans (s8.trans (s9.trans s10)))
  walk_at "w"
  refine ⟨tyV_l (SqL.of g10), ?_⟩
  walk_at "w"
  refine ⟨m, dm, _, rfl, s310 _ _ em, rfl, ?_⟩
  walk_at "w"
  refine ⟨rfl, ?_⟩
  walk_at "w"
  refine ⟨_, tA, rfl, reads_tA, hbA.w, fun ta H11 s11 hta => ?_⟩
  walk_at "w"
  have hmA := hm3.kp (kp_same (s310.trans s11))
  refine ⟨m, ta, GS, R0, tA, rfl, hmA, hbk, hta, hbA, fun H12 s12 => ?_⟩
  rw [show (gr tA && decide (rdx R0 tA = [])) = true by decide +kernel]
  walk_at "w"
  have gl12 := s12 _ _ (s11 _ _ g10)
  refine rd_append gl12 (small (by simp)) ?_
  have k13 : Kp H12 (upd H12 l (.lst ([.ref q1, .ref q2, .str (tx tU)] ++ [.bl true]))) := kp_lst gl12
  have g13 : upd H12 l (.lst ([V.ref q1, .ref q2, .str (tx tU)] ++ [.bl true])) l = some (.lst [.ref q1, .ref q2, .str (tx tU), .bl true]) := upd_same
  have hq1' := sqT_kp k13 (sqT_kp (kp_same (s410.trans (s11.trans s12))) hq1)
  have hq2' := sqT_kp k13 (sqT_kp (kp_same (s510.trans (s11.trans s12))) hq2)
  have hm13 := (hmA.kp (kp_same s12)).kp k13
  generalize upd H12 l (.lst ([V.ref q1, .ref q2, .str (tx tU)] ++ [.bl true])) = H13 at *
  walk_at "w"
  refine ⟨small (by simp), fun p1 hp1 => ?_⟩
  have s14 := same_new hp1 (.tup [V.int 0, .int 1])
  have g14 : upd H13 p1 (.tup [V.int 0, .int 1]) p1 = some (.tup (([0, 1] : List Nat).map vI)) := upd_same
  generalize upd H13 p1 (.tup [V.int 0, .int 1]) = H14 at *
  walk_at "w"
  refine ⟨small (by simp), fun p2 hp2 => ?_⟩
  have s15 := same_new hp2 (.tup [V.int 1])
  have g15 : upd H14 p2 (.tup [V.int 1]) p2 = some (.tup (([1] : List Nat).map vI)) := upd_same
  generalize upd H14 p2 (.tup [V.int 1]) = H15 at *
  walk_at "w"
  refine ⟨small (by simp), fun l2 hl2 => ?_⟩
  have s16 := same_new hl2 (.lst [.ref p1, .ref p2, .str "f(b, a, b)", .bl true])
  have g16 : upd H15 l2 (.lst [.ref p1, .ref p2, .str "f(b, a, b)", .bl true]) l2 = some (.lst [.ref p1, .ref p2, .str "f(b, a, b)", .bl true]) := upd_same
  generalize upd H15 l2 (.lst [.ref p1, .ref p2, .str "f(b, a, b)", .bl true]) = H16 at *
  have s1316 : Same H13 H16 := s14.trans (s15.trans s16)
  have e1 : rdx R0 t0 = [0, 1] := by decide +kernel
  have e2 : rat t0 0 R0 = [1] := by decide +kernel
  have e3 : tx tU = "f(b, a, b)" := by decide +kernel
  rw [e1] at hq1'
  rw [e2] at hq2'
  rw [e3] at g13
  have d1 : Dp K H16 (.ref l) TOLD := .lst (SqL.of (s1316 _ _ g13)) (.cons (tp_ints (sqT_kp (kp_same s1316) hq1')).dp (.cons (tp_ints (sqT_kp (kp_same s1316) hq2')).dp (.cons (.str _) (.cons (.bl _) .nil))))
  have d2 : Dp K H16 (.ref l2) TOLD := .lst (SqL.of g16) (.cons (tp_ints (sqT_of ((s15.trans s16) _ _ g14))).dp (.cons (tp_ints (sqT_of (s16 _ _ g15))).dp (.cons (.str _) (.cons (.bl _) .nil))))
  walk_at "w"
  refine ⟨_, _, d1, d2, by decide +kernel, by decide +kernel, ?_⟩
  rw [show PyData.eqv TOLD TOLD = true by decide +kernel]
  walk_at "w"
  obtain ⟨dm2, sm2, rm2, pm2, km2, lm2, ym2, em2⟩ := bookIns (hm13.kp (kp_same s1316))
  refine ⟨m, dm2, _, rfl, em2, rfl, ?_⟩
  walk_at "w"
  refine ⟨rfl, ?_⟩
  walk_at "w"
  refine ⟨_, tB, rfl, reads_tB, hbB.w, fun tb2 H17 s17 htb2 => ?_⟩
  walk_at "w"
  refine ⟨m, tb2, GS, R0, tB, rfl, hm13.kp (kp_same (s1316.trans s17)), hbk, htb2, hbB, fun H18 s18 => ?_⟩
  rw [show (gr tB && decide (rdx R0 tB = [])) = false by decide +kernel]
  exact ⟨_, rfl, k H18⟩
end
end FN
set_option maxHeartbeats 4000000
namespace FN
open PySem PySem.Spec PyProof.Rows L2
theorem siB_ok {x : Str} {K : PySem.W.Frag} (h : siB x K = true) : SlX.SIsi K (He.ga K x) := by
  obtain ⟨h1, h⟩ := He.ba h
  obtain ⟨h2, h⟩ := He.ba h
  obtain ⟨h3, h4⟩ := He.ba h
  exact ⟨He.eqO_ok h1, He.eqO_ok h2, of_decide_eq_true h3, of_decide_eq_true h4⟩
theorem cread_ok {K : PySem.W.Frag} {C : Addr} (N : PySem.W.readsIn K C (.type "type") = true) : ClX.CRead K C (.type "type") := by
  refine ⟨N, ?_⟩
  have h := N
  unfold PySem.W.readsIn at h
  obtain ⟨h, _⟩ := He.ba h
  obtain ⟨h, _⟩ := He.ba h
  obtain ⟨h, h3⟩ := He.ba h
  obtain ⟨_, h2⟩ := He.ba h
  unfold PySem.W.specialIn
  rw [beq_iff_eq.mp h2, Option.bind_some]
  exact beq_iff_eq.mp h3
theorem cmB_ok {x m : Str} {K : PySem.W.Frag} (h : cmB x m K = true) : CmC K (He.ga K x) m (He5.wf K (He.ga K x) "classmethod" m) := by
  obtain ⟨h1, h⟩ := He.ba h
  obtain ⟨h2, h3⟩ := He.ba h
  exact ⟨_, _, cread_ok h1, He5.cmet_of h2 h3⟩
theorem prB_ok {x f : Str} {K : PySem.W.Frag} (h : prB x f K = true) : PrC K (He.ga K x) f (pf K (He.ga K x) f) := by
  obtain ⟨h1, h⟩ := He.ba h
  obtain ⟨h2, h⟩ := He.ba h
  obtain ⟨h3, h4⟩ := He.ba h
  refine ⟨_, He.eqO_ok h1, He.eqO_ok h2, of_decide_eq_true h3, ?_⟩
  unfold pf
  split at h4
  · rename_i g r e
    exact ⟨r, by rw [e]⟩
  · cases h4
theorem neB_ok {x : Str} {K : PySem.W.Frag} (h : neB x K = true) : NeC K (He.ga K x) (He.ma K (He.ga K x) "__eq__") := by
  obtain ⟨h1, h⟩ := He.ba h
  obtain ⟨h2, h⟩ := He.ba h
  obtain ⟨h3, h4⟩ := He.ba h
  exact ⟨He.eqO_ok h1, He.eqO_ok h2, h3, of_decide_eq_true h4⟩
theorem fmB_ok {x : Str} {K : PySem.W.Frag} (h : fmB x K = true) : FmC K (He.ga K x) (He.ma K (He.ga K x) "__str__") := by
  obtain ⟨h1, h⟩ := He.ba h
  obtain ⟨h2, h⟩ := He.ba h
  obtain ⟨h3, h4⟩ := He.ba h
  exact ⟨He.eqO_ok h1, He.eqO_ok h2, h3, of_decide_eq_true h4⟩
theorem SaysX.a {xs : List (PySem.W.Frag → Bool)} {fa : List He.Fa} {fn : List He5.DefA} {K : PySem.W.Frag} (c : SaysX xs fa fn K) : He5.SaysA fa fn K := congrArg (fun z : AlX => z.2) c
theorem SaysX.x {xs : List (PySem.W.Frag → Bool)} {fa : List He.Fa} {fn : List He5.DefA} {K : PySem.W.Frag} (c : SaysX xs fa fn K) (i : Nat) {f : PySem.W.Frag → Bool} (h : xs[i]? = some f := by rfl) : f K = true := by
  have c1 : (xs.all fun x => x K) = true := congrArg (fun z : AlX => z.1) c
  exact List.all_eq_true.mp c1 f (List.mem_of_getElem? h)
/-! ### how they bind -/
section
variable {K : PySem.W.Frag} {x q pv : Str} {pr : Arguments} {body : List Stmt} {sc : Scope} {f : Addr} {fd : FuncData}
theorem star_1 (E : FunD K "read" "Book.read" (defArgs s_Book_read) (defBody s_Book_read) (defScope s_Book_read) [] [] f fd) : ∀ us rest : List Value, us.length = (["cls"] : List Str).length → bindArgs fd ⟨us ++ rest, []⟩ = (newTuple rest >>= fun t => pure ((["cls"] : List Str).zip us ++ [(("lines" : Str), t)])) := by
  obtain ⟨oc, od, dV, kV, doc, pm, an, cdv, ct, osl, rfl, lk, hcd, hD, hK⟩ := E.ex
  rcases hD with ⟨_, rfl⟩ | ⟨e, _⟩
  · intro us rest hl
    match us, hl with
    | [u], _ => cases rest with
      | nil => rfl
      | cons r rs => rfl
  · exact absurd rfl e
theorem star_4 (E : FunD K "step" "Book.step" (defArgs s_Book_step) (defBody s_Book_step) (defScope s_Book_step) [] [] f fd) : ∀ us rest : List Value, us.length = (["self", "term", "place", "rule"] : List Str).length → bindArgs fd ⟨us ++ rest, []⟩ = (newTuple rest >>= fun t => pure ((["self", "term", "place", "rule"] : List Str).zip us ++ [(("terms" : Str), t)])) := by
  obtain ⟨oc, od, dV, kV, doc, pm, an, cdv, ct, osl, rfl, lk, hcd, hD, hK⟩ := E.ex
  rcases hD with ⟨_, rfl⟩ | ⟨e, _⟩
  · intro us rest hl
    match us, hl with
    | [a, b, c, d], _ => cases rest with
      | nil => rfl
      | cons r rs => rfl
  · exact absurd rfl e
theorem bookB {v : V} (E : FunD K "__init__" "Book.__init__" (defArgs s_Book___init__) (defBody s_Book___init__) (defScope s_Book___init__) [v] [] f fd) : Binds K fd ["self", "symbols", "rules"] [] := by
  obtain ⟨ds, hv, hb⟩ := E.binds1 (ps := ["self", "symbols", "rules"]) 3 1 (by simp) rfl fun T kV doc pm an cdv ct us its hl hi => match us, its, hl, hi with
    | [_, _, _], [_], _, _ => ⟨_, rfl, rfl⟩
  cases hv
  exact hb
end
theorem ty_of {K : PySem.W.Frag} {h : Heap} {mg : Str → Option Value} (X : K.In h) (G : h.Ns mainGlobals mg) (c : SaysX hXs hFa hFn K) : Ty K mg ⟨He.ga K "Nodes", He.ga K "Term", He.ga K "Book", He.ga K "Reader"⟩ where
  f_abs := He.free_ok X G (c.a.fact 0)
  f_all := He.free_ok X G (c.a.fact 1)
  f_bool := He.free_ok X G (c.a.fact 2)
  f_dict := He.free_ok X G (c.a.fact 3)
  f_enumerate := He.free_ok X G (c.a.fact 4)
  f_int := He.free_ok X G (c.a.fact 5)
  f_isinstance := He.free_ok X G (c.a.fact 6)
  f_len := He.free_ok X G (c.a.fact 7)
  f_list := He.free_ok X G (c.a.fact 8)
  f_max := He.free_ok X G (c.a.fact 9)
  f_min := He.free_ok X G (c.a.fact 10)
  f_range := He.free_ok X G (c.a.fact 11)
  f_repr := He.free_ok X G (c.a.fact 12)
  f_set := He.free_ok X G (c.a.fact 13)
  f_sorted := He.free_ok X G (c.a.fact 14)
  f_str := He.free_ok X G (c.a.fact 15)
  f_tuple := He.free_ok X G (c.a.fact 16)
  f_zip := He.free_ok X G (c.a.fact 17)
  c_MAX_LETTERS := He.int_ok X G (c.a.fact 18)
  c_MAX_ARITY := He.int_ok X G (c.a.fact 19)
  c_MAX_SYMBOLS := He.int_ok X G (c.a.fact 20)
  c_LONGEST := He.int_ok X G (c.a.fact 21)
  c_MAX_NODES := He.int_ok X G (c.a.fact 22)
  c_MAX_RULES := He.int_ok X G (c.a.fact 23)
  c_MAX_RULE_NODES := He.int_ok X G (c.a.fact 24)
  c_MAX_PARTS := He.int_ok X G (c.a.fact 25)
  c_ANY := He.str_ok X G (c.a.fact 26)
  c_LOST := He.str_ok X G (c.a.fact 27)
  c_LETTERS := He.str_ok X G (c.a.fact 28)
  c_SIGNS := He.str_ok X G (c.a.fact 29)
  c_ARROW := He.str_ok X G (c.a.fact 30)
  g_Nodes := He.glo_ok X G (c.a.fact 31)
  cl_n := He.cls_ok (c.a.fact 32)
  g_Term := He.glo_ok X G (c.a.fact 33)
  cl_t := He.cls_ok (c.a.fact 34)
  g_Book := He.glo_ok X G (c.a.fact 35)
  cl_b := He.cls_ok (c.a.fact 36)
  g_Reader := He.glo_ok X G (c.a.fact 37)
  cl_r := He.cls_ok (c.a.fact 38)
  na_t_own_nodes := He.noat_ok (c.a.fact 39)
  na_t_own_children := He.noat_ok (c.a.fact 40)
  na_t_own_ends := He.noat_ok (c.a.fact 41)
  na_t_own_symbols := He.noat_ok (c.a.fact 42)
  na_t_own_unknown := He.noat_ok (c.a.fact 43)
  na_t_own_lost := He.noat_ok (c.a.fact 44)
  na_n_told_nodes := He.noat_ok (c.a.fact 45)
  na_b_own_symbols := He.noat_ok (c.a.fact 46)
  na_b_own_rules := He.noat_ok (c.a.fact 47)
  na_b_own_patterns := He.noat_ok (c.a.fact 48)
  na_b_own_sketches := He.noat_ok (c.a.fact 49)
  na_b_own_lines := He.noat_ok (c.a.fact 50)
  na_b_own_key := He.noat_ok (c.a.fact 51)
  na_r_of_nodes := He.noat_ok (c.a.fact 52)
  na_r_of_open := He.noat_ok (c.a.fact 53)
  na_r_of_wants := He.noat_ok (c.a.fact 54)
  na_r_of_last := He.noat_ok (c.a.fact 55)
  d_is_integer := (let ⟨fd, E⟩ := c.a.def_ 0 (d := df0) rfl; ⟨_, fd, E, He.glo_ok X G (c.a.fact 56), E.bindsN fun _ _ _ _ _ _ us hl => match us, hl with | [_], _ => rfl⟩)
  d_is_within := (let ⟨fd, E⟩ := c.a.def_ 1 (d := df1) rfl; ⟨_, fd, E, He.glo_ok X G (c.a.fact 57), E.bindsN fun _ _ _ _ _ _ us hl => match us, hl with | [_, _, _], _ => rfl⟩)
  d_is_word := (let ⟨fd, E⟩ := c.a.def_ 2 (d := df2) rfl; ⟨_, fd, E, He.glo_ok X G (c.a.fact 58), E.bindsN fun _ _ _ _ _ _ us hl => match us, hl with | [_], _ => rfl⟩)
  d_is_node := (let ⟨fd, E⟩ := c.a.def_ 3 (d := df3) rfl; ⟨_, fd, E, He.glo_ok X G (c.a.fact 59), E.bindsN fun _ _ _ _ _ _ us hl => match us, hl with | [_], _ => rfl⟩)
  d_is_symbols := (let ⟨fd, E⟩ := c.a.def_ 4 (d := df4) rfl; ⟨_, fd, E, He.glo_ok X G (c.a.fact 60), E.bindsN fun _ _ _ _ _ _ us hl => match us, hl with | [_], _ => rfl⟩)
  d_ascending_rows := (let ⟨fd, E⟩ := c.a.def_ 5 (d := df5) rfl; ⟨_, fd, E, He.glo_ok X G (c.a.fact 61), E.bindsN fun _ _ _ _ _ _ us hl => match us, hl with | [_], _ => rfl⟩)
  d_children_of := (let ⟨fd, E⟩ := c.a.def_ 6 (d := df6) rfl; ⟨_, fd, E, He.glo_ok X G (c.a.fact 62), E.bindsN fun _ _ _ _ _ _ us hl => match us, hl with | [_], _ => rfl⟩)
  d_ends_of := (let ⟨fd, E⟩ := c.a.def_ 7 (d := df7) rfl; ⟨_, fd, E, He.glo_ok X G (c.a.fact 63), E.bindsN fun _ _ _ _ _ _ us hl => match us, hl with | [_], _ => rfl⟩)
  d_arities_in := (let ⟨fd, E⟩ := c.a.def_ 8 (d := df8) rfl; ⟨_, fd, E, He.glo_ok X G (c.a.fact 64), E.bindsN fun _ _ _ _ _ _ us hl => match us, hl with | [_], _ => rfl⟩)
  d_is_term_row := (let ⟨fd, E⟩ := c.a.def_ 9 (d := df9) rfl; ⟨_, fd, E, He.glo_ok X G (c.a.fact 65), E.bindsN fun _ _ _ _ _ _ us hl => match us, hl with | [_], _ => rfl⟩)
  d_text_of := (let ⟨fd, E⟩ := c.a.def_ 10 (d := df10) rfl; ⟨_, fd, E, He.glo_ok X G (c.a.fact 66), E.bindsN fun _ _ _ _ _ _ us hl => match us, hl with | [_, _, _], _ => rfl⟩)
  d_tokens_of := (let ⟨fd, E⟩ := c.a.def_ 11 (d := df11) rfl; ⟨_, fd, E, He.glo_ok X G (c.a.fact 67), E.bindsN fun _ _ _ _ _ _ us hl => match us, hl with | [_], _ => rfl⟩)
  d_nodes_of := (let ⟨fd, E⟩ := c.a.def_ 12 (d := df12) rfl; ⟨_, fd, E, He.glo_ok X G (c.a.fact 68), E.bindsN fun _ _ _ _ _ _ us hl => match us, hl with | [_], _ => rfl⟩)
  d_require_term := (let ⟨fd, E⟩ := c.a.def_ 13 (d := df13) rfl; ⟨_, fd, E, He.glo_ok X G (c.a.fact 69), E.bindsN fun _ _ _ _ _ _ us hl => match us, hl with | [_], _ => rfl⟩)
  d_term_in := (let ⟨fd, E⟩ := c.a.def_ 14 (d := df14) rfl; ⟨_, fd, E, He.glo_ok X G (c.a.fact 70), E.bindsN fun _ _ _ _ _ _ us hl => match us, hl with | [_], _ => rfl⟩)
  d_places_with := (let ⟨fd, E⟩ := c.a.def_ 15 (d := df15) rfl; ⟨_, fd, E, He.glo_ok X G (c.a.fact 71), E.bindsN fun _ _ _ _ _ _ us hl => match us, hl with | [_, _], _ => rfl⟩)
  d_part_in := (let ⟨fd, E⟩ := c.a.def_ 16 (d := df16) rfl; ⟨_, fd, E, He.glo_ok X G (c.a.fact 72), E.bindsN fun _ _ _ _ _ _ us hl => match us, hl with | [_, _], _ => rfl⟩)
  d_nodes_filled := (let ⟨fd, E⟩ := c.a.def_ 17 (d := df17) rfl; ⟨_, fd, E, He.glo_ok X G (c.a.fact 73), E.bindsN fun _ _ _ _ _ _ us hl => match us, hl with | [_, _], _ => rfl⟩)
  d_matches := (let ⟨fd, E⟩ := c.a.def_ 18 (d := df18) rfl; ⟨_, fd, E, He.glo_ok X G (c.a.fact 74), E.bindsN fun _ _ _ _ _ _ us hl => match us, hl with | [_, _, _, _], _ => rfl⟩)
  d_met_places := (let ⟨fd, E⟩ := c.a.def_ 19 (d := df19) rfl; ⟨_, fd, E, He.glo_ok X G (c.a.fact 75), E.bindsN fun _ _ _ _ _ _ us hl => match us, hl with | [_, _, _, _], _ => rfl⟩)
  d_is_term_of := (let ⟨fd, E⟩ := c.a.def_ 20 (d := df20) rfl; ⟨_, fd, E, He.glo_ok X G (c.a.fact 76), E.bindsN fun _ _ _ _ _ _ us hl => match us, hl with | [_, _], _ => rfl⟩)
  d_is_side := (let ⟨fd, E⟩ := c.a.def_ 21 (d := df21) rfl; ⟨_, fd, E, He.glo_ok X G (c.a.fact 77), E.bindsN fun _ _ _ _ _ _ us hl => match us, hl with | [_, _], _ => rfl⟩)
  d_is_rule := (let ⟨fd, E⟩ := c.a.def_ 22 (d := df22) rfl; ⟨_, fd, E, He.glo_ok X G (c.a.fact 78), E.bindsN fun _ _ _ _ _ _ us hl => match us, hl with | [_, _], _ => rfl⟩)
  d_parts_in := (let ⟨fd, E⟩ := c.a.def_ 23 (d := df23) rfl; ⟨_, fd, E, He.glo_ok X G (c.a.fact 79), E.bindsN fun _ _ _ _ _ _ us hl => match us, hl with | [_], _ => rfl⟩)
  d_is_rules := (let ⟨fd, E⟩ := c.a.def_ 24 (d := df24) rfl; ⟨_, fd, E, He.glo_ok X G (c.a.fact 80), E.bindsN fun _ _ _ _ _ _ us hl => match us, hl with | [_, _], _ => rfl⟩)
  d_read_symbols := (let ⟨fd, E⟩ := c.a.def_ 25 (d := df25) rfl; ⟨_, fd, E, He.glo_ok X G (c.a.fact 81), E.bindsN fun _ _ _ _ _ _ us hl => match us, hl with | [_], _ => rfl⟩)
  d_read_rule := (let ⟨fd, E⟩ := c.a.def_ 26 (d := df26) rfl; ⟨_, fd, E, He.glo_ok X G (c.a.fact 82), E.bindsN fun _ _ _ _ _ _ us hl => match us, hl with | [_], _ => rfl⟩)
  d_side_of := (let ⟨fd, E⟩ := c.a.def_ 27 (d := df27) rfl; ⟨_, fd, E, He.glo_ok X G (c.a.fact 83), E.bindsN fun _ _ _ _ _ _ us hl => match us, hl with | [_], _ => rfl⟩)
  d_fitting := (let ⟨fd, E⟩ := c.a.def_ 28 (d := df28) rfl; ⟨_, fd, E, He.glo_ok X G (c.a.fact 84), E.bindsN fun _ _ _ _ _ _ us hl => match us, hl with | [_, _, _], _ => rfl⟩)
  d_redexes_in := (let ⟨fd, E⟩ := c.a.def_ 29 (d := df29) rfl; ⟨_, fd, E, He.glo_ok X G (c.a.fact 85), E.bindsN fun _ _ _ _ _ _ us hl => match us, hl with | [_, _], _ => rfl⟩)
  d_is_ground_of := (let ⟨fd, E⟩ := c.a.def_ 30 (d := df30) rfl; ⟨_, fd, E, He.glo_ok X G (c.a.fact 86), E.bindsN fun _ _ _ _ _ _ us hl => match us, hl with | [_, _], _ => rfl⟩)
  d_nodes_put := (let ⟨fd, E⟩ := c.a.def_ 31 (d := df31) rfl; ⟨_, fd, E, He.glo_ok X G (c.a.fact 87), E.bindsN fun _ _ _ _ _ _ us hl => match us, hl with | [_, _, _], _ => rfl⟩)
  d_is_behind := (let ⟨fd, E⟩ := c.a.def_ 32 (d := df32) rfl; ⟨_, fd, E, He.glo_ok X G (c.a.fact 88), E.bindsN fun _ _ _ _ _ _ us hl => match us, hl with | [_, _, _, _], _ => rfl⟩)
  d__law_dice := (let ⟨fd, E⟩ := c.a.def_ 33 (d := df33) rfl; ⟨_, fd, E, He.glo_ok X G (c.a.fact 89), E.bindsN fun _ _ _ _ _ _ us hl => match us, hl with | [_, _], _ => rfl⟩)
  d__law_roll := (let ⟨fd, E⟩ := c.a.def_ 34 (d := df34) rfl; ⟨_, fd, E, He.glo_ok X G (c.a.fact 90), E.bindsN fun _ _ _ _ _ _ us hl => match us, hl with | [_, _], _ => rfl⟩)
  d__law_pick := (let ⟨fd, E⟩ := c.a.def_ 35 (d := df35) rfl; ⟨_, fd, E, He.glo_ok X G (c.a.fact 91), E.bindsN fun _ _ _ _ _ _ us hl => match us, hl with | [_, _], _ => rfl⟩)
  d__law_some := (let ⟨fd, E⟩ := c.a.def_ 36 (d := df36) rfl; ⟨_, fd, E, He.glo_ok X G (c.a.fact 92), E.bindsN fun _ _ _ _ _ _ us hl => match us, hl with | [_, _, _], _ => rfl⟩)
  d__law_nodes := (let ⟨fd, E⟩ := c.a.def_ 37 (d := df37) rfl; ⟨_, fd, E, He.glo_ok X G (c.a.fact 93), E.bindsN fun _ _ _ _ _ _ us hl => match us, hl with | [_], _ => rfl⟩)
  d__law_parts := (let ⟨fd, E⟩ := c.a.def_ 38 (d := df38) rfl; ⟨_, fd, E, He.glo_ok X G (c.a.fact 94), E.bindsN fun _ _ _ _ _ _ us hl => match us, hl with | [_], _ => rfl⟩)
  d__law_put := (let ⟨fd, E⟩ := c.a.def_ 39 (d := df39) rfl; ⟨_, fd, E, He.glo_ok X G (c.a.fact 95), E.bindsN fun _ _ _ _ _ _ us hl => match us, hl with | [_, _, _], _ => rfl⟩)
  d__law_fits := (let ⟨fd, E⟩ := c.a.def_ 40 (d := df40) rfl; ⟨_, fd, E, He.glo_ok X G (c.a.fact 96), E.bindsN fun _ _ _ _ _ _ us hl => match us, hl with | [_, _], _ => rfl⟩)
  d__law_filled := (let ⟨fd, E⟩ := c.a.def_ 41 (d := df41) rfl; ⟨_, fd, E, He.glo_ok X G (c.a.fact 97), E.bindsN fun _ _ _ _ _ _ us hl => match us, hl with | [_, _], _ => rfl⟩)
  d__law_leaves := (let ⟨fd, E⟩ := c.a.def_ 42 (d := df42) rfl; ⟨_, fd, E, He.glo_ok X G (c.a.fact 98), E.bindsN fun _ _ _ _ _ _ us hl => match us, hl with | [_, _], _ => rfl⟩)
  d__law_made_term := (let ⟨fd, E⟩ := c.a.def_ 43 (d := df43) rfl; ⟨_, fd, E, He.glo_ok X G (c.a.fact 99), E.bindsN fun _ _ _ _ _ _ us hl => match us, hl with | [_], _ => rfl⟩)
  d__law_term := (let ⟨fd, E⟩ := c.a.def_ 44 (d := df44) rfl; ⟨_, fd, E, He.glo_ok X G (c.a.fact 100), E.bindsN fun _ _ _ _ _ _ us hl => match us, hl with | [_, _, _, _], _ => rfl⟩)
  d__law_small_term := (let ⟨fd, E⟩ := c.a.def_ 45 (d := df45) rfl; ⟨_, fd, E, He.glo_ok X G (c.a.fact 101), E.bindsN fun _ _ _ _ _ _ us hl => match us, hl with | [_, _, _, _, _], _ => rfl⟩)
  d__law_symbols := (let ⟨fd, E⟩ := c.a.def_ 46 (d := df46) rfl; ⟨_, fd, E, He.glo_ok X G (c.a.fact 102), E.bindsN fun _ _ _ _ _ _ us hl => match us, hl with | [_], _ => rfl⟩)
  d__law_argument := (let ⟨fd, E⟩ := c.a.def_ 47 (d := df47) rfl; ⟨_, fd, E, He.glo_ok X G (c.a.fact 103), E.bindsN fun _ _ _ _ _ _ us hl => match us, hl with | [_, _], _ => rfl⟩)
  d__law_sketch := (let ⟨fd, E⟩ := c.a.def_ 48 (d := df48) rfl; ⟨_, fd, E, He.glo_ok X G (c.a.fact 104), E.bindsN fun _ _ _ _ _ _ us hl => match us, hl with | [_, _], _ => rfl⟩)
  d__law_book := (let ⟨fd, E⟩ := c.a.def_ 49 (d := df49) rfl; ⟨_, fd, E, He.glo_ok X G (c.a.fact 105), E.bindsN fun _ _ _ _ _ _ us hl => match us, hl with | [_], _ => rfl⟩)
  d__law_gustave := (let ⟨fd, E⟩ := c.a.def_ 50 (d := df50) rfl; ⟨_, fd, E, He.glo_ok X G (c.a.fact 106), E.bindsN fun _ _ _ _ _ _ us hl => match us, hl with | [_], _ => rfl⟩)
  d__law_made := (let ⟨fd, E⟩ := c.a.def_ 51 (d := df51) rfl; ⟨_, fd, E, He.glo_ok X G (c.a.fact 107), E.bindsN fun _ _ _ _ _ _ us hl => match us, hl with | [_], _ => rfl⟩)
  d__law_rules_at := (let ⟨fd, E⟩ := c.a.def_ 52 (d := df52) rfl; ⟨_, fd, E, He.glo_ok X G (c.a.fact 108), E.bindsN fun _ _ _ _ _ _ us hl => match us, hl with | [_, _], _ => rfl⟩)
  d__law_redexes := (let ⟨fd, E⟩ := c.a.def_ 53 (d := df53) rfl; ⟨_, fd, E, He.glo_ok X G (c.a.fact 109), E.bindsN fun _ _ _ _ _ _ us hl => match us, hl with | [_, _], _ => rfl⟩)
  d__law_is_behind := (let ⟨fd, E⟩ := c.a.def_ 54 (d := df54) rfl; ⟨_, fd, E, He.glo_ok X G (c.a.fact 110), E.bindsN fun _ _ _ _ _ _ us hl => match us, hl with | [_, _, _, _], _ => rfl⟩)
  d__law_pairs := (let ⟨fd, E⟩ := c.a.def_ 55 (d := df55) rfl; ⟨_, fd, E, He.glo_ok X G (c.a.fact 111), E.bindsN fun _ _ _ _ _ _ us hl => match us, hl with | [_, _], _ => rfl⟩)
  d__law_steps_right := (let ⟨fd, E⟩ := c.a.def_ 56 (d := df56) rfl; ⟨_, fd, E, He.glo_ok X G (c.a.fact 112), E.bindsN fun _ _ _ _ _ _ us hl => match us, hl with | [_, _, _, _, _, _], _ => rfl⟩)
  d__law_right := (let ⟨fd, E⟩ := c.a.def_ 57 (d := df57) rfl; ⟨_, fd, E, He.glo_ok X G (c.a.fact 113), E.bindsN fun _ _ _ _ _ _ us hl => match us, hl with | [_], _ => rfl⟩)
  d_law := (let ⟨fd, E⟩ := c.a.def_ 58 (d := df58) rfl; ⟨_, fd, E, He.glo_ok X G (c.a.fact 114), E.bindsN fun _ _ _ _ _ _ us hl => match us, hl with | [_], _ => rfl⟩)
  isi_n := siB_ok (c.x 0)
  isi_t := siB_ok (c.x 1)
  isi_b := siB_ok (c.x 2)
  kb_tt := of_decide_eq_true (c.x 3)
  kb_nn := of_decide_eq_true (c.x 4)
  kb_un := of_decide_eq_true (c.x 5)
  kb_0t := of_decide_eq_true (c.x 6)
  i_r := (let ⟨fd, E⟩ := c.a.def_ 59 (d := df59) rfl; ⟨_, fd, [], E, He.mkr_ok (c.a.fact 115), E.bindsN fun _ _ _ _ _ _ us hl => match us, hl with | [_], _ => rfl⟩)
  m_r_take := (let ⟨fd, E⟩ := c.a.def_ 60 (d := df60) rfl; ⟨_, fd, [], E, He.meth_ok (c.a.fact 116), E.bindsN fun _ _ _ _ _ _ us hl => match us, hl with | [_, _], _ => rfl⟩)
  m_r_take_word := (let ⟨fd, E⟩ := c.a.def_ 61 (d := df61) rfl; ⟨_, fd, [], E, He.meth_ok (c.a.fact 117), E.bindsN fun _ _ _ _ _ _ us hl => match us, hl with | [_, _], _ => rfl⟩)
  i_n := (let ⟨fd, E⟩ := c.a.def_ 62 (d := df62) rfl; ⟨_, fd, [], E, He.mkr_ok (c.a.fact 118), E.bindsN fun _ _ _ _ _ _ us hl => match us, hl with | [_, _], _ => rfl⟩)
  i_t := (let ⟨fd, E⟩ := c.a.def_ 63 (d := df63) rfl; ⟨_, fd, [], E, He.mkr_ok (c.a.fact 119), E.bindsN fun _ _ _ _ _ _ us hl => match us, hl with | [_, _], _ => rfl⟩)
  c_t_read := (let ⟨fd, E⟩ := c.a.def_ 64 (d := df64) rfl; ⟨_, fd, [], E, cmB_ok (c.x 7), E.bindsN fun _ _ _ _ _ _ us hl => match us, hl with | [_, _], _ => rfl⟩)
  p_text := (let ⟨fd, E⟩ := c.a.def_ 65 (d := df65) rfl; ⟨_, fd, [], E, prB_ok (c.x 8), E.bindsN fun _ _ _ _ _ _ us hl => match us, hl with | [_], _ => rfl⟩)
  p_is_ground := (let ⟨fd, E⟩ := c.a.def_ 66 (d := df66) rfl; ⟨_, fd, [], E, prB_ok (c.x 9), E.bindsN fun _ _ _ _ _ _ us hl => match us, hl with | [_], _ => rfl⟩)
  m_t_require_place := (let ⟨fd, E⟩ := c.a.def_ 67 (d := df67) rfl; ⟨_, fd, [], E, He.meth_ok (c.a.fact 120), E.bindsN fun _ _ _ _ _ _ us hl => match us, hl with | [_, _], _ => rfl⟩)
  m_t_fillings := (let ⟨fd, E⟩ := c.a.def_ 68 (d := df68) rfl; ⟨_, fd, [], E, He.meth_ok (c.a.fact 121), E.bindsN fun _ _ _ _ _ _ us hl => match us, hl with | [_, _], _ => rfl⟩)
  e_t := (let ⟨fd, E⟩ := c.a.def_ 69 (d := df69) rfl; ⟨_, fd, [], E, neB_ok (c.x 10), E.bindsN fun _ _ _ _ _ _ us hl => match us, hl with | [_, _], _ => rfl⟩)
  s_t := (let ⟨fd, E⟩ := c.a.def_ 70 (d := df70) rfl; ⟨_, fd, [], E, fmB_ok (c.x 11), E.bindsN fun _ _ _ _ _ _ us hl => match us, hl with | [_], _ => rfl⟩)
  i_b := (let ⟨fd, E⟩ := c.a.def_ 71 (d := df71) rfl; ⟨_, fd, _, E, He.mkr_ok (c.a.fact 122), bookB E⟩)
  c_b_read := (let ⟨fd, E⟩ := c.a.def_ 72 (d := df72) rfl; ⟨_, fd, E, cmB_ok (c.x 12), star_1 E⟩)
  m_b_require_term := (let ⟨fd, E⟩ := c.a.def_ 73 (d := df73) rfl; ⟨_, fd, [], E, He.meth_ok (c.a.fact 123), E.bindsN fun _ _ _ _ _ _ us hl => match us, hl with | [_, _], _ => rfl⟩)
  m_b_require_rule := (let ⟨fd, E⟩ := c.a.def_ 74 (d := df74) rfl; ⟨_, fd, [], E, He.meth_ok (c.a.fact 124), E.bindsN fun _ _ _ _ _ _ us hl => match us, hl with | [_, _], _ => rfl⟩)
  m_b_redexes := (let ⟨fd, E⟩ := c.a.def_ 75 (d := df75) rfl; ⟨_, fd, [], E, He.meth_ok (c.a.fact 125), E.bindsN fun _ _ _ _ _ _ us hl => match us, hl with | [_, _], _ => rfl⟩)
  m_b_rules_at := (let ⟨fd, E⟩ := c.a.def_ 76 (d := df76) rfl; ⟨_, fd, [], E, He.meth_ok (c.a.fact 126), E.bindsN fun _ _ _ _ _ _ us hl => match us, hl with | [_, _, _], _ => rfl⟩)
  m_b_is_result := (let ⟨fd, E⟩ := c.a.def_ 77 (d := df77) rfl; ⟨_, fd, [], E, He.meth_ok (c.a.fact 127), E.bindsN fun _ _ _ _ _ _ us hl => match us, hl with | [_, _], _ => rfl⟩)
  m_b_step := (let ⟨fd, E⟩ := c.a.def_ 78 (d := df78) rfl; ⟨_, fd, E, He.meth_ok (c.a.fact 128), star_4 E⟩)
  m_b_is_step := (let ⟨fd, E⟩ := c.a.def_ 79 (d := df79) rfl; ⟨_, fd, [], E, He.meth_ok (c.a.fact 129), E.bindsN fun _ _ _ _ _ _ us hl => match us, hl with | [_, _, _, _, _], _ => rfl⟩)
end FN
set_option maxHeartbeats 4000000
namespace FN
open PySem PySem.Spec PyProof.Rows L2
/-! ### the end of a law whose promise asks what is under repr -/
theorem law_callG {P : Program} {w : World} {K : PySem.W.Frag} {mg mb : Str → Option Value} {k : Nat} {fa a : Addr} {fd : FuncData} {x : Str} {sp : Sp} {s : Shared} {vs : List Value} {ns : List Int}
    (KX : K.In s.heap) (hns : s.heap.Ns mainGlobals mg) (hb : s.heap.Ns builtinsNs mb) (hbb : ∀ x : Str, x ≠ "__name__" → mb x = bootBuiltins x) (hlim : s.heap.NoLimit) (hg : s.gens = #[])
    (ha : s.heap.get? a = some { cls := .type "list", data := .seq vs.toArray }) (hi : IntsAre vs ns) (hl : ns.length ≤ sizeLine) (hr : Room k callerA)
    (F : ∀ base : Heap, K.In base → base.Ns mainGlobals mg → FnG P w K mg base k fa fd [x] sp) (hbind : ∀ (s : Shared) (u : Value), BindsTo s fd ⟨[u], []⟩ [(x, u)])
    (hsp : ∀ H : Hp, Only H → SqL K H a (ns.map V.int) → sp [.ref a] H (fun v _ => v = .bl true) fun _ _ _ => False) :
    codeAny (model P w) callerA (.call (.ref fa) ⟨[.ref a], []⟩) (fun r s' => r = .ok (.ret (.bool true)) ∧ OldK s.heap s'.heap ∧ s'.os = s.os ∧ AllBare s'.gens) s := by
  have rv := vals_ints hi
  have hlen := hi.length
  have go : ∀ H : Hp, Only H → SqL K H a (ns.map V.int) → HOk P w H s.heap → (∀ b, H b ≠ none → b = a ∧ K.lookup a = none) →
      codeAny (model P w) callerA (.call (.ref fa) ⟨[.ref a], []⟩) (fun r s' => r = .ok (.ret (.bool true)) ∧ OldK s.heap s'.heap ∧ s'.os = s.os ∧ AllBare s'.gens) s := by
    intro H hO hS hok only
    have free : ∀ b, (H b = none → False) → b = a := fun b h => (only b h).1
    have notDict : ∀ {b : Addr} {o : Obj} {es : Array DictEntry} {ep : Nat}, s.heap.get? b = some o → o.data = .dict es ep → H b = none := fun {b o es ep} e d => Classical.byContradiction fun h => by
      obtain rfl := free b h
      rw [ha] at e
      cases e
      have d' : Data.seq vs.toArray _ = Data.dict es ep := d
      cases d'
    have names : ∀ {b : Addr} {m : Str → Option Value}, s.heap.Ns b m → (hidT s.heap H).Ns b m := fun ⟨o, es, ep, e, d, r⟩ => ⟨o, es, ep, hidT_get e (notDict e d), d, r⟩
    have KB : K.In (hidT s.heap H) := fun b o e => hidT_get (KX b o e) (Classical.byContradiction fun h => by
      obtain ⟨rfl, n⟩ := only b h
      rw [n] at e
      cases e)
    have M : Mod K mg (hidT s.heap H) := ⟨KB, names hns, ⟨mb, names hb, hbb⟩, let ⟨mc, h1, h2⟩ := hlim; ⟨mc, names h1, h2⟩⟩
    have e0 : Env0 P w K mg (hidT s.heap H) callerA [] s H := ⟨rfl, M, fun b o e => of_hidT e, Nat.le_of_eq (hidT_size _ _), trivial, fun b hb => absurd (show b ∈ ([] : List Addr) from hb) (by simp), hok, .of_eq hg⟩
    refine codeAny_mono ((F _ KB (names hns)).run callerA [] s H ⟨[.ref a], []⟩ [.ref a] [.ref a] _ _ rfl hr e0 (hbind s (.ref a)) (.cons rfl .nil) (hsp H hO hS)) fun r s' h => ?_
    cases r with
    | error e => exact False.elim h
    | ok fl =>
      cases fl with
      | next => exact False.elim h
      | brk => exact False.elim h
      | cont => exact False.elim h
      | ret u =>
        obtain ⟨v, H', os, bare, un, hok', r', q⟩ := h
        have q' : v = .bl true := q
        subst q'
        obtain rfl : u = Value.bool true := r'
        refine ⟨rfl, OldK.of_keep fun b o e => ?_, os, bare⟩
        by_cases hn : H b = none
        · exact un.keep b o e hn (by intro z; exact absurd (show b ∈ ([] : List Addr) from z) (by simp)) (by simp)
        · rcases hO b with z | ⟨ob, xs, z⟩
          · exact absurd z hn
          · obtain ⟨e1, _⟩ := hok b _ z
            obtain ⟨e2, _⟩ := hok' b _ (un.frzs b ob _ z)
            rw [e] at e1
            cases e1
            exact e2
  cases hk : K.lookup a with
  | some o =>
    have e := KX a o hk
    rw [ha] at e
    cases e
    exact go (fun _ => none) (fun _ => .inl rfl) (.inr ⟨_, vs.toArray, _, hk, rfl, rfl, rfl, by rw [List.size_toArray, hlen]; exact hl, by simpa using rv⟩) (fun b u z => by have z' : (none : Option HO) = some u := z; cases z') fun b z => absurd rfl z
  | none =>
    have at_ : ∀ b, (if b = a then some (HO.frz { cls := .type "list", data := .seq vs.toArray } (.lst (ns.map V.int))) else none) ≠ none → b = a := fun b z => Classical.byContradiction fun h => z (if_neg h)
    refine go (fun b => if b = a then some (.frz { cls := .type "list", data := .seq vs.toArray } (.lst (ns.map V.int))) else none) (fun b => ?_) (.inl (.inr ⟨{ cls := .type "list", data := .seq vs.toArray }, if_pos rfl⟩)) (fun b u z => ?_) fun b z => ⟨at_ b z, hk⟩
    · by_cases hb : b = a
      · exact .inr ⟨_, _, if_pos hb⟩
      · exact .inl (if_neg hb)
    · have hb : b = a := at_ b (fun q => nomatch (q.symm.trans z : (none : Option HO) = some u))
      have z' := (if_pos hb).symm.trans z
      cases z'
      subst hb
      exact ⟨ha, by rw [List.length_map]; exact hl, vs, _, rv, ha⟩
theorem walk_ofG {l : PySem.W.OpenLaw} {n k : Nat} {q : Program} {loose : List Str} {XP : (Str → Option Value) → Heap → Prop} {YP : World → Heap → Prop} {d : DefRec} {x : Str}
    (hn : l.most = some n) (hn2 : n ≤ sizeLine) (hdf : d.params.defaults = []) (hr : Room k callerA)
    (F : ∀ (w : World) (mg : Str → Option Value) (fa : Addr) (h : Heap), YP w h → h.Ns mainGlobals mg → mg d.name = some (.ref fa) →
      ∃ (K : PySem.W.Frag) (fd : FuncData) (sp : Sp), K.In h ∧ (∀ (s : Shared) (u : Value), BindsTo s fd ⟨[u], []⟩ [(x, u)]) ∧
        (∀ (H : Hp) (a : Addr) (ns : List Int), ns.length ≤ n → Only H → SqL K H a (ns.map V.int) → sp [.ref a] H (fun v _ => v = .bl true) fun _ _ _ => False) ∧
        ∀ base : Heap, K.In base → base.Ns mainGlobals mg → FnG l.prog w K mg base k fa fd [x] sp) :
    PySem.W.WalkO q loose XP YP l.row.toRowW d [] (fun f vs => PySem.call f vs) := by
  refine Att.attach_call hn hdf fun w s₀ s₁ mg mb fa o pm cd doc a vs ns G Y ho hd hcd hmg hobj hints hlen hg => ?_
  obtain ⟨K, fd, sp, KX, hb, hsp, hF⟩ := F w mg fa _ Y G.T.g hmg
  exact law_callG KX G.T.g G.T.b G.T.builtins G.T.nolimit hg hobj hints (Nat.le_trans hlen hn2) hr hF hb fun H hO hS => hsp H a ns hlen hO hS
end FN
set_option maxHeartbeats 4000000
namespace FN
open PySem PySem.W PySem.Calls PyProof.Rows HandSHeadRun
theorem obX_eq (s : PySem.W.SharedT) : obX s = hkX.obs s.abs := by
  have e : HandSHeadRun.getT s = s.abs.heap.get? := funext (getT_eq s)
  unfold obX
  rw [e]
  rfl
theorem three {α β γ δ : Type} {o : Option α} {f : α → β} {g : α → γ} {h : α → δ} {a : β} {b : γ} {c : δ} (h1 : o.map f = some a) (h2 : o.map g = some b) (h3 : o.map h = some c) : o.map (fun s => (f s, g s, h s)) = some (a, b, c) := by
  cases o with
  | none => cases h1
  | some s =>
    rw [Option.map_some] at h1 h2 h3 ⊢
    cases h1
    cases h2
    cases h3
    rfl
theorem run_all (w : World) : RunEq RR (PySem.W.view RR.prog [94]) hkX obX 20000 loose w := fun os => three (run_l w os) (run_s w os) (run_h w os)
end FN
open PySem PySem.W PySem.Calls PyProof.Rows
theorem PySem.Challenge.cw_firstneed_k12_whole_redexes_and_steps_holds : PySem.Challenge.rw_firstneed_k12_whole_redexes_and_steps.Holds := by
  w_on; o_law
  refine HandSHeadRun.head_any (r := FN.RR) (q := view FN.RR.prog [94]) (H := FN.hkX) (ob := FN.obX) (M := 20000) (loose := FN.loose) (d := HandSHeadRun.topDef FN.RR.prog 94) (kwd := []) FN.obX_eq
    (by kernel_rfl) (fun s => by kernel_rfl) FN.run_all (by kernel_rfl) (by kernel_rfl) (by kernel_rfl) (by rfl) (by first | assumption | decide +kernel) (by decide +kernel) ⟨rfl, rfl, rfl, rfl, rfl, by decide +kernel⟩ ?hw ?hc
  case hw => w_witness2
  case hc =>
    refine FN.walk_ofG (l := PySem.Challenge.rw_firstneed_k12_whole_redexes_and_steps) (n := 63) (k := 88) (x := "_law_script") rfl (by decide) (by kernel_rfl) ⟨rfl, by decide, by decide⟩ ?F
    intro w mg fa h Y G hmg0
    obtain ⟨K, KX, c⟩ := Y
    have hmg : mg ("law" : PySem.Str) = some (.ref fa) := by
      have e : (HandSHeadRun.topDef FN.RR.prog 94).name = ("law" : PySem.Str) := by kernel_rfl
      rw [← e]
      exact hmg0
    have T := FN.ty_of KX G c
    obtain ⟨f, fd, F, hm, hb⟩ := T.d_law
    rw [hmg] at hm
    cases hm
    have bb : ∀ (s : Shared) (u : Value), BindsTo s fd ⟨[u], []⟩ [("_law_script", u)] := fun s u => L2.FunD.bindsA (ps := ["_law_script"]) F (fun _ _ _ _ _ _ us hl => match us, hl with | [_], _ => rfl) s [u] rfl
    exact ⟨K, fd, FN.sp_law K, KX, bb, fun H a ns hl _ hS => ⟨a, ns, rfl, hS, hl, fun _ => rfl⟩, fun base _ _ => FN.ok_law T F⟩
