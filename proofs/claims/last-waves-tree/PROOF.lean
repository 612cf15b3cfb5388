import PyProof.Rows.All
import Wide.All
import OpenK.AllK
import Wide.FinOn
import HandS.Base
import HandS.Call
import HandS.Words
import HandS.ForMost
import HandS.Exc
import HandS.ExcOwn
import HandS.WordsExc
import HandS.TryOnly
import HandS.Defaults
import HandS.Codes
import HandS.Conv
import HandS.IsInst
import HandS.Style
import HandS.Strs
import HandS.TupAny
import HandS.TupSets
import HandS.Zip
import HandS.SetKeys
import HandS.Walk
import HandS.Evl
import HandS.HeadHook1
import HandS.HeadHook2
import KE.GoesMore
import KE.KDictWalk
import PyProof.DictMoreH
import KE.KTryMore
import KE.KStateDown
import HandS.Ends
import HandS.More
import HandS.Head0
import HandS.Head1
import HandS.Head2
import HandS.HeadEnd
import PySem.Challenge.RW_ringchief_k91_whole_last_waves_tree
set_option Elab.async false
set_option linter.all false
set_option maxRecDepth 100000
set_option maxHeartbeats 4000000
/-! places of the text, names of each def -/
namespace Rc
open PySem L2
def top (i : Nat) : Stmt := PySem.Challenge.pw_ringchief_k91_whole_last_waves_tree.main.body.getD i (.Pass ⟨0, 0, 0, 0⟩)
abbrev s_is_number : Stmt := top 1
abbrev s_neighbours : Stmt := top 3
abbrev s_tree : Stmt := top 5
abbrev s_comes_home : Stmt := top 6
abbrev s_shows_tree : Stmt := top 7
abbrev s_init : Stmt := inClass (top 15) 0
abbrev s_ask_house : Stmt := inClass (top 15) 1
abbrev s_ask_road : Stmt := inClass (top 15) 2
abbrev s_tell_to : Stmt := inClass (top 15) 3
abbrev s_all_but : Stmt := inClass (top 15) 4
abbrev s_begin : Stmt := inClass (top 15) 5
abbrev s_take_wave : Stmt := inClass (top 15) 6
abbrev s_end_wave : Stmt := inClass (top 15) 7
abbrev s_learn : Stmt := inClass (top 15) 8
abbrev s_come : Stmt := inClass (top 15) 9
abbrev s_waiting : Stmt := inClass (top 15) 10
abbrev s_is_still : Stmt := inClass (top 15) 11
abbrev s_begun : Stmt := inClass (top 15) 12
abbrev s_knows : Stmt := inClass (top 15) 13
abbrev s_sent : Stmt := inClass (top 15) 14
abbrev s_l_drawn : Stmt := top 17
abbrev s_l_load : Stmt := top 18
abbrev s_l_next : Stmt := top 19
abbrev s_l_of : Stmt := top 20
abbrev s_l_name : Stmt := top 21
abbrev s_l_names : Stmt := top 22
abbrev s_l_web : Stmt := top 23
abbrev s_l_same : Stmt := top 24
abbrev s_l_near : Stmt := top 25
abbrev s_l_shows : Stmt := top 26
abbrev s_l_tries : Stmt := top 27
abbrev s_l_led : Stmt := top 28
abbrev s_l_begins : Stmt := top 29
abbrev s_l_right : Stmt := top 30
abbrev s_law : Stmt := top 31
theorem sc_is_number : FnScope ["thing", "most"] ["thing", "most"] (defScope s_is_number) := ⟨rfl, rfl, rfl, by decide +kernel, rfl, by decide +kernel, by decide +kernel⟩
theorem sc_neighbours : FnScope ["lines", "house", "found", "one", "other"] ["lines", "house"] (defScope s_neighbours) := ⟨rfl, rfl, rfl, by decide +kernel, rfl, by decide +kernel, by decide +kernel⟩
theorem sc_tree : FnScope ["run"] ["run"] (defScope s_tree) := ⟨rfl, rfl, rfl, by decide +kernel, rfl, by decide +kernel, by decide +kernel⟩
theorem sc_comes_home : FnScope ["thing", "house", "root", "turn"] ["thing", "house", "root"] (defScope s_comes_home) := ⟨rfl, rfl, rfl, by decide +kernel, rfl, by decide +kernel, by decide +kernel⟩
theorem sc_shows_tree : FnScope ["web", "name", "thing", "names", "lines", "root", "house", "parent"] ["web", "name", "thing"] (defScope s_shows_tree) := ⟨rfl, rfl, rfl, by decide +kernel, rfl, by decide +kernel, by decide +kernel⟩
theorem sc_init : FnScope ["self", "web", "names", "lines", "many", "house"] ["self", "web"] (defScope s_init) := ⟨rfl, rfl, rfl, by decide +kernel, rfl, by decide +kernel, by decide +kernel⟩
theorem sc_ask_house : FnScope ["self", "house"] ["self", "house"] (defScope s_ask_house) := ⟨rfl, rfl, rfl, by decide +kernel, rfl, by decide +kernel, by decide +kernel⟩
theorem sc_ask_road : FnScope ["self", "house", "other"] ["self", "house", "other"] (defScope s_ask_road) := ⟨rfl, rfl, rfl, by decide +kernel, rfl, by decide +kernel, by decide +kernel⟩
theorem sc_tell_to : FnScope ["self", "house", "others", "letter", "other"] ["self", "house", "others", "letter"] (defScope s_tell_to) := ⟨rfl, rfl, rfl, by decide +kernel, rfl, by decide +kernel, by decide +kernel⟩
theorem sc_all_but : FnScope ["self", "house", "other", "one"] ["self", "house", "other"] (defScope s_all_but) := ⟨rfl, rfl, rfl, by decide +kernel, rfl, by decide +kernel, by decide +kernel⟩
theorem sc_begin : FnScope ["self", "house"] ["self", "house"] (defScope s_begin) := ⟨rfl, rfl, rfl, by decide +kernel, rfl, by decide +kernel, by decide +kernel⟩
theorem sc_take_wave : FnScope ["self", "house", "parent", "name", "others"] ["self", "house", "parent", "name"] (defScope s_take_wave) := ⟨rfl, rfl, rfl, by decide +kernel, rfl, by decide +kernel, by decide +kernel⟩
theorem sc_end_wave : FnScope ["self", "house"] ["self", "house"] (defScope s_end_wave) := ⟨rfl, rfl, rfl, by decide +kernel, rfl, by decide +kernel, by decide +kernel⟩
theorem sc_learn : FnScope ["self", "house", "other", "name"] ["self", "house", "other", "name"] (defScope s_learn) := ⟨rfl, rfl, rfl, by decide +kernel, rfl, by decide +kernel, by decide +kernel⟩
theorem sc_come : FnScope ["self", "house", "other", "letters", "word", "name"] ["self", "house", "other"] (defScope s_come) := ⟨rfl, rfl, rfl, by decide +kernel, rfl, by decide +kernel, by decide +kernel⟩
theorem sc_waiting : FnScope ["self", "house", "other"] ["self", "house", "other"] (defScope s_waiting) := ⟨rfl, rfl, rfl, by decide +kernel, rfl, by decide +kernel, by decide +kernel⟩
theorem sc_is_still : FnScope ["self", "letters"] ["self"] (defScope s_is_still) := ⟨rfl, rfl, rfl, by decide +kernel, rfl, by decide +kernel, by decide +kernel⟩
theorem sc_begun : FnScope ["self"] ["self"] (defScope s_begun) := ⟨rfl, rfl, rfl, by decide +kernel, rfl, by decide +kernel, by decide +kernel⟩
theorem sc_knows : FnScope ["self", "house"] ["self", "house"] (defScope s_knows) := ⟨rfl, rfl, rfl, by decide +kernel, rfl, by decide +kernel, by decide +kernel⟩
theorem sc_sent : FnScope ["self"] ["self"] (defScope s_sent) := ⟨rfl, rfl, rfl, by decide +kernel, rfl, by decide +kernel, by decide +kernel⟩
theorem sc_l_drawn : FnScope ["_law_script"] ["_law_script"] (defScope s_l_drawn) := ⟨rfl, rfl, rfl, by decide +kernel, rfl, by decide +kernel, by decide +kernel⟩
theorem sc_l_load : FnScope ["_law_state", "_law_cells", "_law_tour", "_law_cell", "_law_mixed"] ["_law_state"] (defScope s_l_load) := ⟨rfl, rfl, rfl, by decide +kernel, rfl, by decide +kernel, by decide +kernel⟩
theorem sc_l_next : FnScope ["_law_state", "_law_many", "_law_found"] ["_law_state", "_law_many"] (defScope s_l_next) := ⟨rfl, rfl, rfl, by decide +kernel, rfl, by decide +kernel, by decide +kernel⟩
theorem sc_l_of : FnScope ["_law_state", "_law_some"] ["_law_state", "_law_some"] (defScope s_l_of) := ⟨rfl, rfl, rfl, by decide +kernel, rfl, by decide +kernel, by decide +kernel⟩
theorem sc_l_name : FnScope ["_law_state", "_law_most"] ["_law_state"] (defScope s_l_name) := ⟨rfl, rfl, rfl, by decide +kernel, rfl, by decide +kernel, by decide +kernel⟩
theorem sc_l_names : FnScope ["_law_state", "_law_many", "_law_names_here", "_law_k", "_law_name_here"] ["_law_state", "_law_many"] (defScope s_l_names) := ⟨rfl, rfl, rfl, by decide +kernel, rfl, by decide +kernel, by decide +kernel⟩
theorem sc_l_web : FnScope ["_law_state", "_law_most", "_law_far", "_law_many", "_law_left", "_law_order", "_law_way", "_law_lines", "_law_k", "_law_up", "_law_one", "_law_other"] ["_law_state", "_law_most", "_law_far"] (defScope s_l_web) := ⟨rfl, rfl, rfl, by decide +kernel, rfl, by decide +kernel, by decide +kernel⟩
theorem sc_l_same : FnScope ["_law_found", "_law_due", "_law_one", "_law_other"] ["_law_found", "_law_due"] (defScope s_l_same) := ⟨rfl, rfl, rfl, by decide +kernel, rfl, by decide +kernel, by decide +kernel⟩
theorem sc_l_near : FnScope ["_law_web_here", "_law_house", "_law_found", "_law_one", "_law_other"] ["_law_web_here", "_law_house"] (defScope s_l_near) := ⟨rfl, rfl, rfl, by decide +kernel, rfl, by decide +kernel, by decide +kernel⟩
theorem sc_l_shows : FnScope ["_law_web_here", "_law_name_here", "_law_thing", "_law_names_here", "_law_met", "_law_k", "_law_up", "_law_turn"] ["_law_web_here", "_law_name_here", "_law_thing"] (defScope s_l_shows) := ⟨rfl, rfl, rfl, by decide +kernel, rfl, by decide +kernel, by decide +kernel⟩
theorem sc_l_tries : FnScope ["_law_run", "_law_house", "_law_late"] ["_law_run", "_law_house"] (defScope s_l_tries) := ⟨rfl, rfl, rfl, by decide +kernel, rfl, by decide +kernel, by decide +kernel⟩
theorem sc_l_led : FnScope ["_law_state", "_law_run", "_law_web_here", "_law_many", "_law_roads", "_law_first", "_law_few", "_law_come_by", "_law_k", "_law_house", "_law_other", "_law_turn", "_law_one"] ["_law_state", "_law_run", "_law_web_here"] (defScope s_l_led) := ⟨rfl, rfl, rfl, by decide +kernel, rfl, by decide +kernel, by decide +kernel⟩
theorem sc_l_begins : FnScope ["_law_state", "_law_run", "_law_many", "_law_k"] ["_law_state", "_law_run", "_law_many"] (defScope s_l_begins) := ⟨rfl, rfl, rfl, by decide +kernel, rfl, by decide +kernel, by decide +kernel⟩
theorem sc_l_right : FnScope ["_law_state", "_law_web_here", "_law_run", "_law_many", "_law_found", "_law_name_here", "_law_other", "_law_at", "_law_lost", "_law_own", "_law_up"] ["_law_state", "_law_web_here", "_law_run"] (defScope s_l_right) := ⟨rfl, rfl, rfl, by decide +kernel, rfl, by decide +kernel, by decide +kernel⟩
theorem sc_law : FnScope ["_law_script", "_law_state", "_law_k", "_law_web_here", "_law_many", "_law_run", "_law_other"] ["_law_script"] (defScope s_law) := ⟨rfl, rfl, rfl, by decide +kernel, rfl, by decide +kernel, by decide +kernel⟩
end Rc
set_option Elab.async false
set_option linter.all false
set_option maxRecDepth 100000
set_option maxHeartbeats 4000000
/-! what the top has written, short words -/
namespace Rc
open PySem PySem.Spec PyProof.Rows L2
abbrev DefAt (K : PySem.W.Frag) (x qual : Str) (st : Stmt) (f : Addr) (fd : FuncData) : Prop := FunD K x qual (defArgs st) (defBody st) (defScope st) [] [] f fd
structure Txt (K : PySem.W.Frag) (mg : Str → Option Value) (C CB CL : Addr) : Prop where
  b_isinstance : mg "isinstance" = none
  b_int : mg "int" = none
  b_bool : mg "bool" = none
  b_tuple : mg "tuple" = none
  b_str : mg "str" = none
  b_sorted : mg "sorted" = none
  b_len : mg "len" = none
  b_range : mg "range" = none
  b_enumerate : mg "enumerate" = none
  b_all : mg "all" = none
  b_list : mg "list" = none
  b_abs : mg "abs" = none
  b_min : mg "min" = none
  b_max : mg "max" = none
  b_zip : mg "zip" = none
  gC : mg "WebRun" = some (.ref C)
  cl : Cls K C
  n_nm : NoAttr K C "web_names"
  n_jn : NoAttr K C "joined_with"
  n_wv : NoAttr K C "waves"
  n_pa : NoAttr K C "parents"
  n_lk : NoAttr K C "lacking"
  n_ch : NoAttr K C "chief_known"
  n_bg : NoAttr K C "beginners"
  n_rd : NoAttr K C "web_roads"
  n_tl : NoAttr K C "letters_told"
  gB : mg "Began" = some (.ref CB)
  gL : mg "TooLate" = some (.ref CL)
  xB : PySem.W.excIn K CB He.veBase "ValueError.__new__" = true ∧ PySem.W.keepIn K (.ref CB) = true ∧ PySem.W.subIn K (.ref CB) (.type "BaseException") = some true ∧ PySem.W.typeIn K (.ref CB) = some (.type "type")
  xL : PySem.W.excIn K CL He.veBase "ValueError.__new__" = true ∧ PySem.W.keepIn K (.ref CL) = true ∧ PySem.W.subIn K (.ref CL) (.type "BaseException") = some true ∧ PySem.W.typeIn K (.ref CL) = some (.type "type")
  eBB : PySem.W.exmOne K (.ref CB) (.ref CB) = some true
  eBL : PySem.W.exmOne K (.ref CB) (.ref CL) = some false
  eLB : PySem.W.exmOne K (.ref CL) (.ref CB) = some false
  eLL : PySem.W.exmOne K (.ref CL) (.ref CL) = some true
section
variable {P : Program} {w : World} {K : PySem.W.Frag} {mg : Str → Option Value} {base : Heap}
/-- a def that lets nothing out, by its body -/
theorem okN {x qual : Str} {st : Stmt} {f : Addr} {fd : FuncData} {N ps : List Str} {k : Nat} {sp : Sp} (F : DefAt K x qual st f fd) (S : FnScope N ps (defScope st)) (len : ∀ vs H Q E, sp vs H Q E → vs.length = ps.length)
    (hbody : ∀ (cdv : Value) (A : Around) (outer : List Env) (s : Shared) (H : Hp) (vs : List V) (Q : VK) (E : XK), Room k (A.deeper (envOfC qual (defScope st) s.heap.objs.size f cdv)) → sp vs H Q E →
      ∃ t, PSs (cxOf CX0 P w K mg base N qual (defScope st) f cdv A outer s H E).nox (defBody st) t ∧ t { nx := fun _ H' => Q .non H', rt := Q } (start N vs) H) : FnOk P w K mg base CX0 (k + 1) f fd ps sp :=
  F.ok S len fun cdv A outer s H vs Q E hr hsp => by
    obtain ⟨t, h, q⟩ := hbody cdv A outer s H vs Q E hr hsp
    exact ⟨t, h.nox, q⟩
theorem calN {x : Str} {st : Stmt} {f : Addr} {fd : FuncData} {ps : List Str} {k : Nat} {sp : Sp} (F : DefAt K x x st f fd) (hm : mg x = some (.ref f)) (ok : FnOk P w K mg base CX0 k f fd ps sp)
    (h : ∀ (kV doc pm : Value) (an : Option Addr) (cdv ct : Value) (us : List Value), us.length = ps.length → bindArgs (PySem.W.fnOf x x (defArgs st) (defBody st) (defScope st) .none kV doc pm an cdv ct) ⟨us, []⟩ = pure (ps.zip us)) :
    C8.Cal P w K mg base k x sp [] := ⟨f, fd, ps, [], ok, hm, F.kp, FunD.bindsN F h, .nil⟩
theorem metN {m qual : Str} {C : Addr} {st : Stmt} {f : Addr} {fd : FuncData} {ps : List Str} {k : Nat} {sp : Sp} (c : Cls K C) (me : Meth K C m f) (F : DefAt K m qual st f fd) (ok : FnOk P w K mg base CX0 k f fd ps sp)
    (h : ∀ (kV doc pm : Value) (an : Option Addr) (cdv ct : Value) (us : List Value), us.length = ps.length → bindArgs (PySem.W.fnOf m qual (defArgs st) (defBody st) (defScope st) .none kV doc pm an cdv ct) ⟨us, []⟩ = pure (ps.zip us)) :
    C8.Met P w K mg base k C m sp [] := ⟨f, fd, ps, [], c, me, ok, FunD.bindsN F h, .nil⟩
theorem makN {x qual : Str} {C : Addr} {st : Stmt} {f : Addr} {fd : FuncData} {ps : List Str} {k : Nat} {sp : Sp} (M : Mk K C f) (hm : mg x = some (.ref C)) (F : DefAt K "__init__" qual st f fd) (ok : FnOk P w K mg base CX0 k f fd ps sp)
    (h : ∀ (kV doc pm : Value) (an : Option Addr) (cdv ct : Value) (us : List Value), us.length = ps.length → bindArgs (PySem.W.fnOf "__init__" qual (defArgs st) (defBody st) (defScope st) .none kV doc pm an cdv ct) ⟨us, []⟩ = pure (ps.zip us)) :
    C8.Mak P w K mg base k x C sp [] := ⟨f, fd, ps, [], M, ok, hm, FunD.bindsN F h, .nil⟩
end
end Rc
set_option Elab.async false
set_option linter.all false
set_option maxRecDepth 100000
set_option maxHeartbeats 4000000
/-! small words on lists, heaps -/
namespace Rc
open PySem PySem.Spec PyProof.Rows L2
/-! ### heaps -/
theorem same_new {H : Hp} {p : Addr} {o : HO} (h : H p = none) : Same H (upd H p o) := fun b u e => by
  rw [upd_ne (ne_of_none e h)]
  exact e
theorem same_upd {H H' : Hp} {p : Addr} {o : HO} (s : Same H H') (h : H p = none) : Same H (upd H' p o) := fun b u e => by
  rw [upd_ne (ne_of_none e h)]
  exact s b u e
theorem same_tup {K : PySem.W.Frag} {H H' : Hp} {a : Addr} {xs : List V} (e : Same H H') (h : SqT K H a xs) : SqT K H' a xs := Evl.ex_t e h
theorem keep_upd {H H' : Hp} {p : Addr} {o : HO} (h : H p = none) : ∀ {b : Addr} {u : HO}, H b = some u → (upd H p o) b = some u := fun {b u} e => same_new h b u e
/-! ### lists of houses as values -/
def vI (l : List Nat) : List V := l.map fun k : Nat => V.int (k : Int)
theorem vI_len (l : List Nat) : (vI l).length = l.length := by unfold vI; rw [List.length_map]
theorem vI_get {l : List Nat} {i : Nat} : (vI l)[i]? = (l[i]?).map fun k : Nat => V.int (k : Int) := by unfold vI; rw [List.getElem?_map]
theorem vI_app (l m : List Nat) : vI (l ++ m) = vI l ++ vI m := by unfold vI; rw [List.map_append]
theorem vI_one (k : Nat) : [V.int (k : Int)] = vI [k] := rfl
theorem vI_ints (l : List Nat) : (l.map fun k : Nat => (k : Int)).map V.int = vI l := by unfold vI; rw [List.map_map]; rfl
theorem vI_flat (l : List Nat) : (vI l).all flatV = true := by
  unfold vI
  rw [List.all_map, List.all_eq_true]
  intro x _
  rfl
theorem eqV_int (a b : Int) : eqV (.int a) (.int b) = decide (a = b) := by
  show (a == b) = _
  rw [Bool.eq_iff_iff]; simp
theorem vI_in (l : List Nat) (k : Nat) : inV (.int (k : Int)) (vI l) = decide (k ∈ l) := by
  unfold inV vI
  rw [List.any_map, Bool.eq_iff_iff, List.any_eq_true, decide_eq_true_iff]
  constructor
  · rintro ⟨x, hx, e⟩
    have e2 : eqV (.int (x : Int)) (.int (k : Int)) = true := e
    rw [eqV_int, decide_eq_true_iff] at e2
    have : x = k := by omega
    rw [← this]; exact hx
  · intro h
    refine ⟨k, h, ?_⟩
    show eqV (.int (k : Int)) (.int (k : Int)) = true
    rw [eqV_int]; simp
theorem perm_nat {ns : List Int} {l : List Nat} (h : ns.Perm (l.map fun k : Nat => (k : Int))) : ∃ l' : List Nat, ns = (l'.map fun k : Nat => (k : Int)) ∧ l'.Perm l := by
  refine ⟨ns.map Int.toNat, ?_, ?_⟩
  · rw [List.map_map]
    have : ∀ x ∈ ns, ((fun k : Nat => (k : Int)) ∘ Int.toNat) x = x := by
      intro x hx
      have := h.mem_iff.mp hx
      rw [List.mem_map] at this
      obtain ⟨k, _, rfl⟩ := this
      simp
    rw [List.map_congr_left this]
    simp
  · have := h.map Int.toNat
    rw [List.map_map] at this
    have e : (Int.toNat ∘ fun k : Nat => (k : Int)) = id := by funext k; simp
    rw [e, List.map_id] at this
    exact this
theorem take_more {α : Type} {l : List α} {i : Nat} {x : α} (h : l[i]? = some x) : l.take (i + 1) = l.take i ++ [x] := by
  rw [List.take_add_one, h]; rfl
/-! ### tuples of two -/
abbrev PairsAt (H : Hp) : List V → List (Nat × Nat) → Prop := Paired (fun x p => ∃ t, x = V.ref t ∧ H t = some (.tup [.int (p.1 : Int), .int (p.2 : Int)]))
theorem paired_get {α β : Type} {R : α → β → Prop} : ∀ {xs : List α} {ys : List β}, Paired R xs ys → ∀ {i : Nat} {x : α}, xs[i]? = some x → ∃ y, ys[i]? = some y ∧ R x y
  | _, _, .nil, i, x, h => by simp at h
  | _, _, .cons r t, 0, x, h => by simp at h; subst h; exact ⟨_, rfl, r⟩
  | _, _, .cons r t, i + 1, x, h => by
    obtain ⟨y, h1, h2⟩ := paired_get t (i := i) (x := x) (by simpa using h)
    exact ⟨y, by simpa using h1, h2⟩
theorem paired_len {α β : Type} {R : α → β → Prop} : ∀ {xs : List α} {ys : List β}, Paired R xs ys → xs.length = ys.length
  | _, _, .nil => rfl
  | _, _, .cons _ t => by simp [paired_len t]
theorem paired_imp {α β : Type} {R S : α → β → Prop} : ∀ {xs : List α} {ys : List β}, Paired R xs ys → (∀ x y, R x y → S x y) → Paired S xs ys
  | _, _, .nil, _ => .nil
  | _, _, .cons r t, f => .cons (f _ _ r) (paired_imp t f)
theorem paired_app {α β : Type} {R : α → β → Prop} : ∀ {xs xs' : List α} {ys ys' : List β}, Paired R xs ys → Paired R xs' ys' → Paired R (xs ++ xs') (ys ++ ys')
  | _, _, _, _, .nil, h => h
  | _, _, _, _, .cons r t, h => .cons r (paired_app t h)
theorem pairs_same {H H' : Hp} {xs : List V} {L : List (Nat × Nat)} (s : Same H H') (h : PairsAt H xs L) : PairsAt H' xs L := paired_imp h fun _ _ ⟨t, e, q⟩ => ⟨t, e, s _ _ q⟩
/-- .. where tuples stay -/
def IsT : HO → Bool
  | .tup _ => true
  | .frz _ (.tup _) => true
  | _ => false
def Tups (H H' : Hp) : Prop := ∀ b o, IsT o = true → H b = some o → H' b = some o
theorem Same.tups {H H' : Hp} (s : Same H H') : Tups H H' := fun b o _ e => s b o e
theorem ne_t {H : Hp} {b c : Addr} {o u : HO} (i : IsT o = true) (h : H b = some o) (h' : H c = some u) (j : IsT u = false) : b ≠ c := ne_of h h' fun e => by rw [e, j] at i; cases i
theorem pairs_tups {H H' : Hp} {xs : List V} {L : List (Nat × Nat)} (s : Tups H H') (h : PairsAt H xs L) : PairsAt H' xs L := paired_imp h fun _ _ ⟨t, e, q⟩ => ⟨t, e, s _ _ rfl q⟩
/-! ### isinstance -/
/-- None or an int -/
def oV : Option Int → V
  | none => .non
  | some i => .int i
def tyO : Option Int → Value
  | none => .type "NoneType"
  | some _ => .type "int"
section
variable {K : PySem.W.Frag} {H : Hp}
theorem tyx_o {o : Option Int} : TyX K H (oV o) (tyO o) := by
  cases o with
  | none => exact .base .non
  | some i => exact .base (.int i)
theorem kit_o_int {o : Option Int} : PySem.W.kitOne K (tyO o) (.type "int") = some o.isSome := by
  cases o with
  | none => exact kit_ty (r := false) (by decide +kernel)
  | some i => exact kit_ty (r := true) (by decide +kernel)
theorem kit_o_bool {o : Option Int} : PySem.W.kitOne K (tyO o) (.type "bool") = some false := by
  cases o with
  | none => exact kit_ty (by decide +kernel)
  | some i => exact kit_ty (by decide +kernel)
theorem kit_o_tuple {o : Option Int} : PySem.W.kitOne K (tyO o) (.type "tuple") = some false := by
  cases o with
  | none => exact kit_ty (by decide +kernel)
  | some i => exact kit_ty (by decide +kernel)
theorem kit_o_str {o : Option Int} : PySem.W.kitOne K (tyO o) (.type "str") = some false := by
  cases o with
  | none => exact kit_ty (by decide +kernel)
  | some i => exact kit_ty (by decide +kernel)
theorem tyx_t {a : Addr} {xs : List V} (h : H a = some (.tup xs)) : TyX K H (.ref a) (.type "tuple") := .base (.tup h)
theorem kit_t : PySem.W.kitOne K (.type "tuple") (.type "tuple") = some true := kit_ty (by decide +kernel)
end
end Rc
set_option Elab.async false
set_option linter.all false
set_option maxRecDepth 100000
set_option maxHeartbeats 4000000
/-! data: lists of ints, tuples of ints and None, compared -/
namespace Rc
open PySem PySem.Spec PyProof.Rows L2
def oD : Option Int → PyData
  | none => .none
  | some i => .int i
theorem dp_o {K : PySem.W.Frag} {H : Hp} (o : Option Int) : Dp K H (oV o) (oD o) := by
  cases o with
  | none => exact .non
  | some i => exact .int i
theorem dpAll_o {K : PySem.W.Frag} {H : Hp} : ∀ os : List (Option Int), DpAll K H (os.map oV) (os.map oD)
  | [] => .nil
  | o :: r => .cons (dp_o o) (dpAll_o r)
theorem dpAll_i {K : PySem.W.Frag} {H : Hp} : ∀ ns : List Int, DpAll K H (ns.map V.int) (ns.map PyData.int)
  | [] => .nil
  | n :: r => .cons (.int n) (dpAll_i r)
theorem o_lay : ∀ os : List (Option Int), PyData.canLayAll0 (os.map oD) = true
  | [] => rfl
  | none :: r => by simp [PyData.canLayAll0, PyData.canLay0, oD, o_lay r]
  | some _ :: r => by simp [PyData.canLayAll0, PyData.canLay0, oD, o_lay r]
theorem o_depth : ∀ os : List (Option Int), PyData.depthAll (os.map oD) ≤ 1
  | [] => by simp [PyData.depthAll]
  | none :: r => by have := o_depth r; simp only [List.map_cons, PyData.depthAll, PyData.depth, oD]; omega
  | some _ :: r => by have := o_depth r; simp only [List.map_cons, PyData.depthAll, PyData.depth, oD]; omega
theorem o_shaped (os : List (Option Int)) : SeqAt.shaped (.tuple (os.map oD)) = true := by
  have h1 := o_depth os
  have h2 : PyData.depth (.tuple (os.map oD)) ≤ 64 := by simp only [PyData.depth]; omega
  show (PyData.canLay0 (.tuple (os.map oD)) && decide (PyData.depth (.tuple (os.map oD)) ≤ 64)) = true
  rw [Bool.and_eq_true]
  exact ⟨by simp only [PyData.canLay0]; exact o_lay os, decide_eq_true h2⟩
theorem i_lay : ∀ ns : List Int, PyData.canLayAll0 (ns.map PyData.int) = true
  | [] => rfl
  | _ :: r => by simp [PyData.canLayAll0, PyData.canLay0, i_lay r]
theorem i_depth : ∀ ns : List Int, PyData.depthAll (ns.map PyData.int) ≤ 1
  | [] => by simp [PyData.depthAll]
  | _ :: r => by have := i_depth r; simp only [List.map_cons, PyData.depthAll, PyData.depth]; omega
theorem i_shaped (ns : List Int) : SeqAt.shaped (.list (ns.map PyData.int)) = true := by
  have h1 := i_depth ns
  have h2 : PyData.depth (.list (ns.map PyData.int)) ≤ 64 := by simp only [PyData.depth]; omega
  show (PyData.canLay0 (.list (ns.map PyData.int)) && decide (PyData.depth (.list (ns.map PyData.int)) ≤ 64)) = true
  rw [Bool.and_eq_true]
  exact ⟨by simp only [PyData.canLay0]; exact i_lay ns, decide_eq_true h2⟩
theorem eqv_o (a b : Option Int) : PyData.eqv (oD a) (oD b) = decide (a = b) := by
  cases a <;> cases b <;> simp [oD, PyData.eqv]
  rw [Bool.eq_iff_iff]; simp
theorem eqv_os : ∀ a b : List (Option Int), PyData.eqvAll (a.map oD) (b.map oD) = decide (a = b)
  | [], [] => by simp [PyData.eqvAll]
  | [], _ :: _ => by simp [PyData.eqvAll]
  | _ :: _, [] => by simp [PyData.eqvAll]
  | x :: r, y :: t => by
    simp only [List.map_cons, PyData.eqvAll, eqv_o, eqv_os r t]
    by_cases h : x = y <;> simp [h]
theorem eqv_tup (a b : List (Option Int)) : PyData.eqv (.tuple (a.map oD)) (.tuple (b.map oD)) = decide (a = b) := by
  simp only [PyData.eqv]; exact eqv_os a b
theorem eqv_nil (a : List Int) : PyData.eqv (.list (a.map PyData.int)) (.list ([].map PyData.int)) = decide (a = []) := by
  cases a <;> simp [PyData.eqv, PyData.eqvAll]
theorem int_in (l : List Int) (k : Int) : inV (.int k) (l.map V.int) = decide (k ∈ l) := by
  unfold inV
  rw [List.any_map, Bool.eq_iff_iff, List.any_eq_true, decide_eq_true_iff]
  constructor
  · rintro ⟨x, hx, e⟩
    have e2 : eqV (.int x) (.int k) = true := e
    rw [eqV_int, decide_eq_true_iff] at e2
    rw [← e2]; exact hx
  · intro h
    refine ⟨k, h, ?_⟩
    show eqV (.int k) (.int k) = true
    rw [eqV_int]; simp
theorem int_flat (l : List Int) : (l.map V.int).all flatV = true := by
  rw [List.all_map, List.all_eq_true]; intro x _; rfl
end Rc
set_option Elab.async false
set_option linter.all false
set_option maxRecDepth 100000
set_option maxHeartbeats 4000000
/-! rules that the layer lacks: enumerate(tuple), values of a dict with tuple keys, its setdefault, sorted of it, xs[i] -= e, tuple.index of ints -/
namespace RcN
open PySem PySem.Spec PyProof.Rows L2
set_option maxHeartbeats 1000000 in
theorem meets_enumerate_new1 {v : Value} {o : Obj} {H : Heap → Prop} (B : Begins v o H) :
    Meets (Builtin.«enumerate.__new__» ⟨[.type "enumerate", v], []⟩) (fun _ R s => H s.heap ∧
      R (.ok (.ret (.ref (s.heap.push o).objs.size))) { s with heap := (s.heap.push o).push { cls := .type "enumerate", data := .fields #[.none, .bool false, .ref s.heap.objs.size, rawInt 0, .none, .none] } }) :=
  .of_wp fun prog w A R s h => by
    obtain ⟨hp, g, d, tk, os⟩ := s; obtain ⟨h1, h⟩ := h
    have hsub := sub_enumerate
    have q1 : ∀ {A' : Around} {E : Value → Shared → Prop} {Q : Value → Shared → Prop}, Q (.ref hp.objs.size) ⟨hp.push o, g, d, tk, os⟩ → wpAny (model prog w) A' (pyIter v) Q E ⟨hp, g, d, tk, os⟩ :=
      fun q => B.iter prog w _ _ ⟨hp, g, d, tk, os⟩ _ h1 q
    wp_walk using q1
    refine wpAny_stack_any fun st => wpAny_pure ?_
    split
    · rename_i c _ _ _ _ _
      cases (c == Value.type "enumerate")
      · wp_walk using q1
        exact ⟨_, rfl, h⟩
      · wp_walk using q1
        exact ⟨_, rfl, h⟩
    · wp_walk using q1
      exact ⟨_, rfl, h⟩
theorem enum_begins1 {prog : Program} {w : World} {A : Around} {E : Value → Shared → Prop} {s : Shared} {v : Value} {o : Obj} {H : Heap → Prop} {Q : Value → Shared → Prop} (B : Begins v o H) (h1 : H s.heap)
    (h : ∀ h', IsEnum h' (s.heap.objs.size + 1) s.heap.objs.size 0 .none → h'.get? s.heap.objs.size = some o → h'.objs.size = s.heap.objs.size + 2 →
      (∀ b o, s.heap.get? b = some o → h'.get? b = some o) → Q (.ref (s.heap.objs.size + 1)) { s with heap := h' }) :
    wpAny (model prog w) A (call (.type "enumerate") [v]) Q E s := by
  refine callType_new F.called_enumerate (by decide) (F.typeCall_enumerate_1 _) (F.newCall_enumerate_1 _) (fun obj => F.args_object_init_2 obj _) F.entry_enumerate_new
    (meets_enumerate_new1 B) ⟨h1, ?_⟩
  have hz : (s.heap.push o).objs.size = s.heap.objs.size + 1 := Heap.size_push ..
  show _ ∧ _
  rw [hz]
  have he : IsEnum ((s.heap.push o).push { cls := .type "enumerate", data := .fields #[.none, .bool false, .ref s.heap.objs.size, rawInt 0, .none, .none] }) (s.heap.objs.size + 1) s.heap.objs.size 0 .none := by
    have := Heap.get?_push_size (s.heap.push o) (o := { cls := .type "enumerate", data := .fields #[.none, .bool false, .ref s.heap.objs.size, rawInt 0, .none, .none] }) rfl
    rw [hz] at this; exact this
  refine ⟨⟨_, he, rfl⟩, h _ he (Heap.get?_push_of_some _ (Heap.get?_push_size _ B.free)) (by rw [Heap.size_push, hz]) fun b o x => Heap.get?_push_of_some _ (Heap.get?_push_of_some _ x)⟩
/-- enumerate of the tuple at a -/
def Itet (K : PySem.W.Frag) (a : Addr) : It :=
  ⟨fun i H => ∃ (xs : List V) (x : V), SqT K H a xs ∧ xs[i]? = some x, fun i H v H' => ∃ T x, v = .ref T ∧ H T = none ∧ H' = upd H T (.tup [.int (i : Nat), x]) ∧ ∀ xs, SqT K H a xs → xs[i]? = some x, fun i H => ∃ xs : List V, SqT K H a xs ∧ xs.length ≤ i⟩
theorem turn_enumT {P : Program} {w : World} {K : PySem.W.Frag} {elts : List Expr} {kk : Nat} {tpos : Pos} (a e it : Addr) :
    Turn P w K (.Tuple elts kk tpos) (Itet K a) [e, it] e (fun i h => (∃ old, IsEnum h e it ((i : Nat) : Int) old) ∧ h.IsTupleIter it a i ∧ e ≠ it ∧ a ≠ it ∧ e ≠ a) where
  mem := by simp
  obj := fun i h st b hb => by
    obtain ⟨⟨old, he⟩, ⟨o, ho, hc, hd⟩, _⟩ := st
    have e' : b = e ∨ b = it := by simpa using hb
    rcases e' with z | z
    · rw [z]; exact ⟨_, he, fun v q => nomatch q⟩
    · rw [z]; exact ⟨o, ho, fun v q => by rw [hd] at q; cases q⟩
  keep := fun i h h' st k => let ⟨⟨old, he⟩, hi, hne⟩ := st; ⟨⟨old, k e (by simp) _ he⟩, hi.at fun o q => k it (by simp) o q, hne⟩
  item := by
    intro X hP hw hK hc i pins s σ H E I hf st hg
    subst hP hw hK
    obtain ⟨⟨old, he⟩, hit, hne, hai, hea⟩ := st
    obtain ⟨xs, x, hq, hx⟩ := hg
    obtain ⟨its, rv, p, hz⟩ := I.tuple hq
    obtain ⟨u, hu, ru⟩ := rv.get hx
    have hel : e < s.heap.objs.size := Heap.lt_size he
    have hil : it < s.heap.objs.size := by obtain ⟨_, q, _⟩ := hit; exact Heap.lt_size q
    have hlt : i < its.toArray.size := by
      have h1 := (List.getElem?_eq_some_iff.mp hu).1
      simpa using h1
    have D := Draws.tuple (prog := X.prog) (w := X.w) (A := X.A.in1) (I.ok.hd hc) it a hai its.toArray
    refine wpAny_pyNext_enum_itemD D he ⟨hit, show s.heap.IsTuple a its.toArray from p⟩ hlt hne (by simp; exact ⟨hne, hea⟩) fun x' h' tk hx' ho hit' hT hsz hk => ?_
    have hxu : x' = u := by
      have h1 : its.toArray[i]? = some x' := hx'
      rw [List.getElem?_toArray, hu] at h1
      exact (Option.some.inj h1).symm
    subst hxu
    refine ⟨_, rfl, wpAny_letOwnedTupleGo_enum (s := { s with heap := h', toks := tk + 1 }) ho fun h'' he' sb => ?_⟩
    have hT2 : h''.get? s.heap.objs.size = some { cls := .type "tuple", data := .seq #[.int i tk, x'] } := (sb.2 _ (Nat.ne_of_gt hel)).trans hT
    have new : ObjOk X.prog X.w (upd H s.heap.objs.size (.tup [.int (i : Nat), x])) h'' s.heap.objs.size (.tup [.int (i : Nat), x]) :=
      ⟨by show 2 ≤ sizeLine; decide, [.int i tk, x'], .cons ⟨_, rfl⟩ (.cons ru .nil), ⟨_, hT2, rfl, _, rfl⟩⟩
    have I1 : Inv X pins σ (upd H s.heap.objs.size (.tup [.int (i : Nat), x])) { s with heap := h'', toks := tk + 1 } :=
      I.turnedNew (ch := [e, it]) (fun b ob hb q => (sb.2 b (fun z => hb (by simp [z]))).trans (hk b ob (fun z => hb (by simp [z])) (fun z => hb (by simp [z])) q)) hf (Nat.le_refl _) new
    refine ⟨.ref s.heap.objs.size, _, I1, rfl, ⟨_, x, rfl, I.hok.fresh (Nat.le_refl _), rfl, fun ys hy => by rw [I.tuple_inj hy hq]; exact hx⟩, ⟨⟨x', ?_⟩, hit'.1.at fun o q => (sb.2 it (Ne.symm hne)).trans q, hne, hai, hea⟩, fun b hb => ?_⟩
    · have e1 : ((i + 1 : Nat) : Int) = (i : Int) + 1 := by omega
      rw [e1]; exact he'
    · have hb' : b < s.heap.objs.size := by
        have e' : b = e ∨ b = it := by simpa using hb
        rcases e' with z | z
        · rw [z]; exact hel
        · rw [z]; exact hil
      rw [upd_ne (Nat.ne_of_lt hb')]
      exact (hf b hb).1
  done := by
    intro X hP hw hK hc i pins s σ H E I hf st hg
    subst hP hw hK
    obtain ⟨⟨old, he⟩, hit, hne, hai, hea⟩ := st
    obtain ⟨xs, hq, hx⟩ := hg
    obtain ⟨its, rv, p, hz⟩ := I.tuple hq
    obtain ⟨f0, f1, f2, f3, f4, f5⟩ := hf it (by simp)
    have hl := rv.length
    have D : Draws X.prog X.w X.A.in1 it [it, a] i (fun _ _ => True) (fun j h => j = i ∧ h.IsTupleIter it a i ∧ h.IsTuple a its.toArray) :=
      { live := fun _ _ st => let ⟨_, ⟨o, ho, _⟩, _⟩ := st; ⟨o, ho⟩
        frame := fun _ _ _ st hk => ⟨st.1, st.2.1.at fun o e => hk it (by simp) o e, st.2.2.at fun o e => hk a (by simp) o e⟩
        item := fun j s Q E hi st hQ => by have := st.1; omega
        done := fun s Q E st hE => wpAny_nextOf_tuple_end (A := X.A.in1) (I.ok.hd hc) st.2.1 st.2.2 (by simp; omega) hE }
    exact wpAny_pyNext_enum_endD D he ⟨rfl, hit, show s.heap.IsTuple a its.toArray from p⟩ fun h' eb => ⟨rfl, I.turned (t' := s.toks) (fun b o hb q => eb b o hb q) f0 f1 f3 f4 f5⟩
  self := fun A i s Q E st h => let ⟨⟨_, he⟩, _⟩ := st; wpAny_pyIter_enum he h
def iEnumT (K : PySem.W.Frag) (ta : TA) : TI := fun σ H R => ta σ H fun vs H1 => ∃ a xs, vs = [.ref a] ∧ SqT K H1 a xs ∧ R (Itet K a) H1
theorem pi_enumT {X : Cx} {e : Expr} {ta : TA} {p pos tpos : Pos} {elts : List Expr} {kk : Nat} (hg : Gl X "enumerate") (hm : X.mg "enumerate" = none) (ha : PA X [e] ta) (hs : starEach [e] X.env = [(false, eval e X.env)] := by rfl) :
    PI X (.Tuple elts kk tpos) (.Call (.Name "enumerate" p) [e] [] pos) (iEnumT X.K ta) := by
  refine ⟨fun pins s σ H R I h => ?_⟩
  refine Call_ (ld_blt I hg hm boot_enumerate (PyProof.Rows.callWith_type1 (thn (ha.run pos pins s σ H _ I h) fun us s1 ⟨vs, H1, I1, r1, q1⟩ => ?_) hs rfl))
  obtain ⟨a, xs, ex, hq, q⟩ := q1
  subst ex
  cases r1 with
  | cons r rr =>
    cases rr
    cases r
    obtain ⟨its, rv, p', hz⟩ := I1.tuple hq
    have hal : a < s1.heap.objs.size := p'.lt
    refine enum_begins1 (begins_tuple a its.toArray) p' fun h' he hit hsz hk => wpAny_pyIter_enum he ?_
    have I2 : Inv X pins σ H1 { s1 with heap := h' } := I1.kept (t' := s1.toks) hk
    refine ⟨s1.heap.objs.size + 1, [s1.heap.objs.size + 1, s1.heap.objs.size], _, _, H1, rfl, I2, turn_enumT a (s1.heap.objs.size + 1) s1.heap.objs.size, ⟨⟨.none, he⟩, ⟨_, hit, rfl, rfl⟩, Nat.succ_ne_self _, Nat.ne_of_lt hal, Nat.ne_of_gt (Nat.lt_succ_of_lt hal)⟩, fun b hb => ?_, q⟩
    have e' : b = s1.heap.objs.size + 1 ∨ b = s1.heap.objs.size := by simpa using hb
    have hle : s1.heap.objs.size ≤ b := by
      rcases e' with z | z
      · rw [z]; exact Nat.le_add_right _ _
      · rw [z]; exact Nat.le_refl _
    exact I1.fpOk hle (I1.hok.fresh hle)
theorem walk_enumT {K : PySem.W.Frag} {a : Addr} {xs : List V} : Walk (Itet K a) xs.length (fun H => SqT K H a xs) (YPair (fun i => some (.int (i : Nat))) (fun i => xs[i]?)) := by
  refine ⟨fun i _ hi q => ⟨xs, xs[i], q, by simp [hi]⟩, fun _ q => ⟨xs, q, Nat.le_refl _⟩, fun i H v H' _ q y => ?_⟩
  obtain ⟨T, x, h1, h2, h3, h4⟩ := y
  exact ⟨T, .int (i : Nat), x, h1, h2, h3, rfl, h4 xs q⟩
theorem walk_zipT {K : PySem.W.Frag} {a b : Addr} {xs ys : List V} {n : Nat} (hn : n = min xs.length ys.length) : Walk (RZ.ItzT K a b) n (fun H => SqT K H a xs ∧ SqT K H b ys) (YPair (fun i => xs[i]?) (fun i => ys[i]?)) := by
  subst hn
  refine ⟨fun i _ hi q => ?_, fun _ q => ⟨xs, ys, q.1, q.2, by omega⟩, fun i H v H' _ q y => ?_⟩
  · have h1 : i < xs.length := by omega
    have h2 : i < ys.length := by omega
    exact ⟨xs, ys, xs[i], ys[i], q.1, q.2, by simp [h1], by simp [h2]⟩
  · obtain ⟨T, x, z, h1, h2, h3, h4, h5⟩ := y
    exact ⟨T, x, z, h1, h2, h3, h4 xs q.1, h5 ys q.2⟩
/-! ### d.setdefault(t, v), t a tuple -/
section
variable {X : Cx} {pins : List (Addr × Obj)} {σ : L2.St} {H : Hp} {s : Shared} {a b : Addr} {r : Value} {d : V} {k : List Key} {A : Around} {E : Value → Shared → Prop}
theorem d_setdT {kvs : List (List Key × V)} {Q : Value → Shared → Prop} (hu : A.units + 1 < cLine) (I : Inv X pins σ H s) (e : H a = some (.dT kvs)) (eb : H b = some (.tup (k.map kV))) (rd : RelV d r) (hl : kvs.length < sizeLine)
    (h1 : ∀ v, valV kvs k = some v → ∀ (w' : Value) (s' : Shared), Inv X pins σ H s' → RelV v w' → Q w' s') (h2 : valV kvs k = none → ∀ (w' : Value) (s' : Shared), Inv X pins σ (upd H a (.dT (putK kvs k d))) s' → RelV d w' → Q w' s') :
    wpAny (model X.prog X.w) A (call (.builtin "dict.setdefault") [.ref a, .ref b, r]) Q E s := by
  obtain ⟨z, hd, xs, rel, dd⟩ := dt_of I.hok e
  have hz : xs.length ≤ sizeLine := by rw [← Paired.length rel]; exact z
  refine call_setdefault_heap (hsz := hz) (tupleKind_room_in1 hu) (key_of I.hok eb) hd dd (fun p hp => ?_) fun hn h' dd' hs => ?_
  · have q := rel.val k
    rw [hp] at q
    cases q0 : valV kvs k with
    | none => rw [q0] at q; exact (show False from q).elim
    | some v0 =>
      rw [q0] at q
      exact h1 v0 q0 _ _ (I.tok _) q
  · have q := rel.val k
    rw [hn] at q
    cases q0 : valV kvs k with
    | some v0 => rw [q0] at q; exact (show False from q).elim
    | none =>
      have hl2 : (putK kvs k d).length ≤ sizeLine := by have := length_putK kvs k d; omega
      obtain ⟨q, es, ep, hq, h2', h3, h4, _, h5⟩ := dd'
      refine h2 q0 _ _ (d_write I (by rw [e]; exact True.intro) hs ⟨q, hq⟩ ⟨hl2, hd, _, (rel.put k eb rd).keeps fun c ys ec => ?_, q, es, ep, hq, h2', h3, h4, h5⟩) rd
      rw [upd_ne (ne_of ec e (fun z => nomatch z))]
      exact ec
end
def tDSetdT (td ty tx : TE) : TE := fun σ H Q => td σ H fun x H1 => ∃ a, x = .ref a ∧ IsD H1 a ∧ ty σ H1 fun y H2 => tx σ H2 fun z H3 => ∃ (kvs : List (List Key × V)) (k : List Key) (b : Addr), H3 a = some (.dT kvs) ∧ y = .ref b ∧ H3 b = some (.tup (k.map kV)) ∧ kvs.length < sizeLine ∧
  (∀ v, valV kvs k = some v → Q v H3) ∧ (valV kvs k = none → Q z (upd H3 a (.dT (putK kvs k z))))
theorem pe_dsetdT {X : Cx} {o e f : Expr} {td ty tx : TE} {apos cpos : Pos} (hu : X.A.units + 1 < cLine) (ho : PE X o td) (he : PE X e ty) (hf : PE X f tx) (m : M2 X o "setdefault" apos e f cpos) : PE X (.Call (.Attribute o "setdefault" apos) [e, f] [] cpos) (tDSetdT td ty tx) := by
  refine ⟨fun pins s σ H Q I h => ?_⟩
  refine wpAny_Call_method m.base m.few m.line PySem.F.plainAttrs_dict PySem.F.slot_dict_setdefault PySem.F.type_dict_setdefault (thn (ho.run pins s σ H _ I h) fun u s1 ⟨x, H1, I1, rx, a, ex, d, q1⟩ => ?_)
  subst ex
  obtain rfl : u = Value.ref a := rx
  obtain ⟨t1, t2, _⟩ := isD_at I1 d
  refine ⟨t1, t2, ?_⟩
  rw [m.trees]
  refine Calls.callWith_builtin rfl (Calls.evalArgs_plain (Calls.spliced_cons (thn (he.run pins s1 σ H1 _ I1 q1) fun iv s2 ⟨y, H2, I2, ry, q2⟩ =>
    Calls.spliced_cons (thn (hf.run pins s2 σ H2 _ I2 q2) fun fv s3 ⟨z, H3, I3, rz, kvs, k, b, ea, ey, eb, hl, q3, q4⟩ => Calls.spliced_nil ?_))))
  subst ey
  cases (show iv = Value.ref b from ry)
  exact d_setdT hu I3 ea eb rz hl (fun v hv w' s4 I4 rw' => ⟨v, _, I4, rw', q3 v hv⟩) fun hn w' s4 I4 rw' => ⟨z, _, I4, rw', q4 hn⟩
/-! ### xs[i], read for xs[i] op= e -/
theorem get_list {X : Cx} : PGet X (rIxL X.K) := by
  intro pins s σ H x y v u Q I rx ry h
  obtain ⟨p, xs, i, z, rfl, rfl, hq, he, q⟩ := h
  cases rx
  obtain ⟨t, rfl⟩ := ry
  obtain ⟨its, r, pl, hz⟩ := I.list hq
  obtain ⟨j, h1, h2, h3, h4, h5⟩ := atI_get he
  obtain ⟨w, ew, rw'⟩ := r.get h2
  have hl := r.length
  have hn := line63
  have fin : EP X pins σ Q w s := ⟨z, H, I, rw', q⟩
  by_cases h0 : 0 ≤ i
  · have hj : i.toNat = j := by
      rw [seqIndex_of h0 h5] at h1
      exact Option.some.inj h1
    exact wpAny_getItem_list pl.isList h0 (by omega) (by rw [hj]; simpa using ew) fin
  · have hj : (i + (its.toArray.size : Int)).toNat = j := by
      rw [seqIndex_neg (by omega) h4] at h1
      rw [List.size_toArray, ← hl]
      exact Option.some.inj h1
    exact wpAny_getItem_list_neg pl.isList (by omega) (by rw [List.size_toArray] <;> omega) (by omega) (by rw [hj]; simpa using ew) fin
/-! ### t.index(n), ints -/
theorem mt_tup_indexI {X : Cx} : MtR X "tuple.index" (fun x xs H Q => ∃ p, ∃ ys : List Int, ∃ z j, x = .ref p ∧ xs = [.int z] ∧ SqT X.K H p (ys.map V.int) ∧ ys[j]? = some z ∧ (∀ m, m < j → ys[m]? ≠ some z) ∧ Q (.int (j : Nat)) H) := by
  intro pins s σ H x xs v us Q I rx rs h
  obtain ⟨p, ys, z, j, rfl, rfl, hq, hy, hno, q⟩ := h
  cases rx
  obtain ⟨u, rfl, t, rfl⟩ := vals1 rs
  obtain ⟨its, r, pl, hz⟩ := I.tuple hq
  obtain ⟨⟨cls, dd, dt, sl⟩, ho, hc, n, hd⟩ := pl
  simp only at hc hd
  subst hc
  subst hd
  have hl : its.toArray.size = ys.length := by rw [List.size_toArray, ← r.length, List.length_map]
  have hj : j < its.toArray.size := by rw [hl]; exact (List.getElem?_eq_some_iff.mp hy).1
  have at' : ∀ (m : Nat) (hm : m < its.toArray.size), ∃ y t', ys[m]? = some y ∧ its.toArray[m] = Value.int y t' := fun m hm => by
    have hm' : m < ys.length := by rw [← hl]; exact hm
    obtain ⟨w, hw, t', hw'⟩ := r.get (i := m) (x := .int ys[m]) (by simp [hm'])
    refine ⟨ys[m], t', List.getElem?_eq_getElem hm', ?_⟩
    have e := (List.getElem?_eq_some_iff.mp hw).2
    rw [← hw', ← e]
    simp
  have flat : (ys.map V.int).all flatV = true := by
    rw [List.all_map]
    exact List.all_eq_true.mpr fun _ _ => rfl
  refine call_meets PySem.F.slot_tuple_index ⟨_, ho, rfl⟩ PySem.F.entry_tuple_index (PySem.F.args_tuple_index_2 _ _) (TI.tuple_indexAt p its.toArray n dd sl (.int z t) (eqU (.int z)) j hj ?_ ?_)
    ⟨ho, fun w hw => mem_eqAt (x := .int z) ⟨t, rfl⟩ rfl r flat w (by simpa using hw), ⟨.int (j : Nat), H, I.tok _, ⟨_, rfl⟩, q⟩⟩
  · obtain ⟨y, t', h1, h2⟩ := at' j hj
    rw [hy] at h1
    cases h1
    rw [h2]
    show (z == z) = true
    exact beq_self_eq_true z
  · intro m hm hmj
    obtain ⟨y, t', h1, h2⟩ := at' m hm
    rw [h2]
    show (y == z) = false
    exact beq_eq_false_iff_ne.mpr fun e => hno m hmj (e ▸ h1)
end RcN
set_option Elab.async false
set_option linter.all false
set_option maxRecDepth 100000
set_option maxHeartbeats 4000000
namespace RcN
open PySem PySem.Spec PyProof.Rows L2
/-! ### the values of a locked dict with tuple keys -/
def Itdt (d : Addr) (o : Obj) (kvs : List (List Key × V)) : It :=
  ⟨fun i H => H d = some (.frz o (.dT kvs)) ∧ i < kvs.length, fun i H x H' => H' = H ∧ ∃ k, kvs[i]? = some (k, x), fun i H => H d = some (.frz o (.dT kvs)) ∧ kvs.length ≤ i⟩
theorem frzV {X : Cx} {pins : List (Addr × Obj)} {σ : L2.St} {H : Hp} {s : Shared} {d : Addr} {o : Obj} {kvs : List (List Key × V)} (I : Inv X pins σ H s) (h : H d = some (.frz o (.dT kvs))) :
    (d == sysModules) = false ∧ ∃ (es : Array DictEntry) (ep : Nat), s.heap.DictRaw d es ep ∧ o.data = .dict es ep ∧ es.size = kvs.length ∧
      ∀ (i : Nat) (k : List Key) (v : V) (hi : i < es.size), kvs[i]? = some (k, v) → RelV v es[i].val := by
  obtain ⟨hd, z, hs, xs, pr, o', es, ep, ho, hx, hdt, he, _⟩ := I.hok d _ h
  rw [hd] at ho
  cases ho
  have l1 : es.size = xs.length := size_of_entries he
  have l2 : kvs.length = xs.length := Paired.length pr
  refine ⟨hs, es, ep, ⟨o, hd, hx, hdt⟩, hdt, by omega, fun i k v hi e => ?_⟩
  obtain ⟨b, hb, _, _, e3⟩ := L2.paired_get pr e
  have q := entry_at he i
  rw [hb, Array.getElem?_eq_getElem hi] at q
  have q' := Option.some.inj q
  rw [q']
  exact e3
theorem turn_valsT {P : Program} {w : World} {K : PySem.W.Frag} {tg : Expr} {d : Addr} {o : Obj} {es : Array DictEntry} {ep : Nat} {kvs : List (List Key × V)} (it : Addr) (hod : o.data = .dict es ep) : Turn P w K tg (Itdt d o kvs) [it] it (fun i h => h.IsValIter it d i kvs.length ep) where
  mem := by simp
  obj := fun i h st b hb => by
    have e : b = it := by simpa using hb
    subst e
    obtain ⟨oi, e, c, dd⟩ := st
    exact ⟨oi, e, fun v z => by rw [dd] at z; cases z⟩
  keep := fun i h h' st k => st.at fun oi e => k it (by simp) oi e
  item := by
    intro X hP hw hK hc i pins s σ H E I hf st hg
    subst hP hw hK
    obtain ⟨hd, hi⟩ := hg
    obtain ⟨f0, f1, f2, f3, f4, f5⟩ := hf it (by simp)
    obtain ⟨hs, es', ep', raw, hdt, hsz, rel⟩ := frzV I hd
    obtain ⟨rfl, rfl⟩ := dict_ep hod hdt
    obtain ⟨⟨k, v⟩, hkv⟩ : ∃ p, kvs[i]? = some p := ⟨kvs[i], List.getElem?_eq_getElem hi⟩
    rw [← hsz] at st hi
    refine wpAny_pyNext_values_item_raw st raw hi fun h' st' sb => ?_
    have I1 : Inv X pins σ H { s with heap := h' } := I.turned (t' := s.toks) (fun b ob hb e => (sb.2 b hb).trans e) f0 f1 f3 f4 f5
    obtain ⟨oi, e, c, dd⟩ := id st'
    refine ⟨_, rfl, go_of (s := { s with heap := h' }) e c dd (by decide) ⟨v, H, I1, rel i k v hi hkv, ⟨rfl, k, hkv⟩, ?_, fun b hb => (hf b hb).1⟩⟩
    show h'.IsValIter it d (i + 1) kvs.length _
    rw [← hsz]
    exact st'
  done := by
    intro X hP hw hK hc i pins s σ H E I hf st hg
    subst hP hw hK
    obtain ⟨hd, hi⟩ := hg
    obtain ⟨f0, f1, f2, f3, f4, f5⟩ := hf it (by simp)
    obtain ⟨hs, es', ep', raw, hdt, hsz, rel⟩ := frzV I hd
    obtain ⟨rfl, rfl⟩ := dict_ep hod hdt
    rw [← hsz] at st hi
    exact wpAny_pyNext_values_end_raw (I.ok.hd hc) st raw hi fun h' eb => ⟨rfl, I.turned (t' := s.toks) (fun b ob hb e => eb b ob hb e) f0 f1 f3 f4 f5⟩
  self := fun A i s Q E st h => wpAny_pyIter_valiter st h
def iValsT (td : TE) : TI := fun σ H R => td σ H fun x H1 => ∃ d o kvs, x = .ref d ∧ H1 d = some (.frz o (.dT kvs)) ∧ R (Itdt d o kvs) H1
theorem pi_valuesT {X : Cx} {tg e : Expr} {td : TE} {apos cpos : Pos} (he : PE X e td) (hbase : attributeBase e "values" X.env (eval e X.env) = eval e X.env := by rfl) (hline : (apos.endLine == cpos.line) = true := by rfl) : PI X tg (.Call (.Attribute e "values" apos) [] [] cpos) (iValsT td) := by
  refine ⟨fun pins s σ H R I h => ?_⟩
  refine wpAny_Call_method (T := "dict") (id := "dict.values") hbase rfl hline F.plainAttrs_dict F.slot_dict_values F.type_dict_values (thn (he.run pins s σ H _ I h) fun u s1 ⟨x, H1, I1, rx, d, o, kvs, ex, hd, q⟩ => ?_)
  subst ex
  obtain rfl : u = Value.ref d := rx
  obtain ⟨hs, es, ep, raw, hdt, hsz, rel⟩ := frzV I1 hd
  refine ⟨raw.typeIs, fun b q => ?_, ?_⟩
  · cases q
    obtain ⟨ob, h1, h2, _⟩ := raw
    exact ⟨ob, h1, h2.2.1⟩
  have I2 : Inv X pins σ H1 { s1 with heap := s1.heap.push { cls := .type "dict_values", data := .fields #[.ref d] } } := I1.kept (t' := s1.toks) fun b ob q => Heap.get?_push_of_some _ q
  have fin : wpAny (model X.prog X.w) X.A (pyIter (.ref s1.heap.objs.size)) (PIE X pins σ tg R) X.xe { s1 with heap := s1.heap.push { cls := .type "dict_values", data := .fields #[.ref d] } } := by
    refine wpAny_pyIter_values_raw (d := d) (es := es) (ep := ep) ⟨_, Heap.get?_push_size _ rfl, rfl, rfl⟩ (raw.at fun ob q => Heap.get?_push_of_some _ q) (pi_one (tk := s1.toks) I2 _ (turn_valsT _ hdt) ⟨_, Heap.get?_push_size _ rfl, rfl, ?_⟩ q)
    rw [hsz] <;> rfl
  show wpAny _ _ (callWith cpos (.builtin "dict.values") [.ref d] [] []) _ X.xe s1
  exact method_meetsIn F.slot_dict_values F.entry_dict_values rfl (PySem.evalArgs_none ⟨rfl, raw.typeIs, F.args_dict_values_1 _, _, meets_dict_values_raw d hs, ⟨es, ep, raw⟩, fin⟩)
theorem walk_valuesT {d : Addr} {o : Obj} {kvs : List (List Key × V)} : Walk (Itdt d o kvs) kvs.length (fun H => H d = some (.frz o (.dT kvs))) (fun i H x H' => H' = H ∧ ∃ k, kvs[i]? = some (k, x)) :=
  ⟨fun _ _ hi q => ⟨q, hi⟩, fun _ q => ⟨q, Nat.le_refl _⟩, fun _ _ _ _ _ _ y => y⟩
/-! ### sorted(d), d a dict whose keys are pairs of ints -/
theorem paired_perm {α β : Type} {R : α → β → Prop} {xs xs' : List α} (p : xs'.Perm xs) : ∀ {ys : List β}, Paired R xs ys → ∃ ys' : List β, ys'.Perm ys ∧ Paired R xs' ys' := by
  induction p with
  | nil => intro ys h; exact ⟨ys, List.Perm.refl _, h⟩
  | cons x _ ih =>
    intro ys h
    cases h with
    | cons r t =>
      obtain ⟨ys', p', t'⟩ := ih t
      exact ⟨_, p'.cons _, .cons r t'⟩
  | swap x y l =>
    intro ys h
    cases h with
    | cons r t =>
      cases t with
      | cons r' t' => exact ⟨_, List.Perm.swap .., .cons r' (.cons r t')⟩
  | trans _ _ ih1 ih2 =>
    intro ys h
    obtain ⟨y1, p1, t1⟩ := ih2 h
    obtain ⟨y2, p2, t2⟩ := ih1 t1
    exact ⟨y2, p2.trans p1, t2⟩
def kPair (p : Nat × Nat) : List Key := [Sum.inl (p.1 : Int), Sum.inl (p.2 : Int)]
theorem paired_mapL {α β γ : Type} {R : β → γ → Prop} {f : α → β} : ∀ {xs : List α} {ys : List γ}, Paired (fun a c => R (f a) c) xs ys → Paired R (xs.map f) ys
  | _, _, .nil => .nil
  | _, _, .cons r t => .cons r (paired_mapL t)
theorem keys_pairs {H : Hp} : ∀ {kvs : List (List Key × V)} {xs : List (List Key × Addr × Value)} {L : List (Nat × Nat)}, KT H kvs xs → kvs.map (·.1) = L.map kPair → Paired (fun b p => H b = some (.tup [.int (p.1 : Int), .int (p.2 : Int)])) (xs.map fun x => x.2.1) L
  | _, _, [], .nil, _ => .nil
  | _, _, p :: L, .cons r t, h => by
    rw [List.map_cons, List.map_cons, List.cons.injEq] at h
    refine .cons ?_ (keys_pairs t h.2)
    have e := r.2.1
    rw [h.1] at e
    exact e
  | _, _, [], .cons _ _, h => by simp at h
  | _, _, _ :: _, .nil, h => by simp at h
def rSortDT : List V → Hp → VK → Prop := fun vs H Q => ∃ (a : Addr) (kvs : List (List Key × V)) (L : List (Nat × Nat)), vs = [.ref a] ∧ H a = some (.dT kvs) ∧ kvs.map (·.1) = L.map kPair ∧ L.length < 64 ∧ (∀ p ∈ L, p.1 < 1000 ∧ p.2 < 1000) ∧
  ∀ (ts : List Addr) (L' : List (Nat × Nat)) (p : Addr), L'.Perm L → Paired (fun b p => H b = some (.tup [.int (p.1 : Int), .int (p.2 : Int)])) ts L' → H p = none → Q (.ref p) (upd H p (.lst (ts.map V.ref)))
theorem cr_sortedDT {X : Cx} (hcalm : X.calm = true) : CallR X (.builtin "sorted") rSortDT := by
  intro pins s σ H xs us Q I r q
  obtain ⟨a, kvs, L, ex, hd, hks, h64, hB, q⟩ := q
  subst ex
  obtain ⟨u, eu, rx⟩ := vals1 r
  subst eu
  cases rx
  obtain ⟨z, hs, ks, pr, o, es, ep, ho, hx, hdt, he, hn⟩ := (show ObjOk X.prog X.w H s.heap a (.dT kvs) from I.hok a _ hd)
  have l1 : es.size = ks.length := size_of_entries he
  have l2 : kvs.length = ks.length := Paired.length pr
  have l3 : kvs.length = L.length := by
    have e := congrArg List.length hks
    rw [List.length_map, List.length_map] at e
    exact e
  have P1 := keys_pairs pr hks
  refine Calls.call_function_entry PyProof.Rows.kind_sorted PyProof.Rows.plain_sorted PyProof.Rows.entry_sorted (PyProof.Rows.args_sorted1 _) ?_
  unfold Builtin.«sorted»
  refine wpAny_bind (m := checkCount "sorted" 1 1 _) (wpAny_pure ?_)
  refine wpAny_bind (PySem.W.kdu_collect (A := X.A.in1) (kdl_raw hs hx hdt) (I.ok.hd hcalm) ho (by omega) fun h' tk acc hk it => ?_)
  have ea : acc.toList = (ks.map fun x => x.2.1).map Value.ref := by
    have hl : acc.toList.length = ks.length := by rw [Array.length_toList, it.1]; exact l1
    rw [List.map_map]
    apply List.ext_getElem?
    intro j
    rw [List.getElem?_map]
    cases hj : acc.toList[j]? with
    | none =>
      have h1 := List.getElem?_eq_none_iff.mp hj
      rw [List.getElem?_eq_none (by omega)]
      all_goals rfl
    | some v =>
      obtain ⟨en, hen, hv⟩ := it.2 j v (by rw [← Array.getElem?_toList]; exact hj)
      have qe := entry_at he j
      rw [hen] at qe
      cases hb : ks[j]? with
      | none =>
        rw [hb] at qe
        exact nomatch (show some en = none from qe)
      | some b =>
        rw [hb] at qe
        have e2 : en = entryOfKey (tupleKind (mixKind X.prog X.w)) b := Option.some.inj qe
        rw [hv, e2]
        all_goals rfl
  have hal : acc.toList.length = L.length := by rw [ea, List.length_map, List.length_map]; omega
  have I1 : Inv X pins σ H { s with heap := h', toks := tk } := I.kept hk
  have tok : TS.TupsOk h' 2 1000 acc.toList := fun v hv => by
    rw [ea] at hv
    obtain ⟨b, hb, rfl⟩ := List.mem_map.mp hv
    obtain ⟨i, hi⟩ := List.getElem?_of_mem hb
    obtain ⟨p, hp, ht⟩ := Rc.paired_get P1 hi
    obtain ⟨_, its, rv, hT⟩ := (show ObjOk X.prog X.w H h' b (.tup [.int (p.1 : Int), .int (p.2 : Int)]) from I1.hok b _ ht)
    obtain ⟨b1, b2⟩ := hB p (List.mem_of_getElem? hp)
    refine ⟨[(p.1 : Int), (p.2 : Int)], ⟨b, its.toArray, rfl, hT, by simpa using (show Vals ([(p.1 : Int), (p.2 : Int)].map V.int) its from rv).ints⟩, rfl, ?_⟩
    intro m hm
    simp at hm
    rcases hm with rfl | rfl <;> omega
  refine wpAny_bind (wpAny_newList ?_ (by rw [hal, sizeLine_eq]; omega))
  have hoL : (h'.push (seqObj "list" acc.toList.toArray 0)).get? h'.objs.size = some (seqObj "list" acc.toList.toArray 0) := Heap.get?_push_size _ rfl
  show wpAny _ _ _ _ _ { s with heap := h'.push (seqObj "list" acc.toList.toArray 0), toks := tk }
  refine wpAny_bind (wpAny_holding (wpAny_call_entry PyProof.Rows.slot_list_sort ⟨_, hoL, rfl⟩ PyProof.Rows.entry_list_sort
    (TS.sort_tups (s := { s with heap := h'.push (seqObj "list" acc.toList.toArray 0), toks := tk }) (d := 2) (B := 1000) hoL (by rw [hal]; exact h64) (by decide) (tok.keeps fun b o e _ => Heap.get?_push_of_some _ e) (fun v => TS.code 1000 (TS.intsOf h' v)) (fun v hv ns t => ?_) fun out g1 g2 => ⟨_, rfl, ?_⟩) (PyProof.Rows.args_list_sort _)))
  · obtain ⟨ns0, t0, _⟩ := tok v hv
    have e : ns = ns0 := t.ints.symm.trans (t0.keeps fun b o e _ => Heap.get?_push_of_some _ e).ints
    rw [e]
    show TS.code 1000 (TS.intsOf h' v) = TS.code 1000 ns0
    rw [t0.ints]
  obtain ⟨e', he'⟩ := PyProof.Rows.sortedHeap_at (vs := acc.toList) (out := out) hoL
  obtain ⟨ts, hts, pts⟩ : ∃ ts : List Addr, out.toList = ts.map Value.ref ∧ ts.Perm (ks.map fun x => x.2.1) := by
    refine ⟨out.toList.map fun v => match v with | .ref b => b | _ => 0, ?_, ?_⟩
    · rw [List.map_map]
      refine (List.map_id _).symm.trans (List.map_congr_left fun v hv => ?_)
      have hv2 := g1.mem_iff.mp hv
      rw [ea] at hv2
      obtain ⟨b, _, rfl⟩ := List.mem_map.mp hv2
      rfl
    · have g := g1.map (fun v => match v with | Value.ref b => b | _ => 0)
      rw [ea, List.map_map] at g
      have e : ((fun v => match v with | Value.ref b => b | _ => 0) ∘ Value.ref) = id := rfl
      rw [e, List.map_id] at g
      exact g
  obtain ⟨L', pL, P2⟩ := paired_perm pts P1
  have hlen : (ts.map V.ref).length ≤ sizeLine := by
    rw [List.length_map, pts.length_eq, List.length_map]
    omega
  refine wpAny_pure ⟨_, rfl, .ref h'.objs.size, upd H h'.objs.size (.lst (ts.map V.ref)), I1.laid (t' := tk) (fun b u e => ?_) (Nat.le_refl _)
    (show ObjOk X.prog X.w _ _ _ (.lst (ts.map V.ref)) from ⟨hlen, out.toList, e', by rw [hts]; exact vals_refs _, by rw [Array.toArray_toList]; exact he'⟩), rfl, q ts L' _ pL P2 (I1.hok.fresh (Nat.le_refl _))⟩
  have hb : b < h'.objs.size := Heap.lt_size e
  rw [PyProof.Rows.sortedHeap_old (Nat.ne_of_lt hb) (by rw [size_push']; exact Nat.lt_succ_of_lt hb)]
  exact Heap.get?_push_of_some _ e
end RcN
set_option Elab.async false
set_option linter.all false
set_option maxRecDepth 100000
set_option maxHeartbeats 4000000
namespace RcN
open PySem PySem.Spec PyProof.Rows L2
/-! ### try: body / except (A, B): suite -/
theorem flying_keeps {base h h' : Heap} {l : List Env} {e : Addr} {Z : Obj → Prop} (R : HandSPX.FlyingZ base l e Z h) (k : ∀ b o, h.get? b = some o → h'.get? b = some o) : HandSPX.FlyingZ base l e Z h' := by
  obtain ⟨f1, f2, f3, oe, vs, T, oT, ts, he, hz, hd, h1, hn, hne, hT, hdT, h3⟩ := R
  exact ⟨fun b o q => k b o (f1 b o q), f2, f3.of_keeps fun b o q _ => ⟨o, k b o q, rfl⟩, oe, vs, T, oT, ts, k _ _ he, hz, hd, h1, hn, hne, k _ _ hT, hdT, h3⟩
def wTup (K : PySem.W.Frag) (c1 c2 : Value) (ts : Addr → Value → Option Addr → TS) (Wout : WX) (D : Ends) : WX := fun cls d σ H =>
  PySem.W.exmAny K cls [c1, c2] = some true ∧ ∀ a, H a = none → ts a cls d D σ H
section
variable {X : Cx} {x1 x2 : Str} {c1 c2 : Value} {body suite : List Stmt} {b₀ : Stmt} {p1 p2 tpos pos pos' : Pos} {kk : Nat} {tb : WX → TS} {ts : Addr → Value → Option Addr → TS} {Wout : WX}
theorem ps_try_tup (hs : X.stack = X.env :: X.outer) (hf : X.env.frame = some X.env.locals) (hc1 : Gl X x1 ∧ X.mg x1 = some c1 ∧ (x1 == ("__debug__" : Str)) = false) (hc2 : Gl X x2 ∧ X.mg x2 = some c2 ∧ (x2 == ("__debug__" : Str)) = false)
    (hb : ∀ (W : WX) (pn : List (Addr × Obj)) (xe : Value → Shared → Prop), Takes (X.tr pn xe) W → PassesOwn (model X.prog X.w) X.A X.env xe → PSs (X.tr pn xe) body (tb W))
    (hsu : ∀ (a : Addr) (oe : Obj) (cls : Value) (d : Option Addr) (pn : List (Addr × Obj)), Zc cls d oe → (∃ vs, oe.data = .fields vs) → PSs (X.suite a ((a, oe) :: pn)) (b₀ :: suite) (ts a cls d)) :
    PS X (.Try body [.ExceptHandler (some (.Tuple [.Name x1 p1, .Name x2 p2] kk tpos)) none (b₀ :: suite) pos'] [] [] pos) (fun D σ H => tb (wTup X.K c1 c2 ts Wout D) D σ H) := by
  refine ⟨fun pins s σ H D I h => ?_⟩
  have ok := I.ok
  have hfr : X.A.frames = some (X.env :: X.outer) := by rw [ok.frames, hs]
  refine wpAny_Try_except ?_
  refine wpAny_mono ((hb (wTup X.K c1 c2 ts Wout D) (X.pn ++ pins) (fun e s₁ => wpAny (model X.prog X.w) X.A (noteFrame e X.env) (fun _ s₂ => wpAny (model X.prog X.w) X.A (setFlight e none) (fun _ s₃ =>
    wpAny (model X.prog X.w) X.A (handleBy e X.env [.ExceptHandler (some (.Tuple [.Name x1 p1, .Name x2 p2] kk tpos)) none (b₀ :: suite) pos']) (SP X pins D) X.xe s₃) X.xe s₂) X.xe s₁) (fun u s' xx => ?_) PassesOwn.looking).run [] s σ H D (I.toTry _) h) (fun f s1 hsp => ?_) (fun e s1 he => he)
  · -- the catch
    obtain ⟨a, B, sI, pins', σ', H', cls, d, rfl, J', nb, up, sky, na, os, ag, hb1, hyes⟩ := xx
    have J : Inv X pins σ' H' sI := J'.ofTry ok
    have sky' : Sky B (X.env :: X.outer) a (Zc cls d) X.env.locals s'.heap := by rw [← hs]; exact sky
    show wpAny (model X.prog X.w) X.A (noteFrame (.ref a) X.env) _ _ _
    refine Sky.land Zc.steady hfr hf sky' fun h3 fl3 up3 => ?_
    have J3 : Inv X pins σ' H' { s' with heap := h3 } := J.landed nb fl3.1 (up.trans up3) os ag
    obtain ⟨oe3, vs3, he3, hz3, hd3⟩ := fl3.there
    have notFr : ∀ {h : Heap} {o : Obj} {vs : Array Value}, h.FunFrames B (X.env :: X.outer) → h.get? a = some o → o.data = .fields vs → a ∉ frs (X.env :: X.outer) := fun {h o vs} ff e dd hm => by
      obtain ⟨_, o', e', hnf⟩ := ff.mem hm
      rw [e] at e'; cases e'
      exact hnf _ dd
    have nfr := notFr fl3.2.2.1 he3 hd3
    have nL : a ≠ X.env.locals := fun z => nfr (List.mem_filterMap.mpr ⟨X.env, List.mem_cons_self, by rw [hf, z]⟩)
    have nF : a ∉ X.fs := fun hm => by
      obtain ⟨e, he, q⟩ := List.mem_filterMap.mp hm
      exact nfr (List.mem_filterMap.mpr ⟨e, List.mem_cons_of_mem _ he, q⟩)
    have S3 := J3.suite he3 hd3 na nL nF
    refine wpAny_handleBy_cons (codeAny_handlers_test ?_) (by intro q; cases q)
    have LT : PySem.W.Looks (model X.prog X.w) h3 (typeOf (.ref a)) cls := fun A Q E s k q => wpAny_typeOf_ref (k _ _ he3) (by rw [hz3.1]; exact q)
    refine wpAny_Tuple ?_
    refine wpAny_items_cons (ld_glob (X := X.suite a ((a, oe3) :: (X.pn ++ pins))) S3 hc1.1 hc1.2.1 ?_ hc1.2.2)
    refine wpAny_items_cons (ld_glob (X := X.suite a ((a, oe3) :: (X.pn ++ pins))) S3 hc2.1 hc2.2.1 ?_ hc2.2.2)
    refine wpAny_items_nil ⟨by size_fits, ?_⟩
    have kp : ∀ q o, h3.get? q = some o → (h3.push { cls := .type "tuple", data := .seq [c1, c2].toArray }).get? q = some o := fun _ _ z => Heap.get?_push_of_some _ z
    refine (PySem.W.exm_tup2 (M := model X.prog X.w) (J3.kIn.keeps kp) (LT.keeps kp) (Heap.get?_push_size h3 rfl) hb1).here ?_
    have fl3' := flying_keeps fl3 kp
    refine codeAny_handlers_suite ?_
    refine HandSPX.lands_againZ (s := { s' with heap := h3.push { cls := .type "tuple", data := .seq [c1, c2].toArray } }) fl3' fun h4 fl4 up4 => ?_
    have J4 : Inv X pins σ' H' { s' with heap := h4 } := J.landed nb fl4.1 ((up.trans up3).trans ((Heap.UpToSlots.of_keeps kp).trans up4)) os ag
    obtain ⟨oe4, vs4, he4, hz4, hd4⟩ := fl4.there
    have S4 := J4.suite he4 hd4 na nL nF
    refine wpAny_mono ((hsu a oe4 cls d (X.pn ++ pins) hz4 ⟨_, hd4⟩).run [] _ _ H' _ S4 (hyes a na)) (fun f s6 hsp => ?_) (fun _ _ z => False.elim z)
    cases f with
    | next =>
      obtain ⟨σ6, H6, S6, q6⟩ := hsp
      exact ⟨_, _, S6.unsuite ok, q6⟩
    | brk =>
      obtain ⟨σ6, H6, S6, q6⟩ := hsp
      exact ⟨_, _, S6.unsuite ok, q6⟩
    | cont =>
      obtain ⟨σ6, H6, S6, q6⟩ := hsp
      exact ⟨_, _, S6.unsuite ok, q6⟩
    | ret u =>
      obtain ⟨v6, σ6, H6, S6, r6, q6⟩ := hsp
      exact ⟨_, _, _, S6.unsuite ok, r6, q6⟩
  · cases f with
    | next =>
      obtain ⟨σ', H', J', q⟩ := hsp
      exact wpAny_execs_nil ⟨σ', H', J'.ofTry ok, q⟩
    | brk =>
      obtain ⟨σ', H', J', q⟩ := hsp
      exact ⟨σ', H', J'.ofTry ok, q⟩
    | cont =>
      obtain ⟨σ', H', J', q⟩ := hsp
      exact ⟨σ', H', J'.ofTry ok, q⟩
    | ret u =>
      obtain ⟨v, σ', H', J', r, q⟩ := hsp
      exact ⟨v, σ', H', J'.ofTry ok, r, q⟩
/-- o.m(e, ..) within a try: what it raises is wished for at the slots as they stand -/
def tMethS (C : Addr) (m : Str) (sp : Sp) (E : L2.St → XK) (ta : TE) (t : TA) : TE := fun σ H Q => ta σ H fun x H1 => ∃ a dx fs, x = .ref a ∧ H1 a = some (.ins C dx fs) ∧ fs.lookup m = none ∧ t σ H1 fun vs H2 => sp (x :: vs) H2 Q (E σ)
theorem pe_methS {X : Cx} {CX : CXT} {k : Nat} {f C : Addr} {fd : FuncData} {ps : List Str} {sp : Sp} {E : L2.St → XK} {m : Str} {pos apos : Pos} {e o : Expr} {es : List Expr} {ta : TE} {t : TA} {pl : Sem Bool} (he : PE X o ta) (c : Cls X.K C) (hm : Meth X.K C m f)
    (F : FnOk X.prog X.w X.K X.mg X.base CX k f fd ps sp) (hr : Room k X.A) (hb : L2.Binds X.K fd ps []) (hx : ∀ σ, PassesAt CX X σ (E σ)) (ha : PA X (e :: es) t)
    (hst : starEach (e :: es) X.env = (false, eval e X.env) :: starEach es X.env := by rfl) (hpl : (backTo pos (starEach es X.env)).any (·.1) = false := by rfl)
    (ht : eval (.Call (.Attribute o m apos) (e :: es) [] pos) X.env = (do
      let ov ← eval o X.env
      standAt apos.atName
      let (f, first) ← holding [ov] (getMethod ov m pl)
      callWith pos f first (backTo pos (starEach (e :: es) X.env)) (backToKw pos (keywordEach [] X.env))) := by rfl) :
    PE X (.Call (.Attribute o m apos) (e :: es) [] pos) (tMethS C m sp E ta t) := by
  refine ⟨fun pins s σ H Q I h => ?_⟩
  refine PySem.W.methodCall_KW (pl := pl) (thn (he.run pins s σ H _ I h) fun u s1 ⟨x, H1, I1, rx, a, dx, fs, ex, ea, l, q⟩ => ?_) ht
  subst ex
  obtain rfl : u = Value.ref a := rx
  refine getmeth_ok I1 ea c hm l ?_
  refine PySem.W.callWith_K (first := [.ref a]) (h₀ := X.base) I.ok.mod.kin hm.kp (thn (ha.run pos pins s1 σ H1 _ I1 q) fun us s2 ⟨vs, H2, I2, r, q2⟩ => ⟨I2.kIn, ?_⟩) hst hpl
  exact run_fnS (us := .ref a :: us) (vs := .ref a :: vs) F hr hb (hx σ) I2 (.cons rfl r) q2
/-- the two clauses' classes -/
theorem any2 {K : PySem.W.Frag} {cls c1 c2 : Value} {b1 b2 : Bool} (h1 : PySem.W.exmOne K cls c1 = some b1) (h2 : PySem.W.exmOne K cls c2 = some b2) (h : (b1 || b2) = true) : PySem.W.exmAny K cls [c1, c2] = some true := by
  simp only [PySem.W.exmAny, h1, h2]
  rw [Bool.or_false, h]
theorem m2_any {X : Cx} {o e f : Expr} {m : Str} {apos cpos : Pos} (base : attributeBase o m X.env (eval o X.env) = eval o X.env := by rfl)
    (few : ((backTo cpos (starEach [e, f] X.env)).all (fun x => !x.1) && (backToKw cpos (keywordEach [] X.env)).all (fun x => x.1.isSome) && decide (([e, f] : List Expr).length + ([] : List Keyword).length + (if ([] : List Keyword).isEmpty then 0 else 1) < 30)) = true := by rfl)
    (line : (apos.endLine == cpos.line) = true := by rfl) (trees : backTo cpos (starEach [e, f] X.env) = [(false, eval e X.env), (false, eval f X.env)] := by rfl) : M2 X o m apos e f cpos := ⟨base, few, line, trees⟩
end
end RcN
set_option Elab.async false
set_option linter.all false
set_option maxRecDepth 100000
set_option maxHeartbeats 4000000
/-! a tuple whose object is known to bear no dict: its methods -/
namespace RcN
open PySem PySem.Spec PyProof.Rows L2
/-- a plain tuple's object -/
def Pl (o : Obj) : Prop := o.dict = none ∧ o.cls = .type "tuple"
theorem call_tuple_frz {X : Cx} : CallR X (.type "tuple") (fun xs H Q => ∃ p ys, xs = [.ref p] ∧ SqL X.K H p ys ∧ ∀ l o, Pl o → H l = none → Q (.ref l) (upd H l (.frz o (.tup ys)))) := by
  intro pins s σ H xs us Q I r h
  obtain ⟨p, ys, rfl, hq, q⟩ := h
  obtain ⟨u, rfl, rx⟩ := vals1 r
  cases rx
  obtain ⟨its, r', pl, hz⟩ := I.list hq
  have hlen := r'.length
  refine call_tuple_list pl.isList (fun h' kp => ?_) (by simp only [List.size_toArray] <;> omega)
  have I1 : Inv X pins σ H { s with heap := h' } := I.kept (t' := s.toks) kp
  have I2 : Inv X pins σ (upd H h'.objs.size (.frz { cls := .type "tuple", data := .seq its.toArray } (.tup ys))) { s with heap := h'.push { cls := .type "tuple", data := .seq its.toArray } } :=
    I1.laid (t' := s.toks) (fun b o e => Heap.get?_push_of_some _ e) (Nat.le_refl _) ⟨Heap.get?_push_size h' rfl, hz, its, r', IsTup.new _ _⟩
  exact ⟨.ref h'.objs.size, _, I2, rfl, q _ _ ⟨rfl, rfl⟩ (I1.hok.fresh (Nat.le_refl _))⟩
def tBMt (r : V → List V → Hp → VK → Prop) (to : TE) (t : TA) : TE := fun σ H Q => to σ H fun x H1 => (∃ p o u, x = .ref p ∧ H1 p = some (.frz o u) ∧ Pl o) ∧ t σ H1 fun xs H2 => r x xs H2 Q
section
variable {X : Cx} {o e : Expr} {es : List Expr} {to : TE} {t : TA} {name : Str} {apos cpos : Pos} {id : String} {r : V → List V → Hp → VK → Prop}
theorem pe_bmt (pa : PlainAttrs "tuple") (slot : Slot "tuple" name id) (hty : typeOf (.builtin id) = pure (.type "method_descriptor")) (hm : MtR X id r) (ho : PE X o to) (ha : PA X (e :: es) t)
    (hbase : attributeBase o name X.env (eval o X.env) = eval o X.env := by rfl)
    (hfew : ((backTo cpos (starEach (e :: es) X.env)).all (fun x => !x.1) && (backToKw cpos (keywordEach [] X.env)).all (fun x => x.1.isSome)
      && decide ((e :: es).length + ([] : List Keyword).length + (if ([] : List Keyword).isEmpty then 0 else 1) < 30)) = true := by rfl)
    (hline : (apos.endLine == cpos.line) = true := by rfl) (hs : starEach (e :: es) X.env = (false, eval e X.env) :: starEach es X.env := by rfl) (hplain : (backTo cpos (starEach es X.env)).any (·.1) = false := by rfl) :
    PE X (.Call (.Attribute o name apos) (e :: es) [] cpos) (tBMt r to t) := by
  refine ⟨fun pins s σ H Q I h => ?_⟩
  refine wpAny_Call_method_late hbase hfew hline rfl (thn (ho.run pins s σ H _ I h) fun v s1 ⟨x, H1, I1, r1, ⟨p, ob, u, ex, hp, pl⟩, q1⟩ => ?_)
  subst ex
  cases r1
  have hg : s1.heap.get? p = some ob := (I1.hok p _ hp).1
  refine ⟨"tuple", id, pa, slot, hty, ⟨ob, hg, pl.2⟩, fun a ea => ?_, ?_⟩
  · cases ea
    exact ⟨ob, hg, pl.1⟩
  have hA := ha.run cpos pins s1 σ H1 _ I1 q1
  rw [hs] at hA ⊢
  refine Calls.callWith_builtin (by show (false || (backTo cpos (starEach es X.env)).any (·.1)) = false; rw [hplain] <;> rfl) (Calls.evalArgs_plain ?_)
  exact thn hA fun us s2 ⟨vs, H2, I2, r2, q2⟩ => hm pins s2 σ H2 (.ref p) vs (.ref p) us Q I2 rfl r2 q2
end
end RcN
set_option Elab.async false
set_option linter.all false
/-! ringchief's webs: waves, in plain Lean -/
namespace Rm
abbrev Let := Bool × Int
structure M where
  wave : Nat → Option Int
  par : Nat → Option Nat
  lack : Nat → Int
  chief : Nat → Option Int
  beg : List Nat
  rd : Nat → Nat → List Let
  told : Nat
def fset {α : Type} (f : Nat → α) (i : Nat) (v : α) : Nat → α := fun j => if j = i then v else f j
theorem fset_same {α : Type} {f : Nat → α} {i : Nat} {v : α} : fset f i v i = v := by simp [fset]
theorem fset_ne {α : Type} {f : Nat → α} {i j : Nat} {v : α} (h : j ≠ i) : fset f i v j = f j := by simp [fset, h]
def tell1 (m : M) (h : Nat) (l : Let) (o : Nat) : M := { m with rd := fun a b => if a = o ∧ b = h then m.rd a b ++ [l] else m.rd a b, told := m.told + 1 }
def tellTo (m : M) (h : Nat) (os : List Nat) (l : Let) : M := os.foldl (fun m o => tell1 m h l o) m
def allBut (nb : Nat → List Nat) (h : Nat) (o : Option Nat) : List Nat := (nb h).filter fun x => decide (some x ≠ o)
def learn (nb : Nat → List Nat) (m : M) (h : Nat) (o : Option Nat) (c : Int) : M := match m.chief h with
  | some _ => m
  | none => tellTo { m with chief := fset m.chief h (some c) } h (allBut nb h o) (true, c)
def endWave (nb : Nat → List Nat) (m : M) (h : Nat) : M := if 0 < m.lack h then m else match m.par h with
  | some p => tellTo m h [p] (false, (m.wave h).getD 0)
  | none => learn nb m h none ((m.wave h).getD 0)
def adopt (nb : Nat → List Nat) (m : M) (h : Nat) (p : Option Nat) (v : Int) : M :=
  tellTo { m with wave := fset m.wave h (some v), par := fset m.par h p, lack := fset m.lack h ((allBut nb h p).length : Int) } h (allBut nb h p) (false, v)
def takeWave (nb : Nat → List Nat) (m : M) (h : Nat) (p : Option Nat) (v : Int) : M := endWave nb (adopt nb m h p v) h
def begin1 (nb : Nat → List Nat) (nm : Nat → Int) (m : M) (h : Nat) : M := takeWave nb { m with beg := m.beg ++ [h] } h none (nm h)
def pop (m : M) (h o : Nat) : M := { m with rd := fun a b => if a = h ∧ b = o then (m.rd a b).tail else m.rd a b }
def answer (m : M) (h o : Nat) : M := { (pop m h o) with lack := fset m.lack h (m.lack h - 1) }
def come (nb : Nat → List Nat) (m : M) (h o : Nat) : M := match m.rd h o with
  | [] => m
  | (ch, v) :: _ =>
    if ch = true then learn nb (pop m h o) h (some o) v
    else match m.wave h with
      | none => takeWave nb (pop m h o) h (some o) v
      | some w => if w < v then takeWave nb (pop m h o) h (some o) v
        else if v = w then endWave nb (answer m h o) h
        else pop m h o
def init : M := ⟨fun _ => none, fun _ => none, fun _ => 0, fun _ => none, [], fun _ _ => [], 0⟩

structure Web (n : Nat) (nb : Nat → List Nat) (nm : Nat → Int) : Prop where
  lt : ∀ a b, a < n → b ∈ nb a → b < n
  sym : ∀ a b, a < n → b ∈ nb a → a ∈ nb b
  irr : ∀ a, a < n → a ∉ nb a
  nd : ∀ a, a < n → (nb a).Nodup
  conn : ∀ (P : Nat → Prop) (a : Nat), a < n → P a → (∀ x y, x < n → P x → y ∈ nb x → P y) → ∀ b, b < n → P b
  inj : ∀ a b, a < n → b < n → nm a = nm b → a = b

theorem tellTo_fields (os : List Nat) : ∀ (m : M) (h : Nat) (l : Let), (tellTo m h os l).wave = m.wave ∧ (tellTo m h os l).par = m.par ∧ (tellTo m h os l).lack = m.lack ∧ (tellTo m h os l).chief = m.chief ∧ (tellTo m h os l).beg = m.beg ∧ (tellTo m h os l).told = m.told + os.length := by
  induction os with
  | nil => intro m h l; simp [tellTo]
  | cons o os ih =>
    intro m h l
    have := ih (tell1 m h l o) h l
    simp only [tellTo, List.foldl_cons] at this ⊢
    obtain ⟨h1, h2, h3, h4, h5, h6⟩ := this
    refine ⟨h1, h2, h3, h4, h5, ?_⟩
    rw [h6]; simp [tell1]; omega
theorem tellTo_rd (os : List Nat) : ∀ (m : M) (h : Nat) (l : Let), os.Nodup → ∀ a b, (tellTo m h os l).rd a b = if b = h ∧ a ∈ os then m.rd a b ++ [l] else m.rd a b := by
  induction os with
  | nil => intro m h l _ a b; simp [tellTo]
  | cons o os ih =>
    intro m h l hn a b
    have hn' := List.nodup_cons.mp hn
    have := ih (tell1 m h l o) h l hn'.2 a b
    simp only [tellTo, List.foldl_cons] at this ⊢
    rw [this]
    simp only [tell1]
    grind
theorem allBut_nd {n : Nat} {nb : Nat → List Nat} {nm : Nat → Int} (W : Web n nb nm) {h : Nat} (hh : h < n) (o : Option Nat) : (allBut nb h o).Nodup := (W.nd h hh).filter _
theorem mem_allBut {nb : Nat → List Nat} {h x : Nat} {o : Option Nat} : x ∈ allBut nb h o ↔ x ∈ nb h ∧ some x ≠ o := by
  simp [allBut, List.mem_filter]

/-- ghosts: who joined which wave by whom, at which depth; which wave letters were sent -/
structure G where
  jn : Nat → Int → Option (Option Nat)
  dp : Nat → Int → Nat
  sn : Nat → Nat → Int → Bool
def miss (m : M) (g : G) (a : Nat) (v : Int) (b : Nat) : Bool := decide (some b ≠ m.par a) && (!g.sn b a v || decide ((false, v) ∈ m.rd a b))
structure Ok (n : Nat) (nb : Nat → List Nat) (nm : Nat → Int) (m : M) (g : G) (x : Option Nat) : Prop where
  road : ∀ a b, m.rd a b ≠ [] → a < n ∧ b ∈ nb a
  sent : ∀ a b v, (false, v) ∈ m.rd a b → g.sn b a v = true
  once : ∀ a b v, (m.rd a b).count (false, v) ≤ 1
  joined : ∀ a b v, g.sn a b v = true → g.jn a v ≠ none
  told : ∀ a v p b, a < n → g.jn a v = some p → b ∈ nb a → some b ≠ p → g.sn a b v = true
  up : ∀ a v p, g.jn a v = some (some p) → a < n ∧ p ∈ nb a ∧ g.sn p a v = true ∧ (false, v) ∉ m.rd a p ∧ g.dp p v < g.dp a v
  own : ∀ a v, g.jn a v = some none → a < n ∧ nm a = v ∧ a ∈ m.beg
  cur : ∀ a v, m.wave a = some v → a < n ∧ g.jn a v = some (m.par a)
  past : ∀ a v, g.jn a v ≠ none → ∃ w, m.wave a = some w ∧ v ≤ w
  cnt : ∀ a v, m.wave a = some v → m.lack a = (((nb a).filter (miss m g a v)).length : Int)
  echo : ∀ a v p, m.wave a = some v → m.par a = some p → (g.sn a p v = true ↔ (m.lack a = 0 ∧ some a ≠ x))
  full : ∀ a v p b, g.jn a v = some (some p) → g.sn a p v = true → b ∈ nb a → g.sn b a v = true
  root : ∀ a v, m.wave a = some v → m.par a = none → m.lack a = 0 → some a ≠ x → m.chief a ≠ none
  won : ∀ a c, m.chief a = some c → ∀ y, y < n → m.wave y = some c
  tells : ∀ a b c, (true, c) ∈ m.rd a b → m.chief b = some c
  spread : ∀ a b c, a < n → m.chief a = some c → b ∈ nb a → m.chief b ≠ none ∨ (true, c) ∈ m.rd b a
  by_ : ∀ a v, g.jn a v ≠ none → ∃ r, r < n ∧ nm r = v ∧ r ∈ m.beg
  ownLe : ∀ a v, a ∈ m.beg → g.jn a v ≠ none → nm a ≤ v
  begun : ∀ a, a ∈ m.beg → a < n ∧ m.wave a ≠ none
  heard : ∀ a b v, g.sn a b v = true → (false, v) ∈ m.rd b a ∨ ∃ w, m.wave b = some w ∧ v ≤ w
  snb : ∀ a b v, g.sn a b v = true → a < n ∧ b ∈ nb a
  few : ∀ a b, (m.rd a b).length ≤ m.told
def g0 : G := ⟨fun _ _ => none, fun _ _ => 0, fun _ _ _ => false⟩
theorem ok_init {n : Nat} {nb : Nat → List Nat} {nm : Nat → Int} : Ok n nb nm init g0 none := by
  constructor <;> simp [init, g0]
end Rm
set_option Elab.async false
set_option linter.all false
set_option maxHeartbeats 1000000
namespace Rm
def gAd (g : G) (h : Nat) (src : Option Nat) (v : Int) (os : List Nat) : G where
  jn := fun a u => if a = h ∧ u = v then some src else g.jn a u
  dp := fun a u => if a = h ∧ u = v then (match src with | some o => g.dp o v + 1 | none => 0) else g.dp a u
  sn := fun a b u => if a = h ∧ u = v ∧ b ∈ os then true else g.sn a b u
theorem count_app_one {l : List Let} {v u : Int} : (l ++ [(false, v)]).count (false, u) = l.count (false, u) + if u = v then 1 else 0 := by
  rw [List.count_append]
  by_cases h : u = v
  · subst h; simp
  · have : ((false, v) : Let) ≠ (false, u) := fun e => h (by injection e with _ e; exact e.symm)
    simp [List.count_cons, h, this]
theorem filter_len_congr {l : List Nat} {p q : Nat → Bool} (h : ∀ x ∈ l, p x = q x) : (l.filter p).length = (l.filter q).length := by
  rw [List.filter_congr h]
theorem tail_mem {l : List Let} {x : Let} (h : x ∈ l.tail) : x ∈ l := List.mem_of_mem_tail h
theorem tail_count {l : List Let} {x : Let} : l.tail.count x ≤ l.count x := by
  cases l with
  | nil => simp
  | cons a r => simp [List.count_cons]
theorem adopt_ok {n : Nat} {nb : Nat → List Nat} {nm : Nat → Int} {m : M} {g : G} (W : Web n nb nm) (O : Ok n nb nm m g none) {h : Nat} (hh : h < n) {v : Int} (hv : ∀ w, m.wave h = some w → w < v) {src : Option Nat}
    (hs : (src = none ∧ nm h = v ∧ m.wave h = none) ∨ ∃ o rest, src = some o ∧ m.rd h o = (false, v) :: rest) {m' : M}
    (e1 : m'.wave = fset m.wave h (some v)) (e2 : m'.par = fset m.par h src) (e3 : m'.lack = fset m.lack h ((allBut nb h src).length : Int)) (e4 : m'.chief = m.chief)
    (e5 : ∀ a, a ∈ m'.beg ↔ a ∈ m.beg ∨ (a = h ∧ src = none)) (e6 : ∀ a b, m'.rd a b = if b = h ∧ a ∈ allBut nb h src then m.rd a b ++ [(false, v)] else if a = h ∧ some b = src then (m.rd a b).tail else m.rd a b)
    (e7 : m'.told = m.told + (allBut nb h src).length) :
    Ok n nb nm m' (gAd g h src v (allBut nb h src)) (some h) := by
  have F1 : g.jn h v = none := by
    cases e : g.jn h v with
    | none => rfl
    | some p =>
      obtain ⟨w, h1, h2⟩ := O.past h v (by rw [e]; simp)
      have := hv w h1
      omega
  have F2 : ∀ b, g.sn h b v = false := fun b => by
    cases e : g.sn h b v with
    | false => rfl
    | true => exact absurd F1 (O.joined h b v e)
  have F3 : ∀ b, (false, v) ∉ m.rd b h := fun b q => by
    have := O.sent b h v q
    rw [F2] at this; cases this
  have F4 : ∀ b, g.sn b h v = true → (false, v) ∈ m.rd h b := fun b q => by
    rcases O.heard b h v q with z | ⟨w, z1, z2⟩
    · exact z
    · have := hv w z1; omega
  have F5 : ∀ o, src = some o → o ∈ nb h ∧ g.sn o h v = true ∧ (false, v) ∉ (m.rd h o).tail ∧ m.rd h o ≠ [] := fun o q => by
    rcases hs with ⟨z, _⟩ | ⟨o', rest, z, r⟩
    · rw [z] at q; cases q
    · rw [z] at q; cases q
      have r1 := O.road h o (by rw [r]; simp)
      have r2 := O.sent h o v (by rw [r]; simp)
      have r3 := O.once h o v
      refine ⟨r1.2, r2, ?_, by rw [r]; simp⟩
      rw [r] at r3 ⊢
      simp only [List.tail_cons]
      intro q
      have := List.count_pos_iff.mpr q
      simp at r3
      omega
  have F6 : ∀ a, m.chief a = none := fun a => by
    cases e : m.chief a with
    | none => rfl
    | some c =>
      exfalso
      have w1 := O.won a c e
      rcases hs with ⟨_, _, z⟩ | ⟨o, rest, z, r⟩
      · have := w1 h hh; rw [z] at this; cases this
      · obtain ⟨ho, hsn, _⟩ := F5 o z
        obtain ⟨w, z1, z2⟩ := O.past o v (O.joined o h v hsn)
        have w2 := w1 o (W.lt h o hh ho)
        have w3 := hv c (w1 h hh)
        rw [z1] at w2; cases w2
        omega
  have hirr := W.irr h hh
  have memO : ∀ x, x ∈ allBut nb h src ↔ x ∈ nb h ∧ some x ≠ src := fun x => mem_allBut
  have hno : h ∉ allBut nb h src := fun q => hirr ((memO h).mp q).1
  have rdmem : ∀ a b l, l ∈ m'.rd a b → l ∈ m.rd a b ∨ (b = h ∧ a ∈ allBut nb h src ∧ l = (false, v)) := fun a b l q => by
    rw [e6] at q
    split at q
    · rename_i c
      rcases List.mem_append.mp q with z | z
      · exact .inl z
      · exact .inr ⟨c.1, c.2, by simpa using z⟩
    · split at q
      · exact .inl (tail_mem q)
      · exact .inl q
  have rdkeep : ∀ a b u, (false, u) ∈ m.rd a b → (false, u) ∈ m'.rd a b ∨ (a = h ∧ some b = src ∧ u = v) := fun a b u q => by
    rw [e6]
    by_cases c0 : b = h ∧ a ∈ allBut nb h src
    · rw [if_pos c0]; exact .inl (List.mem_append_left _ q)
    · rw [if_neg c0]
      by_cases c : a = h ∧ some b = src
      · rw [if_pos c]
        rcases hs with ⟨z, _⟩ | ⟨o, rest, z, r⟩
        · rw [z] at c; cases c.2
        · have hbo : b = o := by have := c.2; rw [z] at this; injection this
          rw [c.1, hbo, r] at q ⊢
          simp only [List.tail_cons]
          rcases List.mem_cons.mp q with q | q
          · injection q with _ q
            exact .inr ⟨trivial, z.symm, q⟩
          · exact .inl q
      · rw [if_neg c]; exact .inl q
  constructor
  · -- road
    intro a b q
    rw [e6] at q
    split at q
    · rename_i c
      obtain ⟨rfl, c2⟩ := c
      have := ((memO a).mp c2).1
      exact ⟨W.lt b a hh this, W.sym b a hh this⟩
    · split at q
      · exact O.road a b (fun z => q (by rw [z]; rfl))
      · exact O.road a b q
  · -- sent
    intro a b u q
    rcases rdmem a b _ q with z | ⟨rfl, z2, z3⟩
    · have := O.sent a b u z
      simp only [gAd]; split <;> simp_all
    · injection z3 with _ z3
      subst z3
      simp only [gAd]; simp [z2]
  · -- once
    intro a b u
    rw [e6]
    split
    · rename_i c
      rw [count_app_one]
      have := O.once a b u
      by_cases hu : u = v
      · subst hu
        have : (m.rd a b).count (false, u) = 0 := by
          rw [List.count_eq_zero]; rw [c.1]; exact F3 a
        simp [this]
      · simp [hu]; exact this
    · split
      · exact Nat.le_trans tail_count (O.once a b u)
      · exact O.once a b u
  · -- joined
    intro a b u q
    simp only [gAd] at q ⊢
    by_cases c : a = h ∧ u = v
    · simp [c]
    · rw [if_neg c]
      rw [if_neg (fun z => c ⟨z.1, z.2.1⟩)] at q
      exact O.joined a b u q
  · -- told
    intro a u p b ha q hb hp
    simp only [gAd] at q ⊢
    by_cases c : a = h ∧ u = v
    · obtain ⟨rfl, rfl⟩ := c
      simp at q
      subst q
      simp [(memO b).mpr ⟨hb, hp⟩]
    · rw [if_neg c] at q
      rw [if_neg (fun z => c ⟨z.1, z.2.1⟩)]
      exact O.told a u p b ha q hb hp
  · -- up
    intro a u p q
    simp only [gAd] at q ⊢
    by_cases c : a = h ∧ u = v
    · obtain ⟨rfl, rfl⟩ := c
      simp at q
      obtain ⟨f1, f2, f3, f4⟩ := F5 p q
      have pne : p ≠ a := fun z => hirr (z ▸ f1)
      refine ⟨hh, f1, ?_, ?_, ?_⟩
      · rw [if_neg (fun z => pne z.1)]; exact f2
      · rw [e6]
        rw [if_neg (fun z => pne z.1), if_pos ⟨rfl, q.symm⟩]
        exact f3
      · rw [if_neg (fun z => pne z.1)]
        simp [q]
    · rw [if_neg c] at q
      obtain ⟨f0, f1, f2, f3, f4⟩ := O.up a u p q
      refine ⟨f0, f1, ?_, ?_, ?_⟩
      · split
        · rfl
        · exact f2
      · intro z
        rcases rdmem a p _ z with z | ⟨z1, z2, z3⟩
        · exact f3 z
        · injection z3 with _ z3
          subst z1 z3
          rw [F2] at f2; cases f2
      · rw [if_neg c]
        have : ¬ (p = h ∧ u = v) := by
          rintro ⟨rfl, rfl⟩
          rw [F2] at f2; cases f2
        rw [if_neg this]; exact f4
  · -- own
    intro a u q
    simp only [gAd] at q
    by_cases c : a = h ∧ u = v
    · obtain ⟨rfl, rfl⟩ := c
      simp at q
      rcases hs with ⟨_, z2, _⟩ | ⟨o, rest, z, _⟩
      · exact ⟨hh, z2, (e5 a).mpr (.inr ⟨rfl, q⟩)⟩
      · rw [z] at q; cases q
    · rw [if_neg c] at q
      obtain ⟨z1, z2, z3⟩ := O.own a u q
      exact ⟨z1, z2, (e5 a).mpr (.inl z3)⟩
  · -- cur
    intro a u q
    rw [e1] at q
    rw [e2]
    simp only [gAd]
    by_cases ha : a = h
    · subst ha
      rw [fset_same] at q ⊢
      cases q
      simp [hh]
    · rw [fset_ne ha] at q ⊢
      rw [if_neg (fun z => ha z.1)]
      exact O.cur a u q
  · -- past
    intro a u q
    rw [e1]
    simp only [gAd] at q
    by_cases ha : a = h
    · subst ha
      refine ⟨v, fset_same, ?_⟩
      by_cases hu : u = v
      · omega
      · rw [if_neg (fun z => hu z.2)] at q
        obtain ⟨w, z1, z2⟩ := O.past a u q
        have := hv w z1
        omega
    · rw [if_neg (fun z => ha z.1)] at q
      rw [fset_ne ha]
      exact O.past a u q
  · -- cnt
    intro a u q
    rw [e1] at q
    rw [e3]
    by_cases ha : a = h
    · subst ha
      rw [fset_same] at q ⊢
      cases q
      congr 1
      unfold allBut
      refine filter_len_congr fun b hb => ?_
      simp only [miss, e2, fset_same, gAd]
      by_cases hp : some b = src
      · simp [hp]
      · have bne : b ≠ a := fun z => hirr (z ▸ hb)
        have e : (m'.rd a b) = m.rd a b := by rw [e6, if_neg (fun z => bne z.1), if_neg (fun z => hp z.2)]
        rw [e, if_neg (fun z => bne z.1)]
        cases hs : g.sn b a v with
        | false => simp [hp]
        | true => simp [hp, F4 b hs]
    · rw [fset_ne ha] at q ⊢
      rw [O.cnt a u q]
      congr 1
      refine filter_len_congr fun b hb => ?_
      have han : a < n := (O.cur a u q).1
      simp only [miss, e2, fset_ne ha, gAd]
      by_cases hbh : b = h
      · subst hbh
        by_cases hin : a ∈ allBut nb b src
        · have e : m'.rd a b = m.rd a b ++ [(false, v)] := by rw [e6, if_pos ⟨rfl, hin⟩]
          rw [e]
          by_cases hu : u = v
          · subst hu
            simp [hin, F2]
          · have : ((false, u) : Let) ≠ (false, v) := fun z => hu (by injection z)
            simp [hu, this]
        · have e : m'.rd a b = m.rd a b := by rw [e6, if_neg (fun z => hin z.2), if_neg (fun z => ha z.1)]
          rw [e]
          simp [hin]
      · have e : m'.rd a b = m.rd a b := by rw [e6, if_neg (fun z => hbh z.1), if_neg (fun z => ha z.1)]
        rw [e, if_neg (fun z => hbh z.1)]
  · -- echo
    intro a u p q hp
    rw [e1] at q
    rw [e2] at hp
    rw [e3]
    simp only [gAd]
    by_cases ha : a = h
    · subst ha
      rw [fset_same] at q hp
      cases q
      rw [if_neg (fun z => ((memO p).mp z.2.2).2 hp.symm)]
      simp [F2]
    · rw [fset_ne ha] at q hp ⊢
      rw [if_neg (fun z => ha z.1)]
      have := O.echo a u p q hp
      simp [ha] at this ⊢
      exact this
  · -- full
    intro a u p b q hs' hb
    simp only [gAd] at q hs' ⊢
    by_cases c : a = h ∧ u = v
    · obtain ⟨rfl, rfl⟩ := c
      simp at q
      rw [if_neg (fun z => ((memO p).mp z.2.2).2 q.symm)] at hs'
      rw [F2] at hs'; cases hs'
    · rw [if_neg c] at q
      rw [if_neg (fun z => c ⟨z.1, z.2.1⟩)] at hs'
      have := O.full a u p b q hs' hb
      split
      · rfl
      · exact this
  · -- root
    intro a u q hp hl hx
    have ha : a ≠ h := fun z => hx (by rw [z])
    rw [e1, fset_ne ha] at q
    rw [e2, fset_ne ha] at hp
    rw [e3, fset_ne ha] at hl
    rw [e4]
    exact O.root a u q hp hl (by simp)
  · -- won
    intro a c q
    rw [e4, F6] at q; cases q
  · -- tells
    intro a b c q
    rcases rdmem a b _ q with z | ⟨_, _, z⟩
    · have := O.tells a b c z
      rw [F6] at this; cases this
    · injection z with z; cases z
  · -- spread
    intro a b c _ q
    rw [e4, F6] at q; cases q
  · -- by_
    intro a u q
    simp only [gAd] at q
    by_cases c : a = h ∧ u = v
    · obtain ⟨rfl, rfl⟩ := c
      rcases hs with ⟨z, z2, _⟩ | ⟨o, rest, z, _⟩
      · exact ⟨a, hh, z2, (e5 a).mpr (.inr ⟨rfl, z⟩)⟩
      · obtain ⟨r, r1, r2, r3⟩ := O.by_ o u (O.joined o a u (F5 o z).2.1)
        exact ⟨r, r1, r2, (e5 r).mpr (.inl r3)⟩
    · rw [if_neg c] at q
      obtain ⟨r, r1, r2, r3⟩ := O.by_ a u q
      exact ⟨r, r1, r2, (e5 r).mpr (.inl r3)⟩
  · -- ownLe
    intro a u q1 q2
    simp only [gAd] at q2
    by_cases c : a = h ∧ u = v
    · obtain ⟨rfl, rfl⟩ := c
      rcases hs with ⟨z, z2, z3⟩ | ⟨o, rest, z, _⟩
      · omega
      · rcases (e5 a).mp q1 with q1 | ⟨_, q1⟩
        · obtain ⟨_, z1⟩ := O.begun a q1
          cases e : m.wave a with
          | none => exact absurd e z1
          | some w =>
            have j := (O.cur a w e).2
            have := O.ownLe a w q1 (by rw [j]; simp)
            have := hv w e
            omega
        · rw [z] at q1; cases q1
    · rw [if_neg c] at q2
      rcases (e5 a).mp q1 with q1 | ⟨rfl, q1⟩
      · exact O.ownLe a u q1 q2
      · exfalso
        rcases hs with ⟨z, z2, z3⟩ | ⟨o, rest, z, _⟩
        · obtain ⟨w, y1, _⟩ := O.past a u q2
          rw [z3] at y1; cases y1
        · rw [z] at q1; cases q1
  · -- begun
    intro a q
    rw [e1]
    by_cases ha : a = h
    · subst ha
      rw [fset_same]; exact ⟨hh, by simp⟩
    · rw [fset_ne ha]
      rcases (e5 a).mp q with q | ⟨q, _⟩
      · exact O.begun a q
      · exact absurd q ha
  · -- heard
    intro a b u q
    simp only [gAd] at q
    by_cases c : a = h ∧ u = v ∧ b ∈ allBut nb h src
    · obtain ⟨rfl, rfl, c3⟩ := c
      refine .inl ?_
      rw [e6, if_pos ⟨rfl, c3⟩]
      simp
    · rw [if_neg c] at q
      rw [e1]
      rcases O.heard a b u q with z | ⟨w, z1, z2⟩
      · rcases rdkeep b a u z with z | ⟨rfl, _, rfl⟩
        · exact .inl z
        · exact .inr ⟨u, fset_same, Int.le_refl _⟩
      · by_cases hb : b = h
        · subst hb
          have := hv w z1
          exact .inr ⟨v, fset_same, by omega⟩
        · exact .inr ⟨w, by rw [fset_ne hb]; exact z1, z2⟩
  · -- snb
    intro a b u q
    simp only [gAd] at q
    by_cases c : a = h ∧ u = v ∧ b ∈ allBut nb h src
    · obtain ⟨rfl, rfl, c3⟩ := c
      exact ⟨hh, ((memO b).mp c3).1⟩
    · rw [if_neg c] at q
      exact O.snb a b u q
  · -- few
    intro a b
    have := O.few a b
    rw [e6, e7]
    split
    · rename_i c
      have : 0 < (allBut nb h src).length := List.length_pos_of_mem c.2
      simp; omega
    · split
      · simp; omega
      · omega
end Rm
set_option Elab.async false
set_option linter.all false
set_option maxHeartbeats 1000000
namespace Rm
section
variable {n : Nat} {nb : Nat → List Nat} {nm : Nat → Int} {m m' : M} {g : G}
theorem cnt_zero (O : Ok n nb nm m g x) {h : Nat} {v : Int} (hw : m.wave h = some v) (hl : m.lack h ≤ 0) : m.lack h = 0 ∧ ∀ b, b ∈ nb h → some b ≠ m.par h → g.sn b h v = true ∧ (false, v) ∉ m.rd h b := by
  have c := O.cnt h v hw
  have c0 : ((nb h).filter (miss m g h v)).length = 0 := by omega
  refine ⟨by omega, fun b hb hp => ?_⟩
  have e := List.filter_eq_nil_iff.mp (List.length_eq_zero_iff.mp c0) b hb
  simp only [miss, Bool.and_eq_true, decide_eq_true_eq, Bool.or_eq_true, Bool.not_eq_true', not_and, not_or] at e
  have := e hp
  exact ⟨by simpa using this.1, this.2⟩
theorem wait_ok (O : Ok n nb nm m g (some h)) (hl : m.lack h ≠ 0) : Ok n nb nm m g none :=
  { O with
    echo := fun a v p q hp => by
      have := O.echo a v p q hp
      by_cases ha : a = h
      · subst ha; simp [hl] at this ⊢; exact this
      · simp [ha] at this ⊢; exact this
    root := fun a v q hp hl' _ => by
      have ha : a ≠ h := fun z => hl (z ▸ hl')
      exact O.root a v q hp hl' (by simp [ha]) }
def gEc (g : G) (h p : Nat) (v : Int) : G := { g with sn := fun a b u => if a = h ∧ u = v ∧ b = p then true else g.sn a b u }
theorem echo_ok (W : Web n nb nm) (O : Ok n nb nm m g (some h)) {v : Int} (hw : m.wave h = some v) {p : Nat} (hp : m.par h = some p) (hl : m.lack h ≤ 0)
    (e1 : m'.wave = m.wave) (e2 : m'.par = m.par) (e3 : m'.lack = m.lack) (e4 : m'.chief = m.chief) (e5 : m'.beg = m.beg) (e6 : ∀ a b, m'.rd a b = if b = h ∧ a = p then m.rd a b ++ [(false, v)] else m.rd a b)
    (e7 : m'.told = m.told + 1) : Ok n nb nm m' (gEc g h p v) none := by
  obtain ⟨l0, all⟩ := cnt_zero O hw hl
  obtain ⟨hh, hj⟩ := O.cur h v hw
  rw [hp] at hj
  obtain ⟨_, u1, u2, u3, u4⟩ := O.up h v p hj
  have F0 : g.sn h p v = false := by
    have := O.echo h v p hw hp
    simp at this
    exact this
  have F3 : (false, v) ∉ m.rd p h := fun q => by
    have := O.sent p h v q
    rw [F0] at this; cases this
  have rdm : ∀ a b l, l ∈ m'.rd a b → l ∈ m.rd a b ∨ (b = h ∧ a = p ∧ l = (false, v)) := fun a b l q => by
    rw [e6] at q
    split at q
    · rename_i c
      rcases List.mem_append.mp q with z | z
      · exact .inl z
      · exact .inr ⟨c.1, c.2, by simpa using z⟩
    · exact .inl q
  have rdk : ∀ a b l, l ∈ m.rd a b → l ∈ m'.rd a b := fun a b l q => by
    rw [e6]
    split
    · exact List.mem_append_left _ q
    · exact q
  have snk : ∀ a b u, g.sn a b u = true → (gEc g h p v).sn a b u = true := fun a b u q => by
    simp only [gEc]; split
    · rfl
    · exact q
  constructor
  · intro a b q
    rw [e6] at q
    split at q
    · rename_i c
      obtain ⟨rfl, rfl⟩ := c
      exact ⟨W.lt b a hh u1, W.sym b a hh u1⟩
    · exact O.road a b q
  · intro a b u q
    rcases rdm a b _ q with z | ⟨rfl, rfl, z3⟩
    · exact snk _ _ _ (O.sent a b u z)
    · injection z3 with _ z3
      subst z3
      simp [gEc]
  · intro a b u
    rw [e6]
    split
    · rename_i c
      rw [count_app_one]
      have := O.once a b u
      by_cases hu : u = v
      · subst hu
        have : (m.rd a b).count (false, u) = 0 := by
          rw [List.count_eq_zero, c.1, c.2]; exact F3
        simp [this]
      · simp [hu]; exact this
    · exact O.once a b u
  · intro a b u q
    simp only [gEc] at q
    by_cases c : a = h ∧ u = v ∧ b = p
    · obtain ⟨rfl, rfl, _⟩ := c
      simp only [gEc]; rw [hj]; simp
    · rw [if_neg c] at q
      exact O.joined a b u q
  · intro a u q b ha hj' hb hq
    exact snk _ _ _ (O.told a u q b ha hj' hb hq)
  · intro a u q hj'
    obtain ⟨f0, f1, f2, f3, f4⟩ := O.up a u q hj'
    refine ⟨f0, f1, snk _ _ _ f2, fun z => ?_, f4⟩
    rcases rdm a q _ z with z | ⟨z1, z2, z3⟩
    · exact f3 z
    · injection z3 with _ z3
      subst z1 z2 z3
      rw [F0] at f2; cases f2
  · intro a u q
    rw [e5]; exact O.own a u q
  · intro a u q
    rw [e1] at q; rw [e2]; exact O.cur a u q
  · intro a u q
    rw [e1]; exact O.past a u q
  · intro a u q
    rw [e1] at q
    rw [e3, O.cnt a u q]
    congr 1
    refine filter_len_congr fun b hb => ?_
    simp only [miss, e2, gEc]
    by_cases c : b = h ∧ a = p
    · obtain ⟨rfl, rfl⟩ := c
      have e : m'.rd a b = m.rd a b ++ [(false, v)] := by rw [e6, if_pos ⟨rfl, rfl⟩]
      rw [e]
      by_cases hu : u = v
      · subst hu; simp [F0]
      · have : ((false, u) : Let) ≠ (false, v) := fun z => hu (by injection z)
        simp [hu, this]
    · have e : m'.rd a b = m.rd a b := by rw [e6, if_neg c]
      rw [e]
      have c2 : ¬ (b = h ∧ u = v ∧ a = p) := fun z => c ⟨z.1, z.2.2⟩
      rw [if_neg c2]
  · intro a u q hw' hp'
    rw [e1] at hw'
    rw [e2] at hp'
    rw [e3]
    simp only [gEc]
    by_cases ha : a = h
    · subst ha
      rw [hw] at hw'; cases hw'
      rw [hp] at hp'; cases hp'
      simp [l0]
    · rw [if_neg (fun z => ha z.1)]
      have := O.echo a u q hw' hp'
      simp [ha] at this ⊢
      exact this
  · intro a u q b hj' hs hb
    simp only [gEc] at hs
    by_cases c : a = h ∧ u = v ∧ q = p
    · obtain ⟨rfl, rfl, rfl⟩ := c
      by_cases hbq : b = q
      · subst hbq; exact snk _ _ _ u2
      · exact snk _ _ _ (all b hb (by rw [hp]; simp [hbq])).1
    · rw [if_neg c] at hs
      exact snk _ _ _ (O.full a u q b hj' hs hb)
  · intro a u hw' hp' hl' _
    rw [e1] at hw'; rw [e2] at hp'; rw [e3] at hl'; rw [e4]
    have ha : a ≠ h := fun z => by rw [z, hp] at hp'; cases hp'
    exact O.root a u hw' hp' hl' (by simp [ha])
  · intro a c q
    rw [e4] at q; rw [e1]; exact O.won a c q
  · intro a b c q
    rcases rdm a b _ q with z | ⟨_, _, z⟩
    · rw [e4]; exact O.tells a b c z
    · injection z with z; cases z
  · intro a b c ha q hb
    rw [e4] at q ⊢
    rcases O.spread a b c ha q hb with z | z
    · exact .inl z
    · exact .inr (rdk _ _ _ z)
  · intro a u q
    rw [e5]; exact O.by_ a u q
  · intro a u q1 q2
    rw [e5] at q1; exact O.ownLe a u q1 q2
  · intro a q
    rw [e5] at q; rw [e1]; exact O.begun a q
  · intro a b u q
    simp only [gEc] at q
    rw [e1]
    by_cases c : a = h ∧ u = v ∧ b = p
    · obtain ⟨rfl, rfl, rfl⟩ := c
      refine .inl ?_
      rw [e6, if_pos ⟨rfl, rfl⟩]; simp
    · rw [if_neg c] at q
      rcases O.heard a b u q with z | z
      · exact .inl (rdk _ _ _ z)
      · exact .inr z
  · intro a b u q
    simp only [gEc] at q
    by_cases c : a = h ∧ u = v ∧ b = p
    · obtain ⟨rfl, rfl, rfl⟩ := c
      exact ⟨hh, u1⟩
    · rw [if_neg c] at q
      exact O.snb a b u q
  · intro a b
    have := O.few a b
    rw [e6, e7]
    split
    · simp; omega
    · omega
/-- a root that all have answered: all are of its wave -/
theorem complete (W : Web n nb nm) (O : Ok n nb nm m g (some h)) {v : Int} (hw : m.wave h = some v) (hp : m.par h = none) (hl : m.lack h ≤ 0) : ∀ y, y < n → m.wave y = some v := by
  obtain ⟨l0, all⟩ := cnt_zero O hw hl
  obtain ⟨hh, hj⟩ := O.cur h v hw
  rw [hp] at hj
  obtain ⟨_, hnm, _⟩ := O.own h v hj
  have A : ∀ d a, a < n → g.jn a v ≠ none → g.dp a v ≤ d → ∀ b, b ∈ nb a → g.sn b a v = true := by
    intro d
    induction d with
    | zero =>
      intro a ha ja hd b hb
      cases e : g.jn a v with
      | none => exact absurd e ja
      | some q =>
        cases q with
        | none =>
          obtain ⟨_, z, _⟩ := O.own a v e
          have : a = h := W.inj a h ha hh (z.trans hnm.symm)
          subst this
          exact (all b hb (by rw [hp]; simp)).1
        | some p =>
          obtain ⟨_, _, _, _, z⟩ := O.up a v p e
          omega
    | succ d ih =>
      intro a ha ja hd b hb
      cases e : g.jn a v with
      | none => exact absurd e ja
      | some q =>
        cases q with
        | none =>
          obtain ⟨_, z, _⟩ := O.own a v e
          have : a = h := W.inj a h ha hh (z.trans hnm.symm)
          subst this
          exact (all b hb (by rw [hp]; simp)).1
        | some p =>
          obtain ⟨_, z1, z2, _, z3⟩ := O.up a v p e
          have hpn := W.lt a p ha z1
          have := ih p hpn (O.joined p a v z2) (by omega) a (W.sym a p ha z1)
          exact O.full a v p b e this hb
  have J : ∀ y, y < n → g.jn y v ≠ none := by
    refine W.conn (fun y => g.jn y v ≠ none) h hh (by simp [hj]) fun x y hx jx hy => ?_
    exact O.joined y x v (A (g.dp x v) x hx jx (Nat.le_refl _) y hy)
  intro y hy
  obtain ⟨w, w1, w2⟩ := O.past y v (J y hy)
  have jw := (O.cur y w w1).2
  obtain ⟨r, r1, r2, r3⟩ := O.by_ y w (by rw [jw]; simp)
  have := O.ownLe r v r3 (J r r1)
  have : w = v := by omega
  rw [w1, this]
theorem learn_ok (W : Web n nb nm) (O : Ok n nb nm m g x) {h : Nat} (hh : h < n) {c : Int} (all : ∀ y, y < n → m.wave y = some c) (hx : x = none ∨ (x = some h ∧ m.par h = none)) (hc : m.chief h = none) {src : Option Nat}
    (hs : src = none ∨ ∃ o rest, src = some o ∧ m.rd h o = (true, c) :: rest)
    (e1 : m'.wave = m.wave) (e2 : m'.par = m.par) (e3 : m'.lack = m.lack) (e4 : m'.chief = fset m.chief h (some c)) (e5 : m'.beg = m.beg)
    (e6 : ∀ a b, m'.rd a b = if b = h ∧ a ∈ allBut nb h src then m.rd a b ++ [(true, c)] else if a = h ∧ some b = src then (m.rd a b).tail else m.rd a b)
    (e7 : m'.told = m.told + (allBut nb h src).length) : Ok n nb nm m' g none := by
  have memO : ∀ x, x ∈ allBut nb h src ↔ x ∈ nb h ∧ some x ≠ src := fun x => mem_allBut
  have hirr := W.irr h hh
  have rdm : ∀ a b l, l ∈ m'.rd a b → l ∈ m.rd a b ∨ (b = h ∧ a ∈ allBut nb h src ∧ l = (true, c)) := fun a b l q => by
    rw [e6] at q
    split at q
    · rename_i c
      rcases List.mem_append.mp q with z | z
      · exact .inl z
      · exact .inr ⟨c.1, c.2, by simpa using z⟩
    · split at q
      · exact .inl (tail_mem q)
      · exact .inl q
  have rdw : ∀ a b u, (false, u) ∈ m'.rd a b ↔ (false, u) ∈ m.rd a b := fun a b u => by
    constructor
    · intro q
      rcases rdm a b _ q with z | ⟨_, _, z⟩
      · exact z
      · injection z with z; cases z
    · intro q
      rw [e6]
      by_cases c0 : b = h ∧ a ∈ allBut nb h src
      · rw [if_pos c0]; exact List.mem_append_left _ q
      · rw [if_neg c0]
        by_cases c1 : a = h ∧ some b = src
        · rw [if_pos c1]
          rcases hs with z | ⟨o, rest, z, r⟩
          · rw [z] at c1; cases c1.2
          · have hbo : b = o := by have := c1.2; rw [z] at this; injection this
            rw [c1.1, hbo, r] at q ⊢
            rcases List.mem_cons.mp q with q | q
            · injection q with q; cases q
            · exact q
        · rw [if_neg c1]; exact q
  have rdc : ∀ a b u, (true, u) ∈ m.rd a b → (true, u) ∈ m'.rd a b ∨ (a = h ∧ some b = src) := fun a b u q => by
    rw [e6]
    by_cases c0 : b = h ∧ a ∈ allBut nb h src
    · rw [if_pos c0]; exact .inl (List.mem_append_left _ q)
    · rw [if_neg c0]
      by_cases c1 : a = h ∧ some b = src
      · exact .inr c1
      · rw [if_neg c1]; exact .inl q
  have sameChief : ∀ a d, a < n → m.chief a = some d → d = c := fun a d ha q => by
    have := O.won a d q a ha
    rw [all a ha] at this; injection this with this; exact this.symm
  constructor
  · intro a b q
    rw [e6] at q
    split at q
    · rename_i c
      obtain ⟨rfl, c2⟩ := c
      have := ((memO a).mp c2).1
      exact ⟨W.lt b a hh this, W.sym b a hh this⟩
    · split at q
      · exact O.road a b (fun z => q (by rw [z]; rfl))
      · exact O.road a b q
  · intro a b u q
    exact O.sent a b u ((rdw a b u).mp q)
  · intro a b u
    rw [e6]
    split
    · rw [List.count_append]
      have := O.once a b u
      simpa using this
    · split
      · exact Nat.le_trans tail_count (O.once a b u)
      · exact O.once a b u
  · exact O.joined
  · exact O.told
  · intro a u q hj
    obtain ⟨f0, f1, f2, f3, f4⟩ := O.up a u q hj
    exact ⟨f0, f1, f2, fun z => f3 ((rdw _ _ _).mp z), f4⟩
  · intro a u q
    rw [e5]; exact O.own a u q
  · intro a u q
    rw [e1] at q; rw [e2]; exact O.cur a u q
  · intro a u q
    rw [e1]; exact O.past a u q
  · intro a u q
    rw [e1] at q
    rw [e3, O.cnt a u q]
    congr 1
    refine filter_len_congr fun b hb => ?_
    simp only [miss, e2, rdw]
  · intro a u p q hp
    rw [e1] at q; rw [e2] at hp; rw [e3]
    have := O.echo a u p q hp
    rcases hx with hx | ⟨hx, hx2⟩
    · rw [hx] at this; exact this
    · have ha : a ≠ h := fun z => by rw [z, hx2] at hp; cases hp
      rw [hx] at this
      simp [ha] at this ⊢
      exact this
  · exact O.full
  · intro a u q hp hl _
    rw [e1] at q; rw [e2] at hp; rw [e3] at hl; rw [e4]
    by_cases ha : a = h
    · rw [ha, fset_same]; simp
    · rw [fset_ne ha]
      refine O.root a u q hp hl ?_
      rcases hx with hx | ⟨hx, hx2⟩
      · rw [hx]; simp
      · rw [hx]; simp [ha]
  · intro a d q y hy
    rw [e4] at q
    rw [e1]
    by_cases ha : a = h
    · rw [ha, fset_same] at q; cases q; exact all y hy
    · rw [fset_ne ha] at q; exact O.won a d q y hy
  · intro a b d q
    rw [e4]
    rcases rdm a b _ q with z | ⟨rfl, _, z⟩
    · have := O.tells a b d z
      by_cases hb : b = h
      · rw [hb, hc] at this; cases this
      · rw [fset_ne hb]; exact this
    · injection z with _ z
      rw [fset_same, z]
  · intro a b d ha q hb
    rw [e4] at q ⊢
    by_cases hbh : b = h
    · rw [hbh, fset_same]; simp
    · rw [fset_ne hbh]
      by_cases hah : a = h
      · rw [hah, fset_same] at q
        cases q
        by_cases hsb : some b = src
        · refine .inl ?_
          rcases hs with z | ⟨o, rest, z, r⟩
          · rw [z] at hsb; cases hsb
          · rw [z] at hsb; cases hsb
            have := O.tells h b c (by rw [r]; simp)
            rw [this]; simp
        · refine .inr ?_
          rw [e6, if_pos ⟨hah, (memO b).mpr ⟨hah ▸ hb, hsb⟩⟩]
          simp
      · rw [fset_ne hah] at q
        rcases O.spread a b d ha q hb with z | z
        · exact .inl z
        · rcases rdc b a d z with z | ⟨z1, _⟩
          · exact .inr z
          · exact absurd z1 hbh
  · intro a u q
    rw [e5]; exact O.by_ a u q
  · intro a u q1 q2
    rw [e5] at q1; exact O.ownLe a u q1 q2
  · intro a q
    rw [e5] at q; rw [e1]; exact O.begun a q
  · intro a b u q
    rw [e1]
    rcases O.heard a b u q with z | z
    · exact .inl ((rdw _ _ _).mpr z)
    · exact .inr z
  · exact O.snb
  · intro a b
    have := O.few a b
    rw [e6, e7]
    split
    · rename_i c
      have : 0 < (allBut nb h src).length := List.length_pos_of_mem c.2
      simp; omega
    · split
      · simp; omega
      · omega
/-- a letter that changes nothing is taken off: a chief's that is known, a lesser wave's; or (x) an answer -/
theorem pop_ok (W : Web n nb nm) (O : Ok n nb nm m g none) {h o : Nat} {l : Let} {rest : List Let} (hr : m.rd h o = l :: rest) {x : Option Nat}
    (hl : (x = none ∧ l.1 = true ∧ m.chief h ≠ none ∧ m'.lack = m.lack) ∨ (x = none ∧ l.1 = false ∧ (∃ w, m.wave h = some w ∧ l.2 < w) ∧ m'.lack = m.lack) ∨
      (x = some h ∧ l.1 = false ∧ m.wave h = some l.2 ∧ m'.lack = fset m.lack h (m.lack h - 1)))
    (e1 : m'.wave = m.wave) (e2 : m'.par = m.par) (e4 : m'.chief = m.chief) (e5 : m'.beg = m.beg)
    (e6 : ∀ a b, m'.rd a b = if a = h ∧ b = o then (m.rd a b).tail else m.rd a b) (e7 : m'.told = m.told) : Ok n nb nm m' g x := by
  have hrd := O.road h o (by rw [hr]; simp)
  have hh := hrd.1
  have rdm : ∀ a b k, k ∈ m'.rd a b → k ∈ m.rd a b := fun a b k q => by
    rw [e6] at q
    split at q
    · exact tail_mem q
    · exact q
  have rdk : ∀ a b k, k ∈ m.rd a b → k ∈ m'.rd a b ∨ (a = h ∧ b = o ∧ k = l) := fun a b k q => by
    rw [e6]
    by_cases c : a = h ∧ b = o
    · rw [if_pos c]
      rw [c.1, c.2, hr] at q ⊢
      rcases List.mem_cons.mp q with q | q
      · exact .inr ⟨rfl, rfl, q⟩
      · exact .inl q
    · rw [if_neg c]; exact .inl q
  -- whose answer was awaited
  have lk : ∀ a v, m.wave a = some v → m'.lack a = (((nb a).filter (miss m' g a v)).length : Int) := by
    intro a v q
    have c := O.cnt a v q
    by_cases ha : a = h ∧ x = some h
    · obtain ⟨rfl, hx⟩ := ha
      rcases hl with ⟨z, _⟩ | ⟨z, _⟩ | ⟨_, l1, l2, l3⟩
      · rw [z] at hx; cases hx
      · rw [z] at hx; cases hx
      rw [l3, fset_same, c]
      rw [q] at l2
      have hlv : l = (false, v) := by cases l; simp at l1 l2; rw [l1, ← l2]
      have hs := O.sent a o v (by rw [hr, hlv]; simp)
      have hop : some o ≠ m.par a := fun z => by
        have j := (O.cur a v q).2
        rw [← z] at j
        obtain ⟨_, _, _, f3, _⟩ := O.up a v o j
        exact f3 (by rw [hr, hlv]; simp)
      have hrest : (false, v) ∉ rest := fun z => by
        have := O.once a o v
        rw [hr, hlv, List.count_cons_self] at this
        have := List.count_pos_iff.mpr z
        omega
      -- the filter loses o alone
      have key : ∀ (ys : List Nat), ys.Nodup → ((ys.filter (miss m g a v)).length : Int) - (if o ∈ ys then 1 else 0) = ((ys.filter (miss m' g a v)).length : Int) := by
        intro ys
        induction ys with
        | nil => intro _; simp
        | cons y ys ih =>
          intro hn
          obtain ⟨n1, n2⟩ := List.nodup_cons.mp hn
          have ih := ih n2
          by_cases hy : y = o
          · subst hy
            have t1 : miss m g a v y = true := by simp [miss, hop, hr, hlv]
            have e : m'.rd a y = rest := by rw [e6, if_pos ⟨rfl, rfl⟩, hr]; rfl
            have t2 : miss m' g a v y = false := by simp [miss, hs, e, hrest]
            rw [List.filter_cons_of_pos t1, List.filter_cons_of_neg (by rw [t2]; simp)]
            simp [n1] at ih ⊢
            omega
          · have t : miss m' g a v y = miss m g a v y := by
              simp only [miss, e2]
              rw [e6, if_neg (fun z => hy z.2)]
            have ho : (o ∈ y :: ys) ↔ (o ∈ ys) := by
              simp; intro z; exact absurd z.symm hy
            by_cases ty : miss m g a v y = true
            · rw [List.filter_cons_of_pos ty, List.filter_cons_of_pos (t.trans ty)]
              simp only [ho, List.length_cons]
              omega
            · rw [List.filter_cons_of_neg ty, List.filter_cons_of_neg (by rw [t]; exact ty)]
              simp only [ho]
              exact ih
      have := key (nb a) (W.nd a hh)
      rw [if_pos hrd.2] at this
      exact this
    · have e3 : m'.lack a = m.lack a := by
        rcases hl with ⟨_, _, _, z⟩ | ⟨_, _, _, z⟩ | ⟨z1, _, _, z⟩
        · rw [z]
        · rw [z]
        · rw [z, fset_ne (fun y => ha ⟨y, z1⟩)]
      rw [e3, c]
      congr 1
      refine filter_len_congr fun b hb => ?_
      simp only [miss, e2]
      by_cases cc : a = h ∧ b = o
      · have hlv : l ≠ (false, v) := fun z => by
          rcases hl with ⟨_, l1, _⟩ | ⟨_, _, ⟨w, w1, w2⟩, _⟩ | ⟨z1, _⟩
          · rw [z] at l1; cases l1
          · rw [cc.1, w1] at q; cases q
            rw [z] at w2; simp at w2
          · exact ha ⟨cc.1, z1⟩
        have this : ((false, v) : Let) ≠ l := fun z => hlv z.symm
        have e : decide ((false, v) ∈ m'.rd a b) = decide ((false, v) ∈ m.rd a b) := by
          rw [decide_eq_decide, e6, if_pos cc, cc.1, cc.2, hr]
          simp [this]
        rw [e]
      · rw [e6, if_neg cc]
  constructor
  · intro a b q
    refine O.road a b fun z => q ?_
    rw [e6, z]; split <;> rfl
  · intro a b u q
    exact O.sent a b u (rdm a b _ q)
  · intro a b u
    rw [e6]
    split
    · exact Nat.le_trans tail_count (O.once a b u)
    · exact O.once a b u
  · exact O.joined
  · exact O.told
  · intro a u q hj
    obtain ⟨f0, f1, f2, f3, f4⟩ := O.up a u q hj
    exact ⟨f0, f1, f2, fun z => f3 (rdm _ _ _ z), f4⟩
  · intro a u q
    rw [e5]; exact O.own a u q
  · intro a u q
    rw [e1] at q; rw [e2]; exact O.cur a u q
  · intro a u q
    rw [e1]; exact O.past a u q
  · intro a u q
    rw [e1] at q; exact lk a u q
  · intro a u p q hp
    rw [e1] at q; rw [e2] at hp
    have E := O.echo a u p q hp
    rcases hl with ⟨z, _, _, e3⟩ | ⟨z, _, _, e3⟩ | ⟨z, l1, l2, e3⟩
    · rw [e3, z]; exact E
    · rw [e3, z]; exact E
    · rw [z]
      by_cases ha : a = h
      · subst ha
        simp at E ⊢
        cases hs : g.sn a p u with
        | false => rfl
        | true =>
          exfalso
          rw [q] at l2
          have l0 : m.lack a = 0 := E.mp hs
          have c := lk a u q
          rw [e3, fset_same, l0] at c
          omega
      · rw [e3, fset_ne ha]
        simp [ha] at E ⊢
        exact E
  · exact O.full
  · intro a u q hp hl' hx
    rw [e1] at q; rw [e2] at hp; rw [e4]
    rcases hl with ⟨z, _, _, e3⟩ | ⟨z, _, _, e3⟩ | ⟨z, l1, l2, e3⟩
    · rw [e3] at hl'; exact O.root a u q hp hl' (by simp)
    · rw [e3] at hl'; exact O.root a u q hp hl' (by simp)
    · have ha : a ≠ h := fun y => hx (by rw [y, z])
      rw [e3, fset_ne ha] at hl'
      exact O.root a u q hp hl' (by simp)
  · intro a c q
    rw [e4] at q; rw [e1]; exact O.won a c q
  · intro a b c q
    rw [e4]; exact O.tells a b c (rdm _ _ _ q)
  · intro a b c ha q hb
    rw [e4] at q ⊢
    rcases O.spread a b c ha q hb with z | z
    · exact .inl z
    · rcases rdk b a _ z with z | ⟨z1, z2, z3⟩
      · exact .inr z
      · refine .inl ?_
        rcases hl with ⟨_, _, k, _⟩ | ⟨_, k, _⟩ | ⟨_, k, _⟩
        · rw [z1]; exact k
        · rw [← z3] at k; cases k
        · rw [← z3] at k; cases k
  · intro a u q
    rw [e5]; exact O.by_ a u q
  · intro a u q1 q2
    rw [e5] at q1; exact O.ownLe a u q1 q2
  · intro a q
    rw [e5] at q; rw [e1]; exact O.begun a q
  · intro a b u q
    rw [e1]
    rcases O.heard a b u q with z | z
    · rcases rdk b a _ z with z | ⟨z1, z2, z3⟩
      · exact .inl z
      · refine .inr ?_
        rcases hl with ⟨_, k, _⟩ | ⟨_, _, ⟨w, w1, w2⟩, _⟩ | ⟨_, _, k, _⟩
        · rw [← z3] at k; cases k
        · rw [← z3] at w2
          exact ⟨w, by rw [z1]; exact w1, Int.le_of_lt w2⟩
        · rw [← z3] at k
          exact ⟨u, by rw [z1]; exact k, Int.le_refl _⟩
    · exact .inr z
  · exact O.snb
  · intro a b
    have := O.few a b
    rw [e6, e7]
    split
    · simp; omega
    · omega
end
end Rm
set_option Elab.async false
set_option linter.all false
set_option maxHeartbeats 1000000
namespace Rm
section
variable {n : Nat} {nb : Nat → List Nat} {nm : Nat → Int} {m m' : M} {g : G}
theorem endWave_ok (W : Web n nb nm) (O : Ok n nb nm m g (some h)) {v : Int} (hw : m.wave h = some v) : ∃ g', Ok n nb nm (endWave nb m h) g' none := by
  unfold endWave
  have hh := (O.cur h v hw).1
  by_cases hl : 0 < m.lack h
  · rw [if_pos hl]
    exact ⟨g, wait_ok O (by omega)⟩
  · rw [if_neg hl]
    cases hp : m.par h with
    | some p =>
      simp only
      have j := (O.cur h v hw).2
      rw [hp] at j
      have t := tellTo_fields [p] m h (false, (m.wave h).getD 0)
      obtain ⟨t1, t2, t3, t4, t5, t6⟩ := t
      refine ⟨_, echo_ok W O hw hp (by omega) t1 t2 t3 t4 t5 (fun a b => ?_) t6⟩
      rw [tellTo_rd [p] m h _ (by simp) a b, hw]
      simp
    | none =>
      simp only
      have all := complete W O hw hp (by omega)
      rw [hw]
      unfold learn
      cases hc : m.chief h with
      | some c =>
        simp only
        refine ⟨g, { O with echo := fun a u p q hp' => ?_, root := fun a u q hp' hl' _ => ?_ }⟩
        · have := O.echo a u p q hp'
          have ha : a ≠ h := fun z => by rw [z, hp] at hp'; cases hp'
          simp [ha] at this ⊢; exact this
        · by_cases ha : a = h
          · rw [ha, hc]; simp
          · exact O.root a u q hp' hl' (by simp [ha])
      | none =>
        simp only [Option.getD_some]
        have t := tellTo_fields (allBut nb h none) { m with chief := fset m.chief h (some v) } h (true, v)
        obtain ⟨t1, t2, t3, t4, t5, t6⟩ := t
        refine ⟨g, learn_ok W O hh all (.inr ⟨rfl, hp⟩) hc (src := none) (.inl rfl) t1 t2 t3 t4 t5 (fun a b => ?_) t6⟩
        rw [tellTo_rd _ _ _ _ (allBut_nd W hh none) a b]
        by_cases c : b = h ∧ a ∈ allBut nb h none
        · rw [if_pos c, if_pos c]
        · rw [if_neg c, if_neg c, if_neg (by simp)]
theorem adopt_wave (m : M) (h : Nat) (p : Option Nat) (v : Int) : (adopt nb m h p v).wave h = some v := by
  unfold adopt
  rw [(tellTo_fields _ _ _ _).1]
  exact fset_same
theorem begin_ok (W : Web n nb nm) (O : Ok n nb nm m g none) {h : Nat} (hh : h < n) (hw : m.wave h = none) : ∃ g', Ok n nb nm (begin1 nb nm m h) g' none := by
  unfold begin1 takeWave
  have t := tellTo_fields (allBut nb h none) { m with beg := m.beg ++ [h], wave := fset m.wave h (some (nm h)), par := fset m.par h none, lack := fset m.lack h ((allBut nb h none).length : Int) } h (false, nm h)
  obtain ⟨t1, t2, t3, t4, t5, t6⟩ := t
  have A := adopt_ok W O hh (v := nm h) (src := none) (fun w z => by rw [hw] at z; cases z) (.inl ⟨rfl, rfl, hw⟩) (m' := adopt nb { m with beg := m.beg ++ [h] } h none (nm h)) t1 t2 t3 t4
    (fun a => by unfold adopt; rw [t5]; simp) (fun a b => by
      unfold adopt
      rw [tellTo_rd _ _ _ _ (allBut_nd W hh none) a b]
      by_cases c : b = h ∧ a ∈ allBut nb h none
      · rw [if_pos c, if_pos c]
      · rw [if_neg c, if_neg c, if_neg (by simp)]) t6
  exact endWave_ok W A (adopt_wave _ _ _ _)
theorem take_ok (W : Web n nb nm) (O : Ok n nb nm m g none) {h o : Nat} {v : Int} {rest : List Let} (hr : m.rd h o = (false, v) :: rest) (hw : ∀ w, m.wave h = some w → w < v) : ∃ g', Ok n nb nm (takeWave nb (pop m h o) h (some o) v) g' none := by
  have hh := (O.road h o (by rw [hr]; simp)).1
  have hob := (O.road h o (by rw [hr]; simp)).2
  unfold takeWave
  have t := tellTo_fields (allBut nb h (some o)) { (pop m h o) with wave := fset m.wave h (some v), par := fset m.par h (some o), lack := fset m.lack h ((allBut nb h (some o)).length : Int) } h (false, v)
  obtain ⟨t1, t2, t3, t4, t5, t6⟩ := t
  have A := adopt_ok W O hh (v := v) (src := some o) hw (.inr ⟨o, rest, rfl, hr⟩) (m' := adopt nb (pop m h o) h (some o) v) t1 t2 t3 t4
    (fun a => by unfold adopt; show a ∈ (tellTo _ _ _ _).beg ↔ _; rw [show (tellTo { (pop m h o) with wave := fset (pop m h o).wave h (some v), par := fset (pop m h o).par h (some o), lack := fset (pop m h o).lack h ((allBut nb h (some o)).length : Int) } h (allBut nb h (some o)) (false, v)).beg = m.beg from t5]; simp) (fun a b => by
      unfold adopt
      rw [tellTo_rd _ _ _ _ (allBut_nd W hh _) a b]
      have hoh : h ≠ o := fun z => W.irr h hh (by rw [← z] at hob; exact hob)
      simp only [pop]
      by_cases c : b = h ∧ a ∈ allBut nb h (some o)
      · have ha : a ≠ h := fun z => W.irr h hh (by have := (mem_allBut.mp c.2).1; rw [z] at this; exact this)
        rw [if_pos c, if_pos c, if_neg (fun z => ha z.1)]
      · rw [if_neg c, if_neg c]
        by_cases c2 : a = h ∧ b = o
        · rw [if_pos c2, if_pos ⟨c2.1, by rw [c2.2]⟩]
        · rw [if_neg c2, if_neg (fun z => c2 ⟨z.1, by injection z.2⟩)]) t6
  exact endWave_ok W A (adopt_wave _ _ _ _)
theorem come_ok (W : Web n nb nm) (O : Ok n nb nm m g none) (h o : Nat) : ∃ g', Ok n nb nm (come nb m h o) g' none := by
  unfold come
  cases hr : m.rd h o with
  | nil => exact ⟨g, O⟩
  | cons l rest =>
    obtain ⟨ch, v⟩ := l
    simp only
    have hrd := O.road h o (by rw [hr]; simp)
    have hh := hrd.1
    cases ch with
    | true =>
      rw [if_pos rfl]
      have hco := O.tells h o v (by rw [hr]; simp)
      have all := O.won o v hco
      unfold learn
      cases hc : (pop m h o).chief h with
      | some c =>
        exact ⟨g, pop_ok W O hr (.inl ⟨rfl, rfl, by have : m.chief h = some c := hc; rw [this]; simp, rfl⟩) rfl rfl rfl rfl (fun a b => rfl) rfl⟩
      | none =>
        simp only
        have t := tellTo_fields (allBut nb h (some o)) { (pop m h o) with chief := fset (pop m h o).chief h (some v) } h (true, v)
        obtain ⟨t1, t2, t3, t4, t5, t6⟩ := t
        refine ⟨g, learn_ok W O hh all (.inl rfl) hc (src := some o) (.inr ⟨o, rest, rfl, hr⟩) t1 t2 t3 t4 t5 (fun a b => ?_) t6⟩
        rw [tellTo_rd _ _ _ _ (allBut_nd W hh _) a b]
        simp only [pop]
        by_cases c : b = h ∧ a ∈ allBut nb h (some o)
        · have ha : a ≠ h := fun z => W.irr h hh (by have := (mem_allBut.mp c.2).1; rw [z] at this; exact this)
          rw [if_pos c, if_pos c, if_neg (fun z => ha z.1)]
        · rw [if_neg c, if_neg c]
          by_cases c2 : a = h ∧ b = o
          · rw [if_pos c2, if_pos ⟨c2.1, by rw [c2.2]⟩]
          · rw [if_neg c2, if_neg (fun z => c2 ⟨z.1, by injection z.2⟩)]
    | false =>
      rw [if_neg (by simp)]
      cases hw : m.wave h with
      | none => exact take_ok W O hr (fun w z => by rw [hw] at z; cases z)
      | some w =>
        simp only
        by_cases c : w < v
        · rw [if_pos c]
          exact take_ok W O hr (fun w' z => by rw [hw] at z; cases z; exact c)
        · rw [if_neg c]
          by_cases c2 : v = w
          · rw [if_pos c2]
            subst c2
            have A := pop_ok (m' := answer m h o) (x := some h) W O hr (.inr (.inr ⟨rfl, rfl, hw, rfl⟩)) rfl rfl rfl rfl (fun a b => rfl) rfl
            exact endWave_ok W A hw
          · rw [if_neg c2]
            exact ⟨g, pop_ok W O hr (.inr (.inl ⟨rfl, rfl, ⟨w, hw, by simp; omega⟩, rfl⟩)) rfl rfl rfl rfl (fun a b => rfl) rfl⟩
/-! ### the end -/
theorem max_of (P : Nat → Prop) (f : Nat → Nat) : ∀ n, (∃ h, h < n ∧ P h) → ∃ h, h < n ∧ P h ∧ ∀ k, k < n → P k → f k ≤ f h := by
  intro n
  induction n with
  | zero => rintro ⟨h, z, _⟩; omega
  | succ n ih =>
    rintro ⟨h, h1, h2⟩
    by_cases c : ∃ h, h < n ∧ P h
    · obtain ⟨a, a1, a2, a3⟩ := ih c
      by_cases d : P n ∧ f a < f n
      · refine ⟨n, by omega, d.1, fun k k1 k2 => ?_⟩
        by_cases e : k = n
        · subst e; exact Nat.le_refl _
        · have := a3 k (by omega) k2; omega
      · refine ⟨a, by omega, a2, fun k k1 k2 => ?_⟩
        by_cases e : k = n
        · subst e
          by_cases hf : f a < f k
          · exact absurd ⟨k2, hf⟩ d
          · omega
        · exact a3 k (by omega) k2
    · have : h = n := by
        by_cases e : h = n
        · exact e
        · exact absurd ⟨h, by omega, h2⟩ c
      subst this
      refine ⟨h, h1, h2, fun k k1 k2 => ?_⟩
      by_cases e : k = h
      · subst e; exact Nat.le_refl _
      · exact absurd ⟨k, by omega, k2⟩ c
theorem still_tree (W : Web n nb nm) (O : Ok n nb nm m g none) (hb : m.beg ≠ []) (st : ∀ a b, m.rd a b = []) :
    ∃ r, r < n ∧ (∀ y, y < n → m.chief y = some (nm r)) ∧ m.par r = none ∧ ∃ d : Nat → Nat, ∀ y, y < n → y ≠ r → ∃ p, m.par y = some p ∧ p < n ∧ p ∈ nb y ∧ d p < d y := by
  obtain ⟨a0, ha0⟩ := List.exists_mem_of_ne_nil _ hb
  obtain ⟨h0, w0⟩ := O.begun a0 ha0
  cases ev : m.wave a0 with
  | none => exact absurd ev w0
  | some v =>
    have ge : ∀ {u : Int} (x y : Nat), x < n → m.wave x = some u → y ∈ nb x → ∃ w, m.wave y = some w ∧ u ≤ w := by
      intro u x y hx wx hy
      have j := (O.cur x u wx).2
      by_cases hp : some y = m.par x
      · rw [← hp] at j
        obtain ⟨_, _, f, _, _⟩ := O.up x u y j
        exact O.past y u (O.joined y x u f)
      · rcases O.heard x y u (O.told x u _ y hx j hy hp) with z | z
        · rw [st] at z; cases z
        · exact z
    have all : ∀ y, y < n → m.wave y = some v := by
      refine W.conn (fun y => m.wave y = some v) a0 h0 ev fun x y hx wx hy => ?_
      have hyn := W.lt x y hx hy
      obtain ⟨w, w1, w2⟩ := ge (u := v) x y hx wx hy
      obtain ⟨w', w3, w4⟩ := ge (u := w) y x hyn w1 (W.sym x y hx hy)
      rw [wx] at w3; cases w3
      have : w = v := by omega
      rw [w1, this]
    have j : ∀ y, y < n → g.jn y v = some (m.par y) := fun y hy => (O.cur y v (all y hy)).2
    have lk : ∀ y, y < n → m.lack y = 0 := by
      intro y hy
      by_cases c : m.lack y = 0
      · exact c
      · exfalso
        obtain ⟨h, h1, h2, h3⟩ := max_of (fun y => m.lack y ≠ 0) (fun y => g.dp y v) n ⟨y, hy, c⟩
        have cn := O.cnt h v (all h h1)
        have : ((nb h).filter (miss m g h v)) ≠ [] := fun z => by rw [z] at cn; simp at cn; exact h2 cn
        obtain ⟨b, hb⟩ := List.exists_mem_of_ne_nil _ this
        obtain ⟨b1, b2⟩ := List.mem_filter.mp hb
        simp only [miss, st, Bool.and_eq_true, decide_eq_true_eq, Bool.or_eq_true, Bool.not_eq_true', List.not_mem_nil, decide_false, Bool.false_eq_true, or_false] at b2
        obtain ⟨b3, b4⟩ := b2
        have hbn := W.lt h b h1 b1
        have pb : m.par b = some h := by
          by_cases e : some h = m.par b
          · exact e.symm
          · have := O.told b v _ h hbn (j b hbn) (W.sym h b h1 b1) e
            rw [b4] at this; cases this
        have jb := j b hbn
        rw [pb] at jb
        obtain ⟨_, _, _, _, dd⟩ := O.up b v h jb
        have eb := O.echo b v h (all b hbn) pb
        rw [b4] at eb
        have h4 : m.lack b ≠ 0 := fun z => by simp [z] at eb
        have := h3 b hbn h4
        omega
    have rt : ∃ r, r < n ∧ m.par r = none := by
      have : ∀ d y, y < n → g.dp y v ≤ d → ∃ r, r < n ∧ m.par r = none := by
        intro d
        induction d with
        | zero =>
          intro y hy hd
          cases e : m.par y with
          | none => exact ⟨y, hy, e⟩
          | some p =>
            have := j y hy
            rw [e] at this
            obtain ⟨_, _, _, _, z⟩ := O.up y v p this
            omega
        | succ d ih =>
          intro y hy hd
          cases e : m.par y with
          | none => exact ⟨y, hy, e⟩
          | some p =>
            have := j y hy
            rw [e] at this
            obtain ⟨_, z1, _, _, z⟩ := O.up y v p this
            exact ih p (W.lt y p hy z1) (by omega)
      exact this _ a0 h0 (Nat.le_refl _)
    obtain ⟨r, hr, pr⟩ := rt
    have jr := j r hr
    rw [pr] at jr
    obtain ⟨_, nr, _⟩ := O.own r v jr
    have cr := O.root r v (all r hr) pr (lk r hr) (by simp)
    have ch : ∀ y, y < n → m.chief y ≠ none := by
      refine W.conn (fun y => m.chief y ≠ none) r hr cr fun x y hx cx hy => ?_
      cases e : m.chief x with
      | none => exact absurd e cx
      | some c =>
        rcases O.spread x y c hx e hy with z | z
        · exact z
        · rw [st] at z; cases z
    refine ⟨r, hr, fun y hy => ?_, pr, fun y => g.dp y v, fun y hy hyr => ?_⟩
    · cases e : m.chief y with
      | none => exact absurd e (ch y hy)
      | some c =>
        have := O.won y c e y hy
        rw [all y hy] at this
        rw [nr, this]
    · cases e : m.par y with
      | none =>
        have jy := j y hy
        rw [e] at jy
        obtain ⟨_, ny, _⟩ := O.own y v jy
        exact absurd (W.inj y r hy hr (ny.trans nr.symm)) hyr
      | some p =>
        have jy := j y hy
        rw [e] at jy
        obtain ⟨_, z1, _, _, z⟩ := O.up y v p jy
        exact ⟨p, rfl, W.lt y p hy z1, z1, z⟩
end
end Rm
set_option Elab.async false
set_option linter.all false
set_option maxHeartbeats 1000000
namespace Rm
def sumN (n : Nat) (f : Nat → Nat) : Nat := match n with
  | 0 => 0
  | n + 1 => sumN n f + f n
theorem sumN_congr {f f' : Nat → Nat} : ∀ n, (∀ a, a < n → f' a = f a) → sumN n f' = sumN n f
  | 0, _ => rfl
  | n + 1, h => by
    unfold sumN
    rw [sumN_congr n fun a ha => h a (by omega), h n (by omega)]
theorem sumN_at {f f' : Nat → Nat} {h : Nat} : ∀ n, h < n → (∀ a, a < n → a ≠ h → f' a = f a) → sumN n f' + f h = sumN n f + f' h
  | 0, hh, _ => by omega
  | n + 1, hh, e => by
    unfold sumN
    by_cases c : h = n
    · subst c
      have := sumN_congr (f := f) (f' := f') h fun a ha => e a (by omega) (by omega)
      omega
    · have := sumN_at (f := f) (f' := f') n (by omega) fun a ha hn => e a (by omega) hn
      have := e n (by omega) (fun z => c z.symm)
      omega
theorem sumN_le {f : Nat → Nat} {k : Nat} : ∀ n, (∀ a, a < n → f a ≤ k) → sumN n f ≤ n * k
  | 0, _ => by simp [sumN]
  | n + 1, h => by
    have h1 := sumN_le n fun a ha => h a (by omega)
    have h2 := h n (by omega)
    unfold sumN
    rw [Nat.succ_mul]
    omega
theorem sumN_zero {f : Nat → Nat} : ∀ n, sumN n f = 0 → ∀ a, a < n → f a = 0
  | 0, _, a, ha => by omega
  | n + 1, h, a, ha => by
    unfold sumN at h
    by_cases c : a = n
    · subst c; omega
    · exact sumN_zero n (by omega) a (by omega)
def rank (n : Nat) (nm : Nat → Int) (o : Option Int) : Nat := ((List.range n).filter fun r => match o with | none => true | some w => decide (w < nm r)).length
theorem rank_le (n : Nat) (nm : Nat → Int) (o : Option Int) : rank n nm o ≤ n := by
  unfold rank
  have := List.length_filter_le (fun r => match o with | none => true | some w => decide (w < nm r)) (List.range n)
  simpa using this
theorem filter_le {p q : Nat → Bool} : ∀ {l : List Nat}, (∀ x ∈ l, p x = true → q x = true) → (l.filter p).length ≤ (l.filter q).length
  | [], _ => by simp
  | b :: l, h => by
    have ih := filter_le (l := l) fun x hx => h x (List.mem_cons_of_mem _ hx)
    have hb := h b List.mem_cons_self
    by_cases e : p b = true
    · rw [List.filter_cons_of_pos e, List.filter_cons_of_pos (hb e)]
      simp only [List.length_cons]; omega
    · rw [List.filter_cons_of_neg e]
      by_cases e2 : q b = true
      · rw [List.filter_cons_of_pos e2]
        simp only [List.length_cons]; omega
      · rw [List.filter_cons_of_neg e2]; exact ih
theorem filter_lt {p q : Nat → Bool} {y : Nat} (h1 : p y = false) (h2 : q y = true) : ∀ {l : List Nat}, (∀ x ∈ l, p x = true → q x = true) → y ∈ l → (l.filter p).length < (l.filter q).length
  | [], _, hy => by cases hy
  | b :: l, h, hy => by
    have hl : ∀ x ∈ l, p x = true → q x = true := fun x hx => h x (List.mem_cons_of_mem _ hx)
    have le := filter_le hl
    have hb := h b List.mem_cons_self
    rcases List.mem_cons.mp hy with rfl | hy
    · rw [List.filter_cons_of_neg (by rw [h1]; simp), List.filter_cons_of_pos h2]
      simp only [List.length_cons]; omega
    · have ih := filter_lt h1 h2 hl hy
      by_cases e : p b = true
      · rw [List.filter_cons_of_pos e, List.filter_cons_of_pos (hb e)]
        simp only [List.length_cons]; omega
      · rw [List.filter_cons_of_neg e]
        by_cases e2 : q b = true
        · rw [List.filter_cons_of_pos e2]
          simp only [List.length_cons]; omega
        · rw [List.filter_cons_of_neg e2]; exact ih
theorem rank_lt {n : Nat} {nm : Nat → Int} {o : Option Int} {v : Int} {r : Nat} (hr : r < n) (e : nm r = v) (h : ∀ w, o = some w → w < v) : rank n nm (some v) < rank n nm o := by
  unfold rank
  refine filter_lt (y := r) ?_ ?_ (fun x _ q => ?_) (List.mem_range.mpr hr)
  · simp; omega
  · cases o with
    | none => rfl
    | some w =>
      have := h w rfl
      simp; omega
  · simp at q
    cases o with
    | none => rfl
    | some w =>
      have := h w rfl
      simp; omega
/-- a house's weight -/
def wt (n : Nat) (nb : Nat → List Nat) (nm : Nat → Int) (m : M) (a : Nat) : Nat :=
  rank n nm (m.wave a) * ((nb a).length + 2) + (if 0 < m.lack a then 1 else 0) + (if m.chief a = none then (nb a).length + 1 else 0)
def pot (n : Nat) (nb : Nat → List Nat) (nm : Nat → Int) (m : M) : Nat := sumN n (wt n nb nm m)
def pend (n : Nat) (m : M) : Nat := sumN n fun a => sumN n fun b => (m.rd a b).length
section
variable {n : Nat} {nb : Nat → List Nat} {nm : Nat → Int} {m m' : M} {g : G}
theorem pot_same (e1 : m'.wave = m.wave) (e2 : m'.lack = m.lack) (e3 : m'.chief = m.chief) : pot n nb nm m' = pot n nb nm m := by
  unfold pot
  refine sumN_congr n fun a _ => ?_
  unfold wt
  rw [e1, e2, e3]
theorem pot_at {h : Nat} (hh : h < n) (e1 : ∀ a, a ≠ h → m'.wave a = m.wave a) (e2 : ∀ a, a ≠ h → m'.lack a = m.lack a) (e3 : ∀ a, a ≠ h → m'.chief a = m.chief a) :
    pot n nb nm m' + wt n nb nm m h = pot n nb nm m + wt n nb nm m' h := by
  unfold pot
  refine sumN_at n hh fun a _ ha => ?_
  unfold wt
  rw [e1 a ha, e2 a ha, e3 a ha]
theorem pend_tell1 {h o : Nat} {l : Let} (hh : h < n) (ho : o < n) : pend n (tell1 m h l o) = pend n m + 1 := by
  unfold pend
  have A := sumN_at (f := fun a => sumN n fun b => (m.rd a b).length) (f' := fun a => sumN n fun b => ((tell1 m h l o).rd a b).length) (h := o) n ho (fun a _ ha => by
    refine sumN_congr n fun b _ => ?_
    simp [tell1, ha])
  have B := sumN_at (f := fun b => (m.rd o b).length) (f' := fun b => ((tell1 m h l o).rd o b).length) (h := h) n hh (fun b _ hb => by simp [tell1, hb])
  have C : ((tell1 m h l o).rd o h).length = (m.rd o h).length + 1 := by simp [tell1]
  omega
theorem pend_tellTo (os : List Nat) : ∀ (m : M) {h : Nat} {l : Let}, h < n → (∀ o ∈ os, o < n) → pend n (tellTo m h os l) = pend n m + os.length := by
  induction os with
  | nil => intro m h l _ _; simp [tellTo]
  | cons o os ih =>
    intro m h l hh ho
    have := ih (tell1 m h l o) (l := l) hh fun x hx => ho x (List.mem_cons_of_mem _ hx)
    have p := pend_tell1 (m := m) (l := l) hh (ho o List.mem_cons_self)
    simp only [tellTo, List.foldl_cons, List.length_cons] at this ⊢
    omega
theorem pend_pop {h o : Nat} {l : Let} {rest : List Let} (hh : h < n) (ho : o < n) (hr : m.rd h o = l :: rest) : pend n (pop m h o) + 1 = pend n m := by
  unfold pend
  have A := sumN_at (f := fun a => sumN n fun b => (m.rd a b).length) (f' := fun a => sumN n fun b => ((pop m h o).rd a b).length) (h := h) n hh (fun a _ ha => by
    refine sumN_congr n fun b _ => ?_
    simp [pop, ha])
  have B := sumN_at (f := fun b => (m.rd h b).length) (f' := fun b => ((pop m h o).rd h b).length) (h := o) n ho (fun b _ hb => by simp [pop, hb])
  have C : ((pop m h o).rd h o).length + 1 = (m.rd h o).length := by simp [pop, hr]
  omega
theorem pend_same (e : m'.rd = m.rd) : pend n m' = pend n m := by unfold pend; rw [e]
theorem pend_zero (st : ∀ a b, m.rd a b = []) : pend n m = 0 := by
  unfold pend
  have : ∀ k, sumN k (fun a => sumN n fun b => (m.rd a b).length) = 0 := by
    intro k
    induction k with
    | zero => rfl
    | succ k ih =>
      unfold sumN
      rw [ih]
      have : ∀ j, sumN j (fun b => (m.rd k b).length) = 0 := by
        intro j
        induction j with
        | zero => rfl
        | succ j ih2 => unfold sumN; rw [ih2, st]; rfl
      rw [this]
  exact this n
theorem allBut_lt (W : Web n nb nm) {h : Nat} (hh : h < n) (o : Option Nat) : ∀ x ∈ allBut nb h o, x < n := fun x hx => W.lt h x hh (mem_allBut.mp hx).1
theorem allBut_len (h : Nat) (o : Option Nat) : (allBut nb h o).length ≤ (nb h).length := List.length_filter_le _ _
/-- what a deed costs: told' - told letters, taken from the weights; those that wait -/
structure Cost (n : Nat) (nb : Nat → List Nat) (nm : Nat → Int) (m m' : M) (k : Nat) : Prop where
  more : m.told ≤ m'.told
  pay : pot n nb nm m' + (m'.told - m.told) + k ≤ pot n nb nm m
  wait : pend n m' = pend n m + (m'.told - m.told)
theorem learn_cost (W : Web n nb nm) {h : Nat} (hh : h < n) (o : Option Nat) (c : Int) : Cost n nb nm m (learn nb m h o c) 0 := by
  unfold learn
  cases hc : m.chief h with
  | some d => exact ⟨Nat.le_refl _, by simp, by simp⟩
  | none =>
    simp only
    obtain ⟨t1, t2, t3, t4, t5, t6⟩ := tellTo_fields (allBut nb h o) { m with chief := fset m.chief h (some c) } h (true, c)
    have P := pot_at (nb := nb) (nm := nm) (m := m) (m' := tellTo { m with chief := fset m.chief h (some c) } h (allBut nb h o) (true, c)) hh (fun a _ => by rw [t1]) (fun a _ => by rw [t3]) (fun a ha => by rw [t4]; exact fset_ne ha)
    have D := pend_tellTo (n := n) (allBut nb h o) { m with chief := fset m.chief h (some c) } (l := (true, c)) hh (allBut_lt W hh o)
    have L := allBut_len (nb := nb) h o
    have e1 : wt n nb nm m h = rank n nm (m.wave h) * ((nb h).length + 2) + (if 0 < m.lack h then 1 else 0) + ((nb h).length + 1) := by unfold wt; rw [if_pos hc]
    have e2 : wt n nb nm (tellTo { m with chief := fset m.chief h (some c) } h (allBut nb h o) (true, c)) h = rank n nm (m.wave h) * ((nb h).length + 2) + (if 0 < m.lack h then 1 else 0) := by
      unfold wt; rw [t1, t3, t4]; simp [fset_same]
    have D2 : pend n { m with chief := fset m.chief h (some c) } = pend n m := pend_same rfl
    refine ⟨by rw [t6]; simp, ?_, ?_⟩
    · rw [t6]; simp only; omega
    · rw [D, D2, t6]; simp
theorem endWave_cost (W : Web n nb nm) {h : Nat} (hh : h < n) (hp : ∀ p, m.par h = some p → p < n) : m.told ≤ (endWave nb m h).told ∧
    pot n nb nm (endWave nb m h) + ((endWave nb m h).told - m.told) ≤ pot n nb nm m + (if 0 < m.lack h then 0 else 1) ∧ pend n (endWave nb m h) = pend n m + ((endWave nb m h).told - m.told) := by
  unfold endWave
  by_cases c : 0 < m.lack h
  · rw [if_pos c, if_pos c]; simp
  · rw [if_neg c, if_neg c]
    cases e : m.par h with
    | some p =>
      simp only
      obtain ⟨t1, t2, t3, t4, t5, t6⟩ := tellTo_fields [p] m h (false, (m.wave h).getD 0)
      have D := pend_tellTo (n := n) [p] m (h := h) (l := (false, (m.wave h).getD 0)) hh (fun x hx => by simp at hx; subst hx; exact hp _ e)
      have P := pot_same (n := n) (nb := nb) (nm := nm) t1 t3 t4
      rw [P, D, t6]
      simp
    | none =>
      simp only
      have C := learn_cost (nm := nm) W (m := m) hh none ((m.wave h).getD 0)
      exact ⟨C.more, by have := C.pay; omega, C.wait⟩
theorem take_cost (W : Web n nb nm) {h : Nat} (hh : h < n) {p : Option Nat} (hp : ∀ q, p = some q → q < n) {v : Int} {r : Nat} (hr : r < n) (er : nm r = v) (hw : ∀ w, m.wave h = some w → w < v) : Cost n nb nm m (takeWave nb m h p v) 1 := by
  have R := rank_lt (nm := nm) hr er hw
  obtain ⟨t1, t2, t3, t4, t5, t6⟩ := tellTo_fields (allBut nb h p) { m with wave := fset m.wave h (some v), par := fset m.par h p, lack := fset m.lack h ((allBut nb h p).length : Int) } h (false, v)
  have A1 : (adopt nb m h p v).par h = p := by unfold adopt; rw [t2]; exact fset_same
  have A2 : (adopt nb m h p v).lack h = ((allBut nb h p).length : Int) := by unfold adopt; rw [t3]; exact fset_same
  have E := endWave_cost (nm := nm) W (m := adopt nb m h p v) hh (fun q hq => hp q (by rw [← hq, A1]))
  have P := pot_at (nb := nb) (nm := nm) (m := m) (m' := adopt nb m h p v) hh (fun a ha => by unfold adopt; rw [t1]; exact fset_ne ha) (fun a ha => by unfold adopt; rw [t3]; exact fset_ne ha) (fun a ha => by unfold adopt; rw [t4])
  have D := pend_tellTo (n := n) (allBut nb h p) { m with wave := fset m.wave h (some v), par := fset m.par h p, lack := fset m.lack h ((allBut nb h p).length : Int) } (l := (false, v)) hh (allBut_lt W hh p)
  have D2 : pend n { m with wave := fset m.wave h (some v), par := fset m.par h p, lack := fset m.lack h ((allBut nb h p).length : Int) } = pend n m := pend_same rfl
  have L := allBut_len (nb := nb) h p
  have T : (adopt nb m h p v).told = m.told + (allBut nb h p).length := t6
  have e2 : wt n nb nm (adopt nb m h p v) h = rank n nm (some v) * ((nb h).length + 2) + (if 0 < ((allBut nb h p).length : Int) then 1 else 0) + (if m.chief h = none then (nb h).length + 1 else 0) := by
    unfold wt
    rw [adopt_wave, A2]
    have : (adopt nb m h p v).chief = m.chief := t4
    rw [this]
  have e1 : wt n nb nm m h = rank n nm (m.wave h) * ((nb h).length + 2) + (if 0 < m.lack h then 1 else 0) + (if m.chief h = none then (nb h).length + 1 else 0) := rfl
  have M1 : rank n nm (some v) * ((nb h).length + 2) + ((nb h).length + 2) ≤ rank n nm (m.wave h) * ((nb h).length + 2) := by
    rw [← Nat.succ_mul]
    exact Nat.mul_le_mul_right _ R
  have D3 : pend n (adopt nb m h p v) = pend n m + (allBut nb h p).length := by
    have : pend n (adopt nb m h p v) = pend n { m with wave := fset m.wave h (some v), par := fset m.par h p, lack := fset m.lack h ((allBut nb h p).length : Int) } + (allBut nb h p).length := D
    rw [this, D2]
  obtain ⟨E1, E2, E3⟩ := E
  rw [A2] at E2
  unfold takeWave
  refine ⟨by omega, ?_, by omega⟩
  by_cases c : 0 < ((allBut nb h p).length : Int)
  · rw [if_pos c] at e2 E2
    omega
  · rw [if_neg c] at e2 E2
    omega
theorem begin_cost (W : Web n nb nm) {h : Nat} (hh : h < n) (hw : m.wave h = none) : Cost n nb nm m (begin1 nb nm m h) 1 := by
  have C := take_cost (m := { m with beg := m.beg ++ [h] }) W hh (p := none) (fun q hq => by cases hq) (v := nm h) hh rfl (fun w hw' => by have : m.wave h = some w := hw'; rw [hw] at this; cases this)
  exact ⟨C.more, C.pay, C.wait⟩
theorem come_cost (W : Web n nb nm) (O : Ok n nb nm m g none) {h o : Nat} (hr : m.rd h o ≠ []) :
    m.told ≤ (come nb m h o).told ∧ pot n nb nm (come nb m h o) + ((come nb m h o).told - m.told) ≤ pot n nb nm m ∧ pend n (come nb m h o) + 1 = pend n m + ((come nb m h o).told - m.told) := by
  have hrd := O.road h o hr
  have hh := hrd.1
  have ho := W.lt h o hh hrd.2
  unfold come
  cases e : m.rd h o with
  | nil => exact absurd e hr
  | cons l rest =>
    obtain ⟨ch, v⟩ := l
    simp only
    have pp := pend_pop hh ho e
    have P0 : pot n nb nm (pop m h o) = pot n nb nm m := pot_same rfl rfl rfl
    have T0 : (pop m h o).told = m.told := rfl
    cases ch with
    | true =>
      rw [if_pos rfl]
      have C := learn_cost (nm := nm) W (m := pop m h o) hh (some o) v
      obtain ⟨c1, c2, c3⟩ := C
      rw [P0] at c2
      rw [T0] at c1 c2 c3
      refine ⟨c1, by omega, by omega⟩
    | false =>
      rw [if_neg (by simp)]
      have byv : ∃ r, r < n ∧ nm r = v := by
        obtain ⟨r, r1, r2, _⟩ := O.by_ o v (O.joined o h v (O.sent h o v (by rw [e]; simp)))
        exact ⟨r, r1, r2⟩
      obtain ⟨r, r1, r2⟩ := byv
      have tk : (∀ w, m.wave h = some w → w < v) → m.told ≤ (takeWave nb (pop m h o) h (some o) v).told ∧ pot n nb nm (takeWave nb (pop m h o) h (some o) v) + ((takeWave nb (pop m h o) h (some o) v).told - m.told) ≤ pot n nb nm m ∧
          pend n (takeWave nb (pop m h o) h (some o) v) + 1 = pend n m + ((takeWave nb (pop m h o) h (some o) v).told - m.told) := fun hw => by
        obtain ⟨c1, c2, c3⟩ := take_cost (nm := nm) W (m := pop m h o) hh (p := some o) (fun q hq => by cases hq; exact ho) (v := v) r1 r2 hw
        rw [P0] at c2
        rw [T0] at c1 c2 c3
        exact ⟨c1, by omega, by omega⟩
      cases hw : m.wave h with
      | none => exact tk (fun w z => by rw [hw] at z; cases z)
      | some w =>
        simp only
        by_cases c : w < v
        · rw [if_pos c]
          exact tk (fun w' z => by rw [hw] at z; cases z; exact c)
        · rw [if_neg c]
          by_cases c2 : v = w
          · rw [if_pos c2]
            subst c2
            have A := pop_ok (m' := answer m h o) (x := some h) W O e (.inr (.inr ⟨rfl, rfl, hw, rfl⟩)) rfl rfl rfl rfl (fun a b => rfl) rfl
            have q1 : (answer m h o).wave = m.wave := rfl
            have q2 : (answer m h o).par = m.par := rfl
            have q3 : (answer m h o).lack = fset m.lack h (m.lack h - 1) := rfl
            have q4 : (answer m h o).chief = m.chief := rfl
            have q5 : (answer m h o).told = m.told := rfl
            have D : pend n (answer m h o) = pend n (pop m h o) := pend_same rfl
            generalize answer m h o = ma at *
            have l1 : 0 < m.lack h := by
              have := A.cnt h v (by rw [q1]; exact hw)
              rw [q3, fset_same] at this
              omega
            obtain ⟨E1, E2, E3⟩ := endWave_cost (nm := nm) W (m := ma) hh (fun p hp => by
              have j := (O.cur h v hw).2
              rw [q2] at hp
              rw [hp] at j
              obtain ⟨_, z, _⟩ := O.up h v p j
              exact W.lt h p hh z)
            have P := pot_at (nb := nb) (nm := nm) (m := m) (m' := ma) hh (fun a ha => by rw [q1]) (fun a ha => by rw [q3]; exact fset_ne ha) (fun a ha => by rw [q4])
            have e1 : wt n nb nm m h = rank n nm (m.wave h) * ((nb h).length + 2) + 1 + (if m.chief h = none then (nb h).length + 1 else 0) := by unfold wt; rw [if_pos l1]
            have e2 : wt n nb nm ma h = rank n nm (m.wave h) * ((nb h).length + 2) + (if 0 < m.lack h - 1 then 1 else 0) + (if m.chief h = none then (nb h).length + 1 else 0) := by
              unfold wt; rw [q1, q3, q4, fset_same]
            rw [q3, fset_same] at E2
            rw [q5] at E1 E2 E3
            rw [D] at E3
            refine ⟨E1, ?_, by omega⟩
            by_cases c3 : 0 < m.lack h - 1
            · rw [if_pos c3] at e2 E2; omega
            · rw [if_neg c3] at e2 E2; omega
          · rw [if_neg c2]
            exact ⟨by rw [T0]; exact Nat.le_refl _, by rw [P0, T0]; simp, by rw [T0]; omega⟩
theorem nb_len (W : Web n nb nm) {a : Nat} (ha : a < n) : (nb a).length ≤ n := by
  have pig : ∀ (l D : List Nat), l.Nodup → (∀ x ∈ l, x ∈ D) → l.length ≤ D.length := by
    intro l
    induction l with
    | nil => intro D _ _; simp
    | cons x l ih =>
      intro D hn hs
      obtain ⟨h1, h2⟩ := List.nodup_cons.mp hn
      have hx := hs x List.mem_cons_self
      have := ih (D.erase x) h2 fun y hy => by
        have hne : y ≠ x := fun e => h1 (e ▸ hy)
        exact (List.mem_erase_of_ne hne).2 (hs y (List.mem_cons_of_mem _ hy))
      have e := List.length_erase_of_mem hx
      have hp := List.length_pos_of_mem hx
      simp; omega
  have := pig (nb a) (List.range n) (W.nd a ha) fun x hx => List.mem_range.mpr (W.lt a x ha hx)
  simpa using this
theorem pot_init (W : Web n nb nm) (h16 : n ≤ 16) : pot n nb nm init ≤ 4880 := by
  unfold pot
  have : sumN n (wt n nb nm init) ≤ n * 305 := by
    refine sumN_le n fun a ha => ?_
    have l := nb_len W ha
    have r := rank_le n nm (init.wave a)
    unfold wt
    have : rank n nm (init.wave a) * ((nb a).length + 2) ≤ 16 * 18 := Nat.mul_le_mul (by omega) (by omega)
    simp only [init]
    simp only [init] at this
    simp
    omega
  have := Nat.mul_le_mul_right 305 h16
  omega
end
end Rm
set_option Elab.async false
set_option linter.all false
set_option maxRecDepth 100000
set_option maxHeartbeats 4000000
/-! a run on the heap -/
namespace Rc
open PySem PySem.Spec PyProof.Rows L2 RcN
/-- addresses of a run: the object, its dict of roads, the names; its lists (0 joined_with, 1 waves, 2 parents, 3 lacking, 4 chief_known, 5 beginners); the neighbours' lists; the roads -/
structure RA where
  p : Addr
  rd : Addr
  nm : Addr
  l : Nat → Addr
  js : List Addr
  es : List ((Nat × Nat) × Addr)
def oN : Option Nat → V
  | none => .non
  | some i => .int (i : Int)
def oI : Option Nat → Option Int
  | none => none
  | some i => some (i : Int)
theorem oN_oV (o : Option Nat) : oN o = oV (oI o) := by cases o <;> rfl
def flds (r : RA) (z : Int) : List (Str × V) := [("web_names", .ref r.nm), ("joined_with", .ref (r.l 0)), ("waves", .ref (r.l 1)), ("parents", .ref (r.l 2)), ("lacking", .ref (r.l 3)), ("chief_known", .ref (r.l 4)), ("beginners", .ref (r.l 5)), ("web_roads", .ref r.rd), ("letters_told", .int z)]
theorem lk_here {k : Str} {v : V} {r : List (Str × V)} : List.lookup k ((k, v) :: r) = some v := by
  have e : (k == k) = true := beq_self_eq_true k
  simp only [List.lookup, e]
theorem lk_past {k g : Str} {v : V} {r : List (Str × V)} (h : (k == g) = false) : List.lookup k ((g, v) :: r) = List.lookup k r := by
  simp only [List.lookup, h]
theorem put_here {f : Str} {v x : V} {r : List (Str × V)} : putF f v ((f, x) :: r) = (f, v) :: r := if_pos rfl
theorem put_past {f g : Str} {v x : V} {r : List (Str × V)} (h : ¬ g = f) : putF f v ((g, x) :: r) = (g, x) :: putF f v r := if_neg h
section
variable (r : RA) (z : Int)
theorem f_nm : (flds r z).lookup ("web_names" : Str) = some (.ref r.nm) := lk_here
theorem f_jn : (flds r z).lookup ("joined_with" : Str) = some (.ref (r.l 0)) := (lk_past (by decide +kernel)).trans lk_here
theorem f_wv : (flds r z).lookup ("waves" : Str) = some (.ref (r.l 1)) := (lk_past (by decide +kernel)).trans ((lk_past (by decide +kernel)).trans lk_here)
theorem f_pa : (flds r z).lookup ("parents" : Str) = some (.ref (r.l 2)) := (lk_past (by decide +kernel)).trans ((lk_past (by decide +kernel)).trans ((lk_past (by decide +kernel)).trans lk_here))
theorem f_lk : (flds r z).lookup ("lacking" : Str) = some (.ref (r.l 3)) := (lk_past (by decide +kernel)).trans ((lk_past (by decide +kernel)).trans ((lk_past (by decide +kernel)).trans ((lk_past (by decide +kernel)).trans lk_here)))
theorem f_ch : (flds r z).lookup ("chief_known" : Str) = some (.ref (r.l 4)) := (lk_past (by decide +kernel)).trans ((lk_past (by decide +kernel)).trans ((lk_past (by decide +kernel)).trans ((lk_past (by decide +kernel)).trans ((lk_past (by decide +kernel)).trans lk_here))))
theorem f_bg : (flds r z).lookup ("beginners" : Str) = some (.ref (r.l 5)) := (lk_past (by decide +kernel)).trans ((lk_past (by decide +kernel)).trans ((lk_past (by decide +kernel)).trans ((lk_past (by decide +kernel)).trans ((lk_past (by decide +kernel)).trans ((lk_past (by decide +kernel)).trans lk_here)))))
theorem f_rd : (flds r z).lookup ("web_roads" : Str) = some (.ref r.rd) := (lk_past (by decide +kernel)).trans ((lk_past (by decide +kernel)).trans ((lk_past (by decide +kernel)).trans ((lk_past (by decide +kernel)).trans ((lk_past (by decide +kernel)).trans ((lk_past (by decide +kernel)).trans ((lk_past (by decide +kernel)).trans lk_here))))))
theorem f_tl : (flds r z).lookup ("letters_told" : Str) = some (.int z) := (lk_past (by decide +kernel)).trans ((lk_past (by decide +kernel)).trans ((lk_past (by decide +kernel)).trans ((lk_past (by decide +kernel)).trans ((lk_past (by decide +kernel)).trans ((lk_past (by decide +kernel)).trans ((lk_past (by decide +kernel)).trans ((lk_past (by decide +kernel)).trans lk_here)))))))
theorem f_put (y : Int) : putF ("letters_told" : Str) (.int y) (flds r z) = flds r y :=
  (put_past (by decide +kernel)).trans (congrArg _ ((put_past (by decide +kernel)).trans (congrArg _ ((put_past (by decide +kernel)).trans (congrArg _ ((put_past (by decide +kernel)).trans (congrArg _ ((put_past (by decide +kernel)).trans (congrArg _
    ((put_past (by decide +kernel)).trans (congrArg _ ((put_past (by decide +kernel)).trans (congrArg _ ((put_past (by decide +kernel)).trans (congrArg _ put_here)))))))))))))))
def isFld (f : Str) : Bool := f == "web_names" || f == "joined_with" || f == "waves" || f == "parents" || f == "lacking" || f == "chief_known" || f == "beginners" || f == "web_roads" || f == "letters_told"
theorem f_no {f : Str} (h : isFld f = false) : (flds r z).lookup f = none := by
  simp only [isFld, Bool.or_eq_false_iff] at h
  obtain ⟨⟨⟨⟨⟨⟨⟨⟨h1, h2⟩, h3⟩, h4⟩, h5⟩, h6⟩, h7⟩, h8⟩, h9⟩ := h
  unfold flds
  rw [lk_past h1, lk_past h2, lk_past h3, lk_past h4, lk_past h5, lk_past h6, lk_past h7, lk_past h8, lk_past h9]
  rfl
end
def word (b : Bool) : Str := if b = true then "chief" else "wave"
def LetAt (H : Hp) (x : V) (l : Rm.Let) : Prop := ∃ t, x = .ref t ∧ H t = some (.tup [.str (word l.1), .int l.2])
def cont (n : Nat) (r : RA) (m : Rm.M) : Nat → List V
  | 0 => r.js.map V.ref
  | 1 => (List.range n).map fun h => oV (m.wave h)
  | 2 => (List.range n).map fun h => oN (m.par h)
  | 3 => (List.range n).map fun h => V.int (m.lack h)
  | 4 => (List.range n).map fun h => oV (m.chief h)
  | _ => vI m.beg
def Own (r : RA) (b : Addr) : Prop := b = r.p ∨ b = r.rd ∨ (∃ i, i < 6 ∧ b = r.l i) ∨ b ∈ r.js ∨ b ∈ r.es.map (·.2)
def kvOf (es : List ((Nat × Nat) × Addr)) : List (List Key × V) := es.map fun e => (kPair e.1, V.ref e.2)
structure RunAt (C : Addr) (H : Hp) (r : RA) (n : Nat) (nb : Nat → List Nat) (nl : List Int) (m : Rm.M) : Prop where
  ob : ∃ dx, H r.p = some (.ins C dx (flds r (m.told : Int)))
  ls : ∀ i, i < 6 → H (r.l i) = some (.lst (cont n r m i))
  jl : r.js.length = n
  ji : ∀ h a, r.js[h]? = some a → H a = some (.lst (vI (nb h)))
  rd : H r.rd = some (.dT (kvOf r.es))
  nm : ∃ o, Pl o ∧ H r.nm = some (.frz o (.tup (nl.map V.int)))
  nl : nl.length = n
  kn : (r.es.map (·.1)).Nodup
  an : (r.es.map (·.2)).Nodup
  el : ∀ e ∈ r.es, ∃ xs, H e.2 = some (.lst xs) ∧ Paired (LetAt H) xs (m.rd e.1.1 e.1.2)
  no : ∀ a b, (a, b) ∉ r.es.map (·.1) → m.rd a b = []
  ek : r.es.length ≤ m.told
  fw : ∀ a b, (m.rd a b).length ≤ m.told
  li : ∀ i j, i < 6 → j < 6 → r.l i = r.l j → i = j
  lj : ∀ i, i < 6 → r.l i ∉ r.js
  le : ∀ i, i < 6 → ∀ e ∈ r.es, e.2 ≠ r.l i
  je : ∀ e ∈ r.es, e.2 ∉ r.js
/-- what a deed on a run may change -/
structure Stp (r r' : RA) (H H' : Hp) : Prop where
  p : r'.p = r.p
  keep : ∀ b o, H b = some o → ¬ Own r b → H' b = some o
  tups : Tups H H'
  own : ∀ b, Own r' b → Own r b ∨ H b = none
theorem Stp.refl (r : RA) (H : Hp) : Stp r r H H := ⟨rfl, fun _ _ h _ => h, fun _ _ _ h => h, fun _ h => .inl h⟩
theorem Stp.trans {r r1 r2 : RA} {H H1 H2 : Hp} (a : Stp r r1 H H1) (b : Stp r1 r2 H1 H2) : Stp r r2 H H2 where
  p := b.p.trans a.p
  keep := fun c o h hn => by
    have h1 := a.keep c o h hn
    refine b.keep c o h1 fun z => ?_
    rcases a.own c z with y | y
    · exact hn y
    · rw [h] at y; cases y
  tups := fun c xs i h => b.tups c xs i (a.tups c xs i h)
  own := fun c z => by
    rcases b.own c z with y | y
    · exact a.own c y
    · by_cases hc : Own r c
      · exact .inl hc
      · cases e : H c with
        | none => exact .inr rfl
        | some o =>
          rw [a.keep c o e hc] at y; cases y
theorem Stp.same {r : RA} {H H' : Hp} (s : Same H H') : Stp r r H H' := ⟨rfl, fun b o h _ => s b o h, fun b _ _ e => s b _ e, fun _ h => .inl h⟩
section
variable {C : Addr} {H H' : Hp} {r : RA} {n : Nat} {nb : Nat → List Nat} {nl : List Int} {m m' : Rm.M}
theorem RunAt.some_own (R : RunAt C H r n nb nl m) {b : Addr} (h : Own r b) : ∃ o, H b = some o ∧ IsT o = false := by
  rcases h with h | h | ⟨i, hi, h⟩ | h | h
  · obtain ⟨dx, e⟩ := R.ob
    exact ⟨_, by rw [h]; exact e, rfl⟩
  · exact ⟨_, by rw [h]; exact R.rd, rfl⟩
  · exact ⟨_, by rw [h]; exact R.ls i hi, rfl⟩
  · obtain ⟨k, hk⟩ := List.getElem?_of_mem h
    exact ⟨_, R.ji k b hk, rfl⟩
  · obtain ⟨e, he, rfl⟩ := List.mem_map.mp h
    obtain ⟨xs, e1, _⟩ := R.el e he
    exact ⟨_, e1, rfl⟩
theorem RunAt.not_own (R : RunAt C H r n nb nl m) {b : Addr} (h : H b = none) : ¬ Own r b := fun z => by
  obtain ⟨o, e, _⟩ := R.some_own z
  rw [h] at e; cases e
theorem RunAt.not_tup (R : RunAt C H r n nb nl m) {b : Addr} {u : HO} (i : IsT u = true) (h : H b = some u) : ¬ Own r b := fun z => by
  obtain ⟨o, e, k⟩ := R.some_own z
  rw [h] at e; cases e
  rw [k] at i; cases i
/-- a run whose own objects stand -/
theorem RunAt.frame (R : RunAt C H r n nb nl m) (k : ∀ b o, H b = some o → Own r b → H' b = some o) (t : Tups H H') : RunAt C H' r n nb nl m :=
  { R with
    ob := let ⟨dx, e⟩ := R.ob; ⟨dx, k _ _ e (.inl rfl)⟩
    ls := fun i hi => k _ _ (R.ls i hi) (.inr (.inr (.inl ⟨i, hi, rfl⟩)))
    ji := fun h a e => k _ _ (R.ji h a e) (.inr (.inr (.inr (.inl (List.mem_of_getElem? e)))))
    rd := k _ _ R.rd (.inr (.inl rfl))
    nm := let ⟨o, p, e⟩ := R.nm; ⟨o, p, t _ _ rfl e⟩
    el := fun e he => by
      obtain ⟨xs, e1, e2⟩ := R.el e he
      exact ⟨xs, k _ _ e1 (.inr (.inr (.inr (.inr (List.mem_map.mpr ⟨e, he, rfl⟩))))), paired_imp e2 fun _ _ ⟨u, z1, z2⟩ => ⟨u, z1, t _ _ rfl z2⟩⟩ }
theorem RunAt.nmT {K : PySem.W.Frag} (R : RunAt C H r n nb nl m) : SqT K H r.nm (nl.map V.int) := let ⟨o, _, e⟩ := R.nm; .inl (.inr ⟨o, e⟩)
theorem RunAt.same (R : RunAt C H r n nb nl m) (s : Same H H') : RunAt C H' r n nb nl m := R.frame (fun b o h _ => s b o h) (fun b _ _ e => s b _ e)
/-- one of its lists is stored -/
theorem RunAt.setl (R : RunAt C H r n nb nl m) {i : Nat} (hi : i < 6) (h0 : i ≠ 0) {xs : List V} (e0 : cont n r m' i = xs) (e1 : ∀ j, j < 6 → j ≠ i → cont n r m' j = cont n r m j) (e2 : m'.rd = m.rd) (e3 : m'.told = m.told) :
    RunAt C (upd H (r.l i) (.lst xs)) r n nb nl m' ∧ Stp r r H (upd H (r.l i) (.lst xs)) := by
  have own : Own r (r.l i) := .inr (.inr (.inl ⟨i, hi, rfl⟩))
  have hl := R.ls i hi
  have tups : Tups H (upd H (r.l i) (.lst xs)) := fun b ys i e => by
    rw [upd_ne (ne_t i e hl rfl)]; exact e
  refine ⟨{ R with ob := ?_, ls := fun j hj => ?_, ji := fun h a e => ?_, rd := ?_, nm := let ⟨o, p, e⟩ := R.nm; ⟨o, p, tups _ _ rfl e⟩, el := fun e he => ?_, no := by rw [e2]; exact R.no, ek := by rw [e3]; exact R.ek, fw := by rw [e2, e3]; exact R.fw }, ⟨rfl, fun b o e hn => ?_, tups, fun b h => .inl h⟩⟩
  · obtain ⟨dx, e⟩ := R.ob
    refine ⟨dx, ?_⟩
    rw [upd_ne (ne_of e hl (fun z => nomatch z)), e3]
    exact e
  · by_cases c : j = i
    · subst c; rw [upd_same, e0]
    · rw [upd_ne (fun z => c (R.li j i hj hi z)), e1 j hj c]
      exact R.ls j hj
  · rw [upd_ne (fun z => R.lj i hi (by rw [← z]; exact List.mem_of_getElem? e))]
    exact R.ji h a e
  · rw [upd_ne (ne_of R.rd hl (fun z => nomatch z))]
    exact R.rd
  · obtain ⟨ys, z1, z2⟩ := R.el e he
    refine ⟨ys, ?_, ?_⟩
    · rw [upd_ne (R.le i hi e he)]; exact z1
    · rw [e2]
      exact paired_imp z2 fun _ _ ⟨u, y1, y2⟩ => ⟨u, y1, tups _ _ rfl y2⟩
  · rw [upd_ne (fun z => hn (by rw [z]; exact own))]
    exact e
end
theorem rg_get {n h : Nat} {f : Nat → V} (hh : h < n) : ((List.range n).map f)[h]? = some (f h) := by
  rw [List.getElem?_map, List.getElem?_range hh]; rfl
theorem rg_set {n h : Nat} {α : Type} {f : Nat → α} {F : α → V} {x : α} (hh : h < n) : ((List.range n).map fun k => F (f k)).set h (F x) = (List.range n).map fun k => F (Rm.fset f h x k) := by
  apply List.ext_getElem?
  intro i
  by_cases hi : i < n
  · rw [List.getElem?_set, rg_get (f := fun k => F (Rm.fset f h x k)) hi, List.length_map, List.length_range]
    by_cases c : h = i
    · subst c
      rw [if_pos rfl, if_pos hh, Rm.fset_same]
    · rw [if_neg c, rg_get (f := fun k => F (f k)) hi, Rm.fset_ne (fun z => c z.symm)]
  · rw [List.getElem?_eq_none (by simp; omega), List.getElem?_eq_none (by simp; omega)]
theorem at_nat {xs : List V} {h : Nat} {v : V} (e : xs[h]? = some v) : atI xs (h : Int) = some v := atI_nat e
theorem ix_nat {n h : Nat} (hh : h < n) : ixN n (h : Int) = some h := by
  unfold ixN
  rw [if_pos (by omega), if_pos (by omega)]
  simp
end Rc
set_option Elab.async false
set_option linter.all false
set_option maxRecDepth 100000
set_option maxHeartbeats 4000000
/-! a run on the heap: letters -/
namespace Rc
open PySem PySem.Spec PyProof.Rows L2 RcN
theorem kPair_inj {p q : Nat × Nat} (h : kPair p = kPair q) : p = q := by
  obtain ⟨a, b⟩ := p
  obtain ⟨c, d⟩ := q
  simp only [kPair, List.cons.injEq, Sum.inl.injEq, and_true] at h
  obtain ⟨h1, h2⟩ := h
  have : a = c := by omega
  have : b = d := by omega
  simp [*]
theorem kv_some {es : List ((Nat × Nat) × Addr)} {k : Nat × Nat} {v : V} (h : valV (kvOf es) (kPair k) = some v) : ∃ e, v = .ref e ∧ (k, e) ∈ es := by
  unfold valV kvOf at h
  obtain ⟨x, hx, rfl⟩ := Option.map_eq_some_iff.mp h
  have h1 := List.mem_of_find?_eq_some hx
  have h2 := List.find?_some hx
  obtain ⟨⟨k', e⟩, he, rfl⟩ := List.mem_map.mp h1
  have := kPair_inj (by simpa using h2)
  have e2 : k' = k := this
  subst e2
  exact ⟨e, rfl, he⟩
theorem kv_none {es : List ((Nat × Nat) × Addr)} {k : Nat × Nat} (h : valV (kvOf es) (kPair k) = none) : k ∉ es.map (·.1) := by
  intro hm
  obtain ⟨e, he, rfl⟩ := List.mem_map.mp hm
  unfold valV kvOf at h
  rw [Option.map_eq_none_iff, List.find?_eq_none] at h
  exact h _ (List.mem_map.mpr ⟨e, he, rfl⟩) (by simp)
theorem kv_put {es : List ((Nat × Nat) × Addr)} {k : Nat × Nat} {z : Addr} (h : k ∉ es.map (·.1)) : putK (kvOf es) (kPair k) (.ref z) = kvOf (es ++ [(k, z)]) := by
  unfold putK
  rw [if_neg]
  · unfold kvOf; rw [List.map_append]; rfl
  · intro q
    obtain ⟨x, hx, e⟩ := List.any_eq_true.mp q
    obtain ⟨y, hy, rfl⟩ := List.mem_map.mp hx
    have := kPair_inj (by simpa using e)
    exact h (List.mem_map.mpr ⟨y, hy, this⟩)
theorem nd_uniq {es : List ((Nat × Nat) × Addr)} (h : (es.map (·.1)).Nodup) {k : Nat × Nat} {a b : Addr} (ha : (k, a) ∈ es) (hb : (k, b) ∈ es) : a = b := by
  induction es with
  | nil => cases ha
  | cons x t ih =>
    rw [List.map_cons, List.nodup_cons] at h
    rcases List.mem_cons.mp ha with e1 | e1
    · rcases List.mem_cons.mp hb with e2 | e2
      · rw [← e1] at e2; injection e2 with _ e; exact e.symm
      · exact absurd (List.mem_map.mpr ⟨_, e2, by rw [← e1]⟩) h.1
    · rcases List.mem_cons.mp hb with e2 | e2
      · exact absurd (List.mem_map.mpr ⟨_, e1, by rw [← e2]⟩) h.1
      · exact ih h.2 e1 e2
theorem nd_addr {es : List ((Nat × Nat) × Addr)} (h : (es.map (·.2)).Nodup) {x y : (Nat × Nat) × Addr} (hx : x ∈ es) (hy : y ∈ es) (e : x.2 = y.2) : x = y := by
  induction es with
  | nil => cases hx
  | cons z t ih =>
    rw [List.map_cons, List.nodup_cons] at h
    rcases List.mem_cons.mp hx with e1 | e1
    · rcases List.mem_cons.mp hy with e2 | e2
      · rw [e1, e2]
      · exact absurd (List.mem_map.mpr ⟨_, e2, by rw [← e, e1]⟩) h.1
    · rcases List.mem_cons.mp hy with e2 | e2
      · exact absurd (List.mem_map.mpr ⟨_, e1, by rw [e, e2]⟩) h.1
      · exact ih h.2 e1 e2
section
variable {C : Addr} {H : Hp} {r : RA} {n : Nat} {nb : Nat → List Nat} {nl : List Int} {m : Rm.M}
theorem own_p : Own r r.p := .inl rfl
theorem own_rd : Own r r.rd := .inr (.inl rfl)
theorem own_l {i : Nat} (h : i < 6) : Own r (r.l i) := .inr (.inr (.inl ⟨i, h, rfl⟩))
theorem own_j {a : Addr} (h : a ∈ r.js) : Own r a := .inr (.inr (.inr (.inl h)))
theorem own_e {e : (Nat × Nat) × Addr} (h : e ∈ r.es) : Own r e.2 := .inr (.inr (.inr (.inr (List.mem_map.mpr ⟨e, h, rfl⟩))))
/-- own letters of a road and the count of letters are stored: what stays -/
theorem RunAt.ne_p (R : RunAt C H r n nb nl m) {b : Addr} {o : HO} (h : H b = some o) (k : ∀ dx fs, o ≠ .ins C dx fs) : b ≠ r.p := fun e => by
  obtain ⟨dx, q⟩ := R.ob
  rw [e, q] at h
  exact k _ _ (Option.some.inj h).symm
theorem road_app {m : Rm.M} {h o a b : Nat} {l : Rm.Let} : (Rm.tell1 m h l o).rd a b = if a = o ∧ b = h then m.rd a b ++ [l] else m.rd a b := rfl
theorem RunAt.tell_found (R : RunAt C H r n nb nl m) {o h : Nat} {e t dx : Addr} {xs : List V} {l : Rm.Let} (ob : H r.p = some (.ins C dx (flds r (m.told : Int)))) (he : ((o, h), e) ∈ r.es) (hx : H e = some (.lst xs)) (ht : LetAt H (.ref t) l) :
    RunAt C (upd (upd H e (.lst (xs ++ [.ref t]))) r.p (.ins C dx (flds r ((m.told : Int) + 1)))) r n nb nl (Rm.tell1 m h l o) ∧ Stp r r H (upd (upd H e (.lst (xs ++ [.ref t]))) r.p (.ins C dx (flds r ((m.told : Int) + 1)))) := by
  have tups : Tups H (upd (upd H e (.lst (xs ++ [.ref t]))) r.p (.ins C dx (flds r ((m.told : Int) + 1)))) := fun b ys i q => by
    rw [upd_ne (ne_t i q ob rfl), upd_ne (ne_t i q hx rfl)]; exact q
  have keep : ∀ b u, H b = some u → b ≠ e → b ≠ r.p → (upd (upd H e (.lst (xs ++ [.ref t]))) r.p (.ins C dx (flds r ((m.told : Int) + 1)))) b = some u := fun b u q h1 h2 => by
    rw [upd_ne h2, upd_ne h1]; exact q
  have ep : e ≠ r.p := R.ne_p hx (fun _ _ z => nomatch z)
  refine ⟨{ R with ob := ⟨dx, by rw [upd_same]; rfl⟩, ls := fun j hj => ?_, ji := fun k a q => ?_, rd := ?_, nm := let ⟨o, p, e⟩ := R.nm; ⟨o, p, tups _ _ rfl e⟩, el := fun e' he' => ?_, no := fun a b q => ?_, ek := Nat.le_succ_of_le R.ek, fw := fun a b => ?_ }, ⟨rfl, fun b u q hn => ?_, tups, fun b q => .inl q⟩⟩
  · exact keep _ _ (R.ls j hj) (fun z => R.le j hj _ he z.symm) (R.ne_p (R.ls j hj) (fun _ _ z => nomatch z))
  · exact keep _ _ (R.ji k a q) (fun z => R.je _ he (by rw [← z]; exact List.mem_of_getElem? q)) (R.ne_p (R.ji k a q) (fun _ _ z => nomatch z))
  · exact keep _ _ R.rd (ne_of R.rd hx (fun z => nomatch z)) (R.ne_p R.rd (fun _ _ z => nomatch z))
  · obtain ⟨ys, z1, z2⟩ := R.el e' he'
    by_cases c : e' = ((o, h), e)
    · subst c
      rw [hx] at z1
      cases z1
      refine ⟨xs ++ [.ref t], by rw [upd_ne ep, upd_same], ?_⟩
      rw [road_app, if_pos ⟨rfl, rfl⟩]
      refine paired_app (paired_imp z2 fun _ _ ⟨u, y1, y2⟩ => ⟨u, y1, tups _ _ rfl y2⟩) (.cons ?_ .nil)
      obtain ⟨u, y1, y2⟩ := ht
      exact ⟨u, y1, tups _ _ rfl y2⟩
    · have c2 : e'.2 ≠ e := fun z => c (nd_addr R.an he' he z)
      refine ⟨ys, keep _ _ z1 c2 (R.ne_p z1 (fun _ _ z => nomatch z)), ?_⟩
      rw [road_app, if_neg]
      · exact paired_imp z2 fun _ _ ⟨u, y1, y2⟩ => ⟨u, y1, tups _ _ rfl y2⟩
      · rintro ⟨z3, z4⟩
        obtain ⟨⟨a, b⟩, e2⟩ := e'
        simp only at z3 z4
        subst z3; subst z4
        exact c2 (nd_uniq R.kn he' he)
  · rw [road_app, if_neg]
    · exact R.no a b q
    · rintro ⟨rfl, rfl⟩
      exact q (List.mem_map.mpr ⟨_, he, rfl⟩)
  · rw [road_app]
    have := R.fw a b
    split
    · rw [List.length_append]
      show _ ≤ m.told + 1
      simp only [List.length_cons, List.length_nil]
      omega
    · exact Nat.le_succ_of_le this
  · exact keep _ _ q (fun z => hn (by rw [z]; exact own_e he)) (fun z => hn (by rw [z]; exact own_p))
theorem RunAt.tell_new (R : RunAt C H r n nb nl m) {o h : Nat} {z t dx : Addr} {l : Rm.Let} (ob : H r.p = some (.ins C dx (flds r (m.told : Int)))) (he : (o, h) ∉ r.es.map (·.1)) (hz : H z = some (.lst [])) (hn : ¬ Own r z) (ht : LetAt H (.ref t) l) {H0 : Hp} (s : Same H0 H) (hz0 : H0 z = none) :
    RunAt C (upd (upd (upd H r.rd (.dT (kvOf (r.es ++ [((o, h), z)])))) z (.lst [.ref t])) r.p (.ins C dx (flds r ((m.told : Int) + 1)))) { r with es := r.es ++ [((o, h), z)] } n nb nl (Rm.tell1 m h l o) ∧
    (Tups H0 H → Stp r { r with es := r.es ++ [((o, h), z)] } H0 (upd (upd (upd H r.rd (.dT (kvOf (r.es ++ [((o, h), z)])))) z (.lst [.ref t])) r.p (.ins C dx (flds r ((m.told : Int) + 1))))) := by
  have tups : Tups H (upd (upd (upd H r.rd (.dT (kvOf (r.es ++ [((o, h), z)])))) z (.lst [.ref t])) r.p (.ins C dx (flds r ((m.told : Int) + 1)))) := fun b ys i q => by
    rw [upd_ne (ne_t i q ob rfl), upd_ne (ne_t i q hz rfl), upd_ne (ne_t i q R.rd rfl)]; exact q
  have keep : ∀ b u, H b = some u → b ≠ r.rd → b ≠ z → b ≠ r.p → (upd (upd (upd H r.rd (.dT (kvOf (r.es ++ [((o, h), z)])))) z (.lst [.ref t])) r.p (.ins C dx (flds r ((m.told : Int) + 1)))) b = some u := fun b u q h1 h2 h3 => by
    rw [upd_ne h3, upd_ne h2, upd_ne h1]; exact q
  have zp : z ≠ r.p := fun e => hn (by rw [e]; exact own_p)
  have zr : z ≠ r.rd := fun e => hn (by rw [e]; exact own_rd)
  have rp : r.rd ≠ r.p := R.ne_p R.rd (fun _ _ z => nomatch z)
  have zo : ∀ e ∈ r.es, e.2 ≠ z := fun e he' q => hn (by rw [← q]; exact own_e he')
  have mem : ∀ e, e ∈ r.es ++ [((o, h), z)] → e ∈ r.es ∨ e = ((o, h), z) := fun e q => by simpa using q
  refine ⟨{ ob := ⟨dx, by rw [upd_same]; rfl⟩, ls := fun j hj => ?_, jl := R.jl, ji := fun k a q => ?_, rd := ?_, nm := let ⟨o, p, e⟩ := R.nm; ⟨o, p, tups _ _ rfl e⟩, nl := R.nl, kn := ?_, an := ?_, el := fun e' he' => ?_, no := fun a b q => ?_, ek := ?_, fw := fun a b => ?_, li := R.li, lj := R.lj, le := fun i hi e' q => ?_, je := fun e' q => ?_ }, fun tp => ⟨rfl, fun b u q hb => ?_, fun b ys i q => tups _ _ i (tp _ _ i q), fun b q => ?_⟩⟩
  · have hl := R.ls j hj
    refine keep _ _ ?_ (ne_of hl R.rd (fun z => nomatch z)) (fun e => hn (by rw [← e]; exact own_l hj)) (R.ne_p hl (fun _ _ z => nomatch z))
    rw [hl]; congr 2
  · have hl := R.ji k a q
    exact keep _ _ hl (ne_of hl R.rd (fun z => nomatch z)) (fun e => hn (by rw [← e]; exact own_j (List.mem_of_getElem? q))) (R.ne_p hl (fun _ _ z => nomatch z))
  · show (upd (upd (upd H r.rd _) z _) r.p _) r.rd = _
    rw [upd_ne rp, upd_ne zr.symm, upd_same]
  · show ((r.es ++ [((o, h), z)]).map (·.1)).Nodup
    rw [List.map_append, List.nodup_append]
    refine ⟨R.kn, by simp, fun a ha b hb => ?_⟩
    simp at hb; subst hb
    exact fun q => he (by rw [← q]; exact ha)
  · show ((r.es ++ [((o, h), z)]).map (·.2)).Nodup
    rw [List.map_append, List.nodup_append]
    refine ⟨R.an, by simp, fun a ha b hb => ?_⟩
    simp at hb; subst hb
    obtain ⟨e', h1, rfl⟩ := List.mem_map.mp ha
    exact zo e' h1
  · rcases mem e' he' with q | q
    · obtain ⟨ys, z1, z2⟩ := R.el e' q
      refine ⟨ys, keep _ _ z1 (ne_of z1 R.rd (fun z => nomatch z)) (zo e' q) (R.ne_p z1 (fun _ _ z => nomatch z)), ?_⟩
      rw [road_app, if_neg]
      · exact paired_imp z2 fun _ _ ⟨u, y1, y2⟩ => ⟨u, y1, tups _ _ rfl y2⟩
      · rintro ⟨z3, z4⟩
        exact he (List.mem_map.mpr ⟨e', q, by rw [← z3, ← z4]⟩)
    · subst q
      refine ⟨[.ref t], by rw [upd_ne zp, upd_same], ?_⟩
      rw [road_app, if_pos ⟨rfl, rfl⟩, R.no _ _ he]
      obtain ⟨u, y1, y2⟩ := ht
      exact .cons ⟨u, y1, tups _ _ rfl y2⟩ .nil
  · rw [road_app, if_neg]
    · refine R.no a b fun q' => q ?_
      show (a, b) ∈ (r.es ++ [((o, h), z)]).map (·.1)
      rw [List.map_append]; exact List.mem_append_left _ q'
    · rintro ⟨rfl, rfl⟩
      refine q ?_
      show (a, b) ∈ (r.es ++ [((a, b), z)]).map (·.1)
      simp
  · show (r.es ++ [((o, h), z)]).length ≤ m.told + 1
    have := R.ek
    rw [List.length_append]; simp only [List.length_cons, List.length_nil]; omega
  · rw [road_app]
    have := R.fw a b
    split
    · rw [List.length_append]
      show _ ≤ m.told + 1
      simp only [List.length_cons, List.length_nil]
      omega
    · exact Nat.le_succ_of_le this
  · rcases mem e' q with q | q
    · exact R.le i hi e' q
    · subst q; exact fun e => hn (by have e' : z = r.l i := e; rw [e']; exact own_l hi)
  · rcases mem e' q with q | q
    · exact R.je e' q
    · subst q; exact fun e => hn (own_j e)
  · exact keep _ _ (s _ _ q) (fun e => hb (by rw [e]; exact own_rd)) (fun e => by rw [e, hz0] at q; cases q) (fun e => hb (by rw [e]; exact own_p))
  · rcases q with q | q | ⟨i, hi, q⟩ | q | q
    · exact .inl (.inl q)
    · exact .inl (.inr (.inl q))
    · exact .inl (.inr (.inr (.inl ⟨i, hi, q⟩)))
    · exact .inl (.inr (.inr (.inr (.inl q))))
    · obtain ⟨e', h1, rfl⟩ := List.mem_map.mp q
      rcases mem e' h1 with h2 | h2
      · exact .inl (own_e h2)
      · subst h2; exact .inr hz0
/-- the first letter of a road is taken -/
theorem RunAt.popped (R : RunAt C H r n nb nl m) {o h : Nat} {e : Addr} {x : V} {xs : List V} (he : ((h, o), e) ∈ r.es) (hx : H e = some (.lst (x :: xs))) :
    RunAt C (upd H e (.lst xs)) r n nb nl (Rm.pop m h o) ∧ Stp r r H (upd H e (.lst xs)) := by
  have tups : Tups H (upd H e (.lst xs)) := fun b ys i q => by
    rw [upd_ne (ne_t i q hx rfl)]; exact q
  have keep : ∀ b u, H b = some u → b ≠ e → (upd H e (.lst xs)) b = some u := fun b u q h1 => by
    rw [upd_ne h1]; exact q
  have ep : e ≠ r.p := R.ne_p hx (fun _ _ z => nomatch z)
  have rdp : ∀ a b, (Rm.pop m h o).rd a b = if a = h ∧ b = o then (m.rd a b).tail else m.rd a b := fun _ _ => rfl
  refine ⟨{ R with ob := ?_, ls := fun j hj => ?_, ji := fun k a q => ?_, rd := ?_, nm := let ⟨o, p, e⟩ := R.nm; ⟨o, p, tups _ _ rfl e⟩, el := fun e' he' => ?_, no := fun a b q => ?_, ek := R.ek, fw := fun a b => ?_ }, ⟨rfl, fun b u q hn => ?_, tups, fun b q => .inl q⟩⟩
  · obtain ⟨dx, q⟩ := R.ob
    exact ⟨dx, keep _ _ q ep.symm⟩
  · exact keep _ _ (R.ls j hj) (fun z => R.le j hj _ he z.symm)
  · exact keep _ _ (R.ji k a q) (fun z => R.je _ he (by rw [← z]; exact List.mem_of_getElem? q))
  · exact keep _ _ R.rd (ne_of R.rd hx (fun z => nomatch z))
  · obtain ⟨ys, z1, z2⟩ := R.el e' he'
    by_cases c : e' = ((h, o), e)
    · subst c
      rw [hx] at z1
      cases z1
      refine ⟨xs, upd_same, ?_⟩
      rw [rdp, if_pos ⟨rfl, rfl⟩]
      simp only at z2
      cases hm : m.rd h o with
      | nil => rw [hm] at z2; cases z2
      | cons y ys =>
        rw [hm] at z2
        cases z2 with
        | cons _ t => exact paired_imp t fun _ _ ⟨u, y1, y2⟩ => ⟨u, y1, tups _ _ rfl y2⟩
    · have c2 : e'.2 ≠ e := fun z => c (nd_addr R.an he' he z)
      refine ⟨ys, keep _ _ z1 c2, ?_⟩
      rw [rdp, if_neg]
      · exact paired_imp z2 fun _ _ ⟨u, y1, y2⟩ => ⟨u, y1, tups _ _ rfl y2⟩
      · rintro ⟨z3, z4⟩
        obtain ⟨⟨a, b⟩, e2⟩ := e'
        simp only at z3 z4
        subst z3; subst z4
        exact c2 (nd_uniq R.kn he' he)
  · rw [rdp, if_neg]
    · exact R.no a b q
    · rintro ⟨rfl, rfl⟩
      exact q (List.mem_map.mpr ⟨_, he, rfl⟩)
  · rw [rdp]
    have := R.fw a b
    split
    · rw [List.length_tail]; exact Nat.le_trans (Nat.sub_le _ _) this
    · exact this
  · exact keep _ _ q (fun z => hn (by rw [z]; exact own_e he))
end
end Rc
set_option Elab.async false
set_option linter.all false
set_option maxRecDepth 100000
set_option maxHeartbeats 4000000
namespace Rc
open PySem PySem.Spec PyProof.Rows L2
/-! ### is_number -/
def isNum (o : Option Int) (m : Int) : Bool := match o with
  | none => false
  | some i => decide (0 ≤ i) && decide (i ≤ m)
def spNum : Sp := fun vs H Q _ => ∃ (o : Option Int) (m : Int), vs = [oV o, .int m] ∧ Q (.bl (isNum o m)) H
section
variable {P : Program} {w : World} {K : PySem.W.Frag} {mg : Str → Option Value} {base : Heap} {C CB CL f : Addr} {fd : FuncData}
theorem ok_is_number (F : DefAt K "is_number" "is_number" s_is_number f fd) (T : Txt K mg C CB CL) : FnOk P w K mg base CX0 1 f fd ["thing", "most"] spNum := by
  refine okN F sc_is_number (fun vs H Q E h => ?_) (fun cdv A outer s H vs Q E hr h => ?_)
  · obtain ⟨o, m, rfl, _⟩ := h
    rfl
  · obtain ⟨o, m, rfl, k⟩ := h
    refine ⟨_, (pss_one (ps_ret (pe_and (pe_callB call_isi (by rfl) T.b_isinstance (by decide +kernel) (pa_cons (pv 0) (pa_cons (pe_bltn (v := .ty "int") (by rfl) T.b_int (by decide +kernel) rfl) pa_nil))) (pe_and (pe_not (pe_callB call_isi (by rfl) T.b_isinstance (by decide +kernel) (pa_cons (pv 0) (pa_cons (pe_bltn (v := .ty "bool") (by rfl) T.b_bool (by decide +kernel) rfl) pa_nil)))) (pe_one (pe_chain op_le op_le pe_int (pv 0) (pv 1))))))), ?_⟩
    refine ⟨_, rfl, _, _, _, _, _, rfl, .ty _, tyx_o, kit_o_int, _, rfl, ?_⟩
    cases o with
    | none => exact iteF k
    | some i =>
      refine iteT ?_
      refine ⟨_, rfl, _, _, _, _, _, rfl, .ty _, tyx_o (o := some i), kit_o_bool, _, rfl, _, rfl, iteT ?_⟩
      refine ⟨_, rfl, _, _, rfl, rfl, _, rfl, ?_⟩
      refine ite2 (fun h0 => ?_) (fun h0 => ?_)
      · refine ⟨_, rfl, _, _, rfl, rfl, ?_⟩
        have e : isNum (some i) m = decide (i ≤ m) := by
          show (decide (0 ≤ i) && decide (i ≤ m)) = _
          rw [show decide (0 ≤ i) = true from h0]; rfl
        rw [e] at k
        exact k
      · have e : isNum (some i) m = false := by
          show (decide (0 ≤ i) && decide (i ≤ m)) = _
          rw [show decide (0 ≤ i) = false from by simpa using h0]; rfl
        rw [e] at k
        exact k
/-! ### neighbours -/
def nbs (L : List (Nat × Nat)) (h : Nat) : List Nat := (L.filter fun p => decide (p.1 = h)).map (·.2) ++ (L.filter fun p => decide (p.2 = h)).map (·.1)
def spNb (K : PySem.W.Frag) : Sp := fun vs H Q _ => ∃ (a : Addr) (xs : List V) (L : List (Nat × Nat)) (h : Nat), vs = [.ref a, .int (h : Int)] ∧ SqT K H a xs ∧ PairsAt H xs L ∧ L.length ≤ 1000 ∧ (nbs L h).length < 64 ∧
  ∀ (l : List Nat) (p : Addr) (H' : Hp), l.Perm (nbs L h) → Same H H' → H p = none → H' p = some (.lst (vI l)) → Q (.ref p) H'
theorem ok_neighbours (F : DefAt K "neighbours" "neighbours" s_neighbours f fd) (T : Txt K mg C CB CL) : FnOk P w K mg base CX0 1 f fd ["lines", "house"] (spNb K) := by
  refine okN F sc_neighbours (fun vs H Q E h => ?_) (fun cdv A outer s H vs Q E hr h => ?_)
  · obtain ⟨a, xs, L, h, rfl, _⟩ := h
    rfl
  · obtain ⟨a, xs, L, h, rfl, hS, hP, hl, h64, k⟩ := h
    have hlen := paired_len hP
    refine ⟨_, (pss_cons (ps_set (i := 2) sc_neighbours.nd rfl (Or.inl rfl) (pe_op op_cat (pe_lc (own := [("one", 3), ("other", 4)]) (g := gTup K 2 (gCons (gName 3) (gCons (gName 4) gNil))) (tt := _) rfl sc_neighbours.nd (pi_tup (pv 0)) (blkOk_by (own := [("one", 3), ("other", 4)]) (N := ["lines", "house", "found", "one", "other"]) (sc := defScope s_neighbours) (by decide +kernel)) (fun _ _ _ _ _ => (pg_tup rfl (pgs_cons (pg_name (i := 3) sc_neighbours.nd rfl (Or.inl rfl)) (pgs_cons (pg_name (i := 4) sc_neighbours.nd rfl (Or.inl rfl)) pgs_nil)))) (fun _ _ _ _ _ => (pts_one (pt_cmpR op_eq (pv 3) (pv 1) (nomark _)))) (fun _ _ _ _ _ => (pv 4))) (pe_lc (own := [("one", 3), ("other", 4)]) (g := gTup K 2 (gCons (gName 3) (gCons (gName 4) gNil))) (tt := _) rfl sc_neighbours.nd (pi_tup (pv 0)) (blkOk_by (own := [("one", 3), ("other", 4)]) (N := ["lines", "house", "found", "one", "other"]) (sc := defScope s_neighbours) (by decide +kernel)) (fun _ _ _ _ _ => (pg_tup rfl (pgs_cons (pg_name (i := 3) sc_neighbours.nd rfl (Or.inl rfl)) (pgs_cons (pg_name (i := 4) sc_neighbours.nd rfl (Or.inl rfl)) pgs_nil)))) (fun _ _ _ _ _ => (pts_one (pt_cmpR op_eq (pv 4) (pv 1) (nomark _)))) (fun _ _ _ _ _ => (pv 3)))))
    (pss_one (ps_ret (pe_callB cr_sorted (by rfl) T.b_sorted (by decide +kernel) (pa_cons (pv 2) pa_nil))))), ?_⟩
    refine ⟨_, rfl, a, rfl, ⟨_, hS⟩, fun D hD => lc_tup (xs := xs) (fun i H' => Same H H' ∧ H' D = some (.lst (vI (((L.take i).filter fun p => decide (p.1 = h)).map (·.2))))) ⟨same_new hD, upd_same⟩
      (fun i H' _ ⟨s, _⟩ => same_tup s hS) ?_ ?_⟩
    · rintro i x H' hi ⟨s, hD'⟩
      obtain ⟨⟨p, q⟩, hp, t, rfl, ht⟩ := paired_get hP hi
      have hil : i < L.length := (List.getElem?_eq_some_iff.mp hp).1
      refine ⟨t, _, rfl, SqT.of (s _ _ ht), rfl, _, _, rfl, _, _, rfl, rfl, rfl, ?_⟩
      refine ⟨_, rfl, _, rfl, rfl, _, rfl, ?_⟩
      have e := take_more hp
      refine ite2 (fun c => ?_) (fun c => ?_)
      · have c' : p = h := by simp at c; omega
        refine ⟨_, rfl, _, hD', ?_, same_upd s hD, ?_⟩
        · rw [vI_len, List.length_map]
          exact small1000 (Nat.le_trans (List.length_filter_le _ _) (by rw [List.length_take]; omega))
        · rw [upd_same, e, List.filter_append, List.map_append, vI_app]
          simp [c', vI]
      · have c' : ¬ p = h := by simp at c; omega
        refine ⟨s, ?_⟩
        rw [hD', e, List.filter_append, List.map_append, vI_app]
        simp [c', vI]
    rintro H1 ⟨s1, h1⟩
    rw [hlen, List.take_length] at h1
    have hS1 := same_tup s1 hS
    have hP1 := pairs_same s1 hP
    refine ⟨_, rfl, a, rfl, ⟨_, hS1⟩, fun D2 hD2 => lc_tup (xs := xs) (fun i H' => Same H1 H' ∧ H' D2 = some (.lst (vI (((L.take i).filter fun p => decide (p.2 = h)).map (·.1))))) ⟨same_new hD2, upd_same⟩
      (fun i H' _ ⟨s, _⟩ => same_tup s hS1) ?_ ?_⟩
    · rintro i x H' hi ⟨s, hD'⟩
      obtain ⟨⟨p, q⟩, hp, t, rfl, ht⟩ := paired_get hP1 hi
      have hil : i < L.length := (List.getElem?_eq_some_iff.mp hp).1
      refine ⟨t, _, rfl, SqT.of (s _ _ ht), rfl, _, _, rfl, _, _, rfl, rfl, rfl, ?_⟩
      refine ⟨_, rfl, _, rfl, rfl, _, rfl, ?_⟩
      have e := take_more hp
      refine ite2 (fun c => ?_) (fun c => ?_)
      · have c' : q = h := by simp at c; omega
        refine ⟨_, rfl, _, hD', ?_, same_upd s hD2, ?_⟩
        · rw [vI_len, List.length_map]
          exact small1000 (Nat.le_trans (List.length_filter_le _ _) (by rw [List.length_take]; omega))
        · rw [upd_same, e, List.filter_append, List.map_append, vI_app]
          simp [c', vI]
      · have c' : ¬ q = h := by simp at c; omega
        refine ⟨s, ?_⟩
        rw [hD', e, List.filter_append, List.map_append, vI_app]
        simp [c', vI]
    rintro H2 ⟨s2, h2⟩
    rw [hlen, List.take_length] at h2
    have hn : (nbs L h).length = ((L.filter fun p => decide (p.1 = h)).map (·.2)).length + ((L.filter fun p => decide (p.2 = h)).map (·.1)).length := by unfold nbs; rw [List.length_append]
    refine ⟨_, _, _, _, rfl, rfl, s2 _ _ h1, h2, ?_, fun p hp => ?_⟩
    · rw [vI_len, vI_len, ← hn]
      exact Nat.le_of_lt (small1000 (by omega))
    have s3 := (s1.trans s2)
    refine ⟨_, rfl, p, (nbs L h).map fun k : Nat => (k : Int), rfl, SqL.of ?_, by rw [List.length_map]; exact h64, fun ns' p2 pm _ hp2 => ?_⟩
    · rw [upd_same, vI_ints]
      unfold nbs
      rw [vI_app]
    obtain ⟨l, e, pl⟩ := perm_nat pm
    rw [e, vI_ints]
    have sp : Same H (upd H2 p (.lst (vI (nbs L h)))) := same_upd s3 (s3.free hp)
    exact k l p2 _ pl (same_upd (same_upd s3 (s3.free hp)) (Same.free (same_upd s3 (s3.free hp)) hp2)) (Same.free (same_upd s3 (s3.free hp)) hp2) upd_same
end
end Rc
set_option Elab.async false
set_option linter.all false
set_option maxRecDepth 100000
set_option maxHeartbeats 4000000
namespace Rc
open PySem PySem.Spec PyProof.Rows L2 RcN
open C8 (pe_c pe_mk pe_mt pe_mt0)
abbrev Small (n : Nat) (nb : Nat → List Nat) : Prop := ∀ h, h < n → (nb h).length ≤ 16
def spAskH (C : Addr) : Sp := fun vs H Q _ => ∃ (r : RA) (n : Nat) (nb : Nat → List Nat) (nl : List Int) (m : Rm.M) (h : Nat), vs = [.ref r.p, .int (h : Int)] ∧ RunAt C H r n nb nl m ∧ h < n ∧ Q .non H
def spAskR (C : Addr) : Sp := fun vs H Q _ => ∃ (r : RA) (n : Nat) (nb : Nat → List Nat) (nl : List Int) (m : Rm.M) (h o : Nat), vs = [.ref r.p, .int (h : Int), .int (o : Int)] ∧ RunAt C H r n nb nl m ∧ h < n ∧ o < n ∧ o ∈ nb h ∧ Q .non H
def spAll (C : Addr) : Sp := fun vs H Q _ => ∃ (r : RA) (n : Nat) (nb : Nat → List Nat) (nl : List Int) (m : Rm.M) (h : Nat) (o : Option Nat), vs = [.ref r.p, .int (h : Int), oN o] ∧ RunAt C H r n nb nl m ∧ h < n ∧ Small n nb ∧
  ∀ a H', Same H H' → H a = none → H' a = some (.lst (vI (Rm.allBut nb h o))) → Q (.ref a) H'
def spTree (C : Addr) : Sp := fun vs H Q _ => ∃ (r : RA) (n : Nat) (nb : Nat → List Nat) (nl : List Int) (m : Rm.M), vs = [.ref r.p] ∧ RunAt C H r n nb nl m ∧ ∀ a, H a = none → Q (.ref a) (upd H a (.tup (cont n r m 2)))
def spKnows (C : Addr) : Sp := fun vs H Q _ => ∃ (r : RA) (n : Nat) (nb : Nat → List Nat) (nl : List Int) (m : Rm.M) (h : Nat), vs = [.ref r.p, .int (h : Int)] ∧ RunAt C H r n nb nl m ∧ h < n ∧ Q (oV (m.chief h)) H
def spSent (C : Addr) : Sp := fun vs H Q _ => ∃ (r : RA) (n : Nat) (nb : Nat → List Nat) (nl : List Int) (m : Rm.M), vs = [.ref r.p] ∧ RunAt C H r n nb nl m ∧ Q (.int (m.told : Int)) H
theorem isNum_yes {h n : Nat} (hh : h < n) : isNum (some (h : Int)) ((n : Int) - 1) = true := by
  unfold isNum
  simp only [Bool.and_eq_true, decide_eq_true_eq]
  omega
section
variable {P : Program} {w : World} {K : PySem.W.Frag} {mg : Str → Option Value} {base : Heap} {C CB CL f : Addr} {fd : FuncData}
theorem ok_ask_house (F : DefAt K "ask_house" "WebRun.ask_house" s_ask_house f fd) (T : Txt K mg C CB CL) (c_is_number : C8.Cal P w K mg base 1 "is_number" spNum []) : FnOk P w K mg base CX0 2 f fd ["self", "house"] (spAskH C) := by
  refine okN F sc_ask_house (fun vs H Q E h => ?_) (fun cdv A outer s H vs Q E hr h => ?_)
  · obtain ⟨r, n, nb, nl, m, h, rfl, _⟩ := h
    rfl
  · obtain ⟨r, n, nb, nl, m, h, rfl, R, hh, k⟩ := h
    obtain ⟨dx, ob⟩ := R.ob
    refine ⟨_, (pss_one (ps_if (pt_not (pt_val (pe_c c_is_number hr (by decide) (by rfl) (pa_cons (pv 1) (pa_cons (pe_op op_sub (pe_callB call_len_seq (by rfl) T.b_len (by decide +kernel) (pa_cons (pe_fld (pv 0) rfl) pa_nil)) pe_int) pa_nil))))) (pss_one ps_never) pss_nil)), ?_⟩
    refine ⟨_, rfl, _, rfl, _, _, _, _, _, rfl, ob, T.cl, T.n_nm, f_nm _ _, _, _, rfl, .inr (R.nmT), _, _, rfl, rfl, some (h : Int), _, rfl, _, rfl, ?_⟩
    rw [List.length_map, R.nl, isNum_yes hh]
    exact k
theorem ok_ask_road (F : DefAt K "ask_road" "WebRun.ask_road" s_ask_road f fd) (T : Txt K mg C CB CL) (c_is_number : C8.Cal P w K mg base 1 "is_number" spNum []) (c_ask_house : C8.Met P w K mg base 2 C "ask_house" (spAskH C) []) : FnOk P w K mg base CX0 3 f fd ["self", "house", "other"] (spAskR C) := by
  refine okN F sc_ask_road (fun vs H Q E h => ?_) (fun cdv A outer s H vs Q E hr h => ?_)
  · obtain ⟨r, n, nb, nl, m, h, o, rfl, _⟩ := h
    rfl
  · obtain ⟨r, n, nb, nl, m, h, o, rfl, R, hh, ho, hn, k⟩ := h
    obtain ⟨dx, ob⟩ := R.ob
    refine ⟨_, (pss_cons (ps_expr (pe_mt c_ask_house hr (by decide) (pv 0) (pa_cons (pv 1) pa_nil)))
    (pss_one (ps_if (PW.pt (pw_or (pt_not (pt_val (pe_c c_is_number hr (by decide) (by rfl) (pa_cons (pv 2) (pa_cons (pe_op op_sub (pe_callB call_len_seq (by rfl) T.b_len (by decide +kernel) (pa_cons (pe_fld (pv 0) rfl) pa_nil)) pe_int) pa_nil))))) (pw_or1 (pt_cmpR op_notIn_seq (pv 2) (pe_ix ix_list (pe_fld (pv 0) rfl) (pv 1) (fun _ _ => rfl)) (by rfl))))) (pss_one ps_never) pss_nil))), ?_⟩
    refine ⟨_, rfl, _, _, _, rfl, ob, f_no _ _ (by decide +kernel), _, rfl, r, n, nb, nl, m, h, rfl, R, hh, ?_⟩
    refine ⟨_, rfl, _, rfl, _, _, _, _, _, rfl, ob, T.cl, T.n_nm, f_nm _ _, _, _, rfl, .inr (R.nmT), _, _, rfl, rfl, some (o : Int), _, rfl, _, rfl, ?_⟩
    rw [List.length_map, R.nl, isNum_yes ho]
    have hj : ∃ a, r.js[h]? = some a := ⟨r.js[h]'(by rw [R.jl]; exact hh), List.getElem?_eq_getElem _⟩
    obtain ⟨a, ha⟩ := hj
    refine ⟨_, rfl, _, rfl, _, _, _, _, _, rfl, ob, T.cl, T.n_jn, f_jn _ _, _, rfl, _, _, _, _, rfl, rfl, SqL.of (R.ls 0 (by decide)), at_nat (v := .ref a) (by show (r.js.map V.ref)[h]? = _; rw [List.getElem?_map, ha]; rfl), ?_⟩
    refine ⟨_, _, rfl, .inl (SqL.of (R.ji h a ha)), rfl, vI_flat _, _, rfl, ?_⟩
    rw [vI_in]
    simp only [hn, decide_true]
    exact k
theorem ok_all_but (F : DefAt K "all_but" "WebRun.all_but" s_all_but f fd) (T : Txt K mg C CB CL) : FnOk P w K mg base CX0 1 f fd ["self", "house", "other"] (spAll C) := by
  refine okN F sc_all_but (fun vs H Q E h => ?_) (fun cdv A outer s H vs Q E hr h => ?_)
  · obtain ⟨r, n, nb, nl, m, h, o, rfl, _⟩ := h
    rfl
  · obtain ⟨r, n, nb, nl, m, h, o, rfl, R, hh, sm, k⟩ := h
    obtain ⟨dx, ob⟩ := R.ob
    have hj : ∃ a, r.js[h]? = some a := ⟨r.js[h]'(by rw [R.jl]; exact hh), List.getElem?_eq_getElem _⟩
    obtain ⟨a, ha⟩ := hj
    have hS := R.ji h a ha
    refine ⟨_, (pss_one (ps_ret (pe_lc (own := [("one", 3)]) (g := gName 3) (tt := _) rfl sc_all_but.nd (pi_list (pe_ix ix_list (pe_fld (pv 0) rfl) (pv 1) (fun _ _ => rfl))) (blkOk_by (own := [("one", 3)]) (N := ["self", "house", "other", "one"]) (sc := defScope s_all_but) (by decide +kernel)) (fun _ _ _ _ _ => (pg_name (i := 3) sc_all_but.nd rfl (Or.inl rfl))) (fun _ _ _ _ _ => (pts_one (pt_cmpR op_ne (pv 3) (pv 2) (nomark _)))) (fun _ _ _ _ _ => (pv 3))))), ?_⟩
    refine ⟨_, rfl, _, _, _, _, _, rfl, ob, T.cl, T.n_jn, f_jn _ _, _, rfl, _, _, _, _, rfl, rfl, SqL.of (R.ls 0 (by decide)), at_nat (v := .ref a) (by show (r.js.map V.ref)[h]? = _; rw [List.getElem?_map, ha]; rfl), ?_⟩
    refine ⟨a, rfl, ⟨_, SqL.of hS⟩, fun D hD => lc_list (xs := vI (nb h)) (fun i H' => Same H H' ∧ H' D = some (.lst (vI (((nb h).take i).filter fun x => decide (some x ≠ o))))) ⟨same_new hD, upd_same⟩
      (fun i H' _ ⟨s, _⟩ => SqL.of (s _ _ hS)) ?_ ?_⟩
    · rintro i x H' hi ⟨s, hD'⟩
      rw [vI_get] at hi
      obtain ⟨y, hy, rfl⟩ := Option.map_eq_some_iff.mp hi
      have hil : i < (nb h).length := (List.getElem?_eq_some_iff.mp hy).1
      have s16 := sm h hh
      have e := take_more hy
      refine ⟨rfl, _, rfl, _, rfl, ?_⟩
      have ev : (!decide (V.int (y : Int) = oN o)) = decide (some y ≠ o) := by
        cases o with
        | none => rfl
        | some z =>
          by_cases c : y = z
          · subst c; simp [oN]
          · have : ¬ (V.int (y : Int) = V.int (z : Int)) := fun q => c (by injection q with q; omega)
            simp only [oN, this, decide_false, Bool.not_false]
            simp [c]
      refine ⟨by cases o <;> rfl, _, rfl, ?_⟩
      rw [ev]
      refine ite2 (fun c => ?_) (fun c => ?_)
      · refine ⟨_, rfl, _, hD', ?_, same_upd s hD, ?_⟩
        · rw [vI_len]
          exact small1000 (Nat.le_trans (List.length_filter_le _ _) (by rw [List.length_take]; omega))
        · rw [upd_same, e, List.filter_append, vI_app]
          simp only [List.filter_cons, c, if_true, List.filter_nil]
          rfl
      · refine ⟨s, ?_⟩
        rw [hD', e, List.filter_append, vI_app]
        simp only [List.filter_cons, c]
        simp [vI]
    rintro H1 ⟨s1, h1⟩
    rw [vI_len, List.take_length] at h1
    exact k D H1 s1 hD h1
theorem ok_tree (F : DefAt K "tree" "tree" s_tree f fd) (T : Txt K mg C CB CL) : FnOk P w K mg base CX0 1 f fd ["run"] (spTree C) := by
  refine okN F sc_tree (fun vs H Q E h => ?_) (fun cdv A outer s H vs Q E hr h => ?_)
  · obtain ⟨r, n, nb, nl, m, rfl, _⟩ := h
    rfl
  · obtain ⟨r, n, nb, nl, m, rfl, R, k⟩ := h
    obtain ⟨dx, ob⟩ := R.ob
    refine ⟨_, (pss_one (ps_ret (pe_callTy call_tuple_of (by rfl) T.b_tuple (by decide +kernel) (pa_cons (pe_fld (pv 0) rfl) pa_nil)))), ?_⟩
    refine ⟨_, rfl, _, _, _, _, _, rfl, ob, T.cl, T.n_pa, f_pa _ _, _, _, rfl, .inl ⟨SqL.of (R.ls 2 (by decide)), k⟩⟩
theorem ok_knows (F : DefAt K "knows" "WebRun.knows" s_knows f fd) (T : Txt K mg C CB CL) (c_ask_house : C8.Met P w K mg base 2 C "ask_house" (spAskH C) []) : FnOk P w K mg base CX0 3 f fd ["self", "house"] (spKnows C) := by
  refine okN F sc_knows (fun vs H Q E h => ?_) (fun cdv A outer s H vs Q E hr h => ?_)
  · obtain ⟨r, n, nb, nl, m, h, rfl, _⟩ := h
    rfl
  · obtain ⟨r, n, nb, nl, m, h, rfl, R, hh, k⟩ := h
    obtain ⟨dx, ob⟩ := R.ob
    refine ⟨_, (pss_cons (ps_expr (pe_mt c_ask_house hr (by decide) (pv 0) (pa_cons (pv 1) pa_nil)))
    (pss_one (ps_ret (pe_ix ix_list (pe_fld (pv 0) rfl) (pv 1) (fun _ _ => rfl))))), ?_⟩
    refine ⟨_, rfl, _, _, _, rfl, ob, f_no _ _ (by decide +kernel), _, rfl, r, n, nb, nl, m, h, rfl, R, hh, ?_⟩
    exact ⟨_, rfl, _, _, _, _, _, rfl, ob, T.cl, T.n_ch, f_ch _ _, _, rfl, _, _, _, _, rfl, rfl, SqL.of (R.ls 4 (by decide)), at_nat (rg_get hh), k⟩
theorem ok_sent (F : DefAt K "sent" "WebRun.sent" s_sent f fd) (T : Txt K mg C CB CL) : FnOk P w K mg base CX0 1 f fd ["self"] (spSent C) := by
  refine okN F sc_sent (fun vs H Q E h => ?_) (fun cdv A outer s H vs Q E hr h => ?_)
  · obtain ⟨r, n, nb, nl, m, rfl, _⟩ := h
    rfl
  · obtain ⟨r, n, nb, nl, m, rfl, R, k⟩ := h
    obtain ⟨dx, ob⟩ := R.ob
    refine ⟨_, (pss_one (ps_ret (pe_fld (pv 0) rfl))), ?_⟩
    exact ⟨_, rfl, _, _, _, _, _, rfl, ob, T.cl, T.n_tl, f_tl _ _, k⟩
end
end Rc
set_option Elab.async false
set_option linter.all false
set_option maxRecDepth 100000
set_option maxHeartbeats 4000000
namespace Rc
open PySem PySem.Spec PyProof.Rows L2 RcN
open C8 (pe_c pe_mk pe_mt pe_mt0)
theorem RunAt.road {C : Addr} {H : Hp} {r : RA} {n : Nat} {nb : Nat → List Nat} {nl : List Int} {m : Rm.M} (R : RunAt C H r n nb nl m) (h o : Nat) :
    (∃ e xs, valV (kvOf r.es) (kPair (h, o)) = some (.ref e) ∧ ((h, o), e) ∈ r.es ∧ H e = some (.lst xs) ∧ Paired (LetAt H) xs (m.rd h o)) ∨ (valV (kvOf r.es) (kPair (h, o)) = none ∧ m.rd h o = []) := by
  cases q : valV (kvOf r.es) (kPair (h, o)) with
  | none => exact .inr ⟨rfl, R.no h o (kv_none q)⟩
  | some v =>
    obtain ⟨e, rfl, he⟩ := kv_some q
    obtain ⟨xs, h1, h2⟩ := R.el _ he
    exact .inl ⟨e, xs, rfl, he, h1, h2⟩
theorem same_lock {H H' : Hp} {d : Addr} {u v : HO} (hu : H d = some u) (s : Same (upd H d v) H') : Same H (upd H' d u) := fun b o e => by
  by_cases c : b = d
  · subst c; rw [upd_same, ← hu, e]
  · rw [upd_ne c]; exact s b o (by rw [upd_ne c]; exact e)
theorem two_ok {a b : V} : [a, b].length ≤ sizeLine := Nat.le_of_lt (small1000 (show 2 ≤ 1000 by decide))
theorem nil_ok : ([] : List V).length ≤ sizeLine := Nat.zero_le _
theorem one_ok {a : V} : [a].length ≤ sizeLine := Nat.le_of_lt (small1000 (show 1 ≤ 1000 by decide))
def spWait (C : Addr) : Sp := fun vs H Q _ => ∃ (r : RA) (n : Nat) (nb : Nat → List Nat) (nl : List Int) (m : Rm.M) (h o : Nat), vs = [.ref r.p, .int (h : Int), .int (o : Int)] ∧ RunAt C H r n nb nl m ∧ h < n ∧ o < n ∧ o ∈ nb h ∧
  ∀ a xs H', Same H H' → H' a = some (.tup xs) → xs.length = (m.rd h o).length → Q (.ref a) H'
def spStill (C : Addr) : Sp := fun vs H Q _ => ∃ (r : RA) (n : Nat) (nb : Nat → List Nat) (nl : List Int) (m : Rm.M), vs = [.ref r.p] ∧ RunAt C H r n nb nl m ∧ m.told ≤ 10000 ∧
  ∀ b H', Same H H' → (b = true → ∀ a b, m.rd a b = []) → (b = false → ∃ a b, m.rd a b ≠ []) → Q (.bl b) H'
def spBegun (C : Addr) : Sp := fun vs H Q _ => ∃ (r : RA) (n : Nat) (nb : Nat → List Nat) (nl : List Int) (m : Rm.M), vs = [.ref r.p] ∧ RunAt C H r n nb nl m ∧ m.beg.length < 64 ∧
  ∀ a l H', l.Perm m.beg → Same H H' → H' a = some (.tup (vI l)) → Q (.ref a) H'
section
variable {P : Program} {w : World} {K : PySem.W.Frag} {mg : Str → Option Value} {base : Heap} {C CB CL f : Addr} {fd : FuncData}
theorem ok_waiting (F : DefAt K "waiting" "WebRun.waiting" s_waiting f fd) (T : Txt K mg C CB CL) (c_ask_road : C8.Met P w K mg base 3 C "ask_road" (spAskR C) []) : FnOk P w K mg base CX0 4 f fd ["self", "house", "other"] (spWait C) := by
  refine okN F sc_waiting (fun vs H Q E h => ?_) (fun cdv A outer s H vs Q E hr h => ?_)
  · obtain ⟨r, n, nb, nl, m, h, o, rfl, _⟩ := h
    rfl
  · obtain ⟨r, n, nb, nl, m, h, o, rfl, R, hh, ho, hn, k⟩ := h
    obtain ⟨dx, ob⟩ := R.ob
    have hu := hu_of hr
    refine ⟨_, (pss_cons (ps_expr (pe_mt c_ask_road hr (by decide) (pv 0) (pa_cons (pv 1) (pa_cons (pv 2) pa_nil))))
    (pss_one (ps_ret (pe_callTy call_tuple_of (by rfl) T.b_tuple (by decide +kernel) (pa_cons (pe_dget2 hu (pe_fld (pv 0) rfl) (pe_tup (pa_cons (pv 1) (pa_cons (pv 2) pa_nil))) (pe_lst pa_nil) m2_any) pa_nil))))), ?_⟩
    refine ⟨_, rfl, _, _, _, rfl, ob, f_no _ _ (by decide +kernel), _, rfl, _, rfl, r, n, nb, nl, m, h, o, rfl, R, hh, ho, hn, ?_⟩
    refine ⟨_, rfl, _, _, _, _, _, rfl, ob, T.cl, T.n_rd, f_rd _ _, _, rfl, .inr ⟨_, .of R.rd⟩, _, rfl, _, rfl, two_ok, fun t ht => ⟨nil_ok, fun z hz => ?_⟩⟩
    have s2 : Same H (upd (upd H t (.tup [.int (h : Int), .int (o : Int)])) z (.lst [])) := same_upd (same_new ht) (Same.free (same_new ht) hz)
    have R2 := R.same s2
    have tz : t ≠ z := fun e => by rw [e, upd_same] at hz; cases hz
    have kt : upd (upd H t (.tup [.int (h : Int), .int (o : Int)])) z (.lst []) t = some (.tup ((kPair (h, o)).map kV)) := by rw [upd_ne tz, upd_same]; rfl
    refine ⟨_, .t R2.rd kt, ?_⟩
    rcases R2.road h o with ⟨e, xs, h1, h2, h3, h4⟩ | ⟨h1, h2⟩
    · rw [h1]
      refine ⟨e, xs, rfl, .inl ⟨SqL.of h3, fun a ha => ?_⟩⟩
      exact k a xs _ (same_upd s2 (s2.free ha)) upd_same (paired_len h4)
    · rw [h1]
      refine ⟨z, [], rfl, .inl ⟨SqL.of upd_same, fun a ha => ?_⟩⟩
      exact k a [] _ (same_upd s2 (s2.free ha)) upd_same (by rw [h2]; rfl)
theorem ok_is_still (F : DefAt K "is_still" "WebRun.is_still" s_is_still f fd) (T : Txt K mg C CB CL) : FnOk P w K mg base CX0 1 f fd ["self"] (spStill C) := by
  refine okN F sc_is_still (fun vs H Q E h => ?_) (fun cdv A outer s H vs Q E hr h => ?_)
  · obtain ⟨r, n, nb, nl, m, rfl, _⟩ := h
    rfl
  · obtain ⟨r, n, nb, nl, m, rfl, R, tl, k⟩ := h
    obtain ⟨dx, ob⟩ := R.ob
    have rp : r.p ≠ r.rd := (R.ne_p R.rd (fun _ _ z => nomatch z)).symm
    refine ⟨_, (pss_one (ps_ret (pe_lock (pe_callB (cr_all rfl) (by rfl) T.b_all (by decide +kernel) (pa_cons (pe_lc (own := [("letters", 1)]) (g := gName 1) (tt := tYes) rfl sc_is_still.nd (pi_valuesT (pe_fld (pv 0) rfl)) (blkOk_by (own := [("letters", 1)]) (N := ["self", "letters"]) (sc := defScope s_is_still) (by decide +kernel)) (fun _ _ _ _ _ => (pg_name (i := 1) sc_is_still.nd rfl (Or.inl rfl))) (fun _ _ _ _ _ => pts_nil) (fun _ _ _ _ _ => (pe_cmpR op_eq (pe_callB (id := "len") (r := Evl.rLenS K) call_len_seq (by rfl) T.b_len (by decide +kernel) (pa_cons (pv 1) pa_nil)) pe_int (nomark _)))) pa_nil))))), ?_⟩
    refine ⟨r.rd, _, R.rd, trivial, fun od => ?_⟩
    refine ⟨_, rfl, _, _, _, _, _, rfl, by rw [upd_ne rp]; exact ob, T.cl, T.n_rd, f_rd _ _, r.rd, od, kvOf r.es, rfl, upd_same, fun D hD => ?_⟩
    refine lc_it (walk_valuesT (d := r.rd) (o := od) (kvs := kvOf r.es)) (fun i H' => Same (upd H r.rd (.frz od (.dT (kvOf r.es)))) H' ∧ H' D = some (.lst ((((r.es.take i).map fun e => decide ((m.rd e.1.1 e.1.2).length = 0))).map V.bl))) ⟨same_new hD, upd_same⟩
      (fun i H' _ ⟨s, _⟩ => s _ _ upd_same) ?_ ?_
    · rintro i x H' H2 hi ⟨s, hD'⟩ ⟨e0, kk, hk⟩
      subst e0
      unfold kvOf at hk hi
      rw [List.getElem?_map] at hk
      obtain ⟨e, he, q⟩ := Option.map_eq_some_iff.mp hk
      cases q
      have hil : i < r.es.length := (List.getElem?_eq_some_iff.mp he).1
      obtain ⟨xs, h1, h2⟩ := R.el e (List.mem_of_getElem? he)
      have hne : e.2 ≠ r.rd := ne_of h1 R.rd (fun z => nomatch z)
      have hx : H2 e.2 = some (.lst xs) := s _ _ (by rw [upd_ne hne]; exact h1)
      refine ⟨rfl, _, rfl, e.2, xs, rfl, .inl (SqL.of hx), rfl, ?_⟩
      refine ⟨_, hD', ?_, same_upd s hD, ?_⟩
      · rw [List.length_map, List.length_map]
        have := R.ek
        refine Nat.lt_of_le_of_lt (show _ ≤ 10000 by rw [List.length_take]; omega) (by decide)
      · rw [upd_same, take_more he, List.map_append, List.map_append]
        have e3 : (V.bl (decide (V.int (xs.length : Int) = V.int 0))) = V.bl (decide ((m.rd e.1.1 e.1.2).length = 0)) := by
          rw [← paired_len h2]
          congr 1
          rw [Bool.eq_iff_iff]; simp
        rw [e3]
        rfl
    rintro H1 ⟨s1, h1⟩
    have hl : (kvOf r.es).length = r.es.length := by unfold kvOf; rw [List.length_map]
    rw [hl, List.take_length] at h1
    refine ⟨D, _, rfl, SqL.of h1, s1 _ _ upd_same, ?_⟩
    refine k _ _ (same_lock R.rd s1) (fun hb a b => ?_) (fun hb => ?_)
    · by_cases c : (a, b) ∈ r.es.map (·.1)
      · obtain ⟨e, he, q⟩ := List.mem_map.mp c
        rw [List.all_eq_true] at hb
        have := hb _ (List.mem_map.mpr ⟨e, he, rfl⟩)
        simp only [id, decide_eq_true_eq] at this
        rw [q] at this
        exact List.length_eq_zero_iff.mp this
      · exact R.no a b c
    · rw [List.all_eq_false] at hb
      obtain ⟨x, hx, e⟩ := hb
      obtain ⟨e', _, rfl⟩ := List.mem_map.mp hx
      refine ⟨e'.1.1, e'.1.2, fun z => ?_⟩
      rw [z] at e
      exact e rfl
theorem ok_begun (F : DefAt K "begun" "WebRun.begun" s_begun f fd) (T : Txt K mg C CB CL) : FnOk P w K mg base CX0 1 f fd ["self"] (spBegun C) := by
  refine okN F sc_begun (fun vs H Q E h => ?_) (fun cdv A outer s H vs Q E hr h => ?_)
  · obtain ⟨r, n, nb, nl, m, rfl, _⟩ := h
    rfl
  · obtain ⟨r, n, nb, nl, m, rfl, R, h64, k⟩ := h
    obtain ⟨dx, ob⟩ := R.ob
    refine ⟨_, (pss_one (ps_ret (pe_callTy call_tuple_of (by rfl) T.b_tuple (by decide +kernel) (pa_cons (pe_callB cr_sorted (by rfl) T.b_sorted (by decide +kernel) (pa_cons (pe_fld (pv 0) rfl) pa_nil)) pa_nil)))), ?_⟩
    refine ⟨_, rfl, _, _, _, _, _, rfl, ob, T.cl, T.n_bg, f_bg _ _, r.l 5, m.beg.map fun k : Nat => (k : Int), rfl, SqL.of ?_, by rw [List.length_map]; exact h64, fun ns' p pm _ hp => ?_⟩
    · rw [vI_ints]; exact R.ls 5 (by decide)
    obtain ⟨l, e, pl⟩ := perm_nat pm
    rw [e, vI_ints]
    refine ⟨p, vI l, rfl, .inl ⟨SqL.of upd_same, fun a ha => ?_⟩⟩
    exact k a l _ pl (same_upd (same_new hp) (Same.free (same_new hp) ha)) upd_same
end
end Rc
set_option Elab.async false
set_option linter.all false
set_option maxRecDepth 100000
set_option maxHeartbeats 4000000
namespace Rc
open PySem PySem.Spec PyProof.Rows L2 RcN
open C8 (pe_c pe_mk pe_mt pe_mt0)
/-- what a deed gives back -/
def Gives (C : Addr) (H : Hp) (r : RA) (n : Nat) (nb : Nat → List Nat) (nl : List Int) (m' : Rm.M) (Q : VK) : Prop := ∀ H' r', RunAt C H' r' n nb nl m' → Stp r r' H H' → Q .non H'
def spTell (C : Addr) : Sp := fun vs H Q _ => ∃ (r : RA) (n : Nat) (nb : Nat → List Nat) (nl : List Int) (m : Rm.M) (h : Nat) (a t : Addr) (os : List Nat) (l : Rm.Let), vs = [.ref r.p, .int (h : Int), .ref a, .ref t] ∧ RunAt C H r n nb nl m ∧
  H a = some (.lst (vI os)) ∧ ¬ Own r a ∧ H t = some (.tup [.str (word l.1), .int l.2]) ∧ m.told + os.length ≤ 10000 ∧ Gives C H r n nb nl (Rm.tellTo m h os l) Q
section
variable {P : Program} {w : World} {K : PySem.W.Frag} {mg : Str → Option Value} {base : Heap} {C CB CL f : Addr} {fd : FuncData}
theorem ok_tell_to (F : DefAt K "tell_to" "WebRun.tell_to" s_tell_to f fd) (T : Txt K mg C CB CL) : FnOk P w K mg base CX0 1 f fd ["self", "house", "others", "letter"] (spTell C) := by
  refine okN F sc_tell_to (fun vs H Q E h => ?_) (fun cdv A outer s H vs Q E hr h => ?_)
  · obtain ⟨r, n, nb, nl, m, h, a, t, os, l, rfl, _⟩ := h
    rfl
  · obtain ⟨r, n, nb, nl, m, h, a, t, os, l, rfl, R, ha, hna, ht, hb, k⟩ := h
    have hu := hu_of hr
    refine ⟨_, (pss_one (ps_for PassesOwn.never rfl (pi_list (pv 2)) (pg_name (i := 4) sc_tell_to.nd rfl (Or.inl rfl)) (pss_cons (ps_expr (pe_bm PySem.F.plainAttrs_list PySem.F.slot_list_append PySem.F.type_list_append mt_append (pe_dsetdT hu (pe_fld (pv 0) rfl) (pe_tup (pa_cons (pv 4) (pa_cons (pv 1) pa_nil))) (pe_lst pa_nil) m2_any) (pa_cons (pv 3) pa_nil)))
    (pss_one (ps_fldaug (pv 0) pe_int in_add))))), ?_⟩
    refine ⟨_, rfl, a, rfl, ⟨_, SqL.of ha⟩, ?_⟩
    refine for_list (xs := vI os) (fun i σ H' => (∃ x, σ = [some (.ref r.p), some (.int (h : Int)), some (.ref a), some (.ref t), x]) ∧ ∃ r', RunAt C H' r' n nb nl (Rm.tellTo m h (os.take i) l) ∧ Stp r r' H H') ⟨⟨_, rfl⟩, r, R, Stp.refl _ _⟩
      (fun i σ H' _ ⟨_, r', _, S⟩ => SqL.of (S.keep _ _ ha hna)) ?_ ?_
    · rintro i x σ H' hi ⟨⟨x0, rfl⟩, r', R', S⟩
      rw [vI_get] at hi
      obtain ⟨o, ho, rfl⟩ := Option.map_eq_some_iff.mp hi
      have hil : i < os.length := (List.getElem?_eq_some_iff.mp ho).1
      have tf := (Rm.tellTo_fields (os.take i) m h l).2.2.2.2.2
      have tb : (Rm.tellTo m h (os.take i) l).told ≤ 10000 := by rw [tf, List.length_take]; omega
      have enx : Rm.tellTo m h (os.take (i + 1)) l = Rm.tell1 (Rm.tellTo m h (os.take i) l) h l o := by
        rw [take_more ho]; unfold Rm.tellTo; rw [List.foldl_append]; rfl
      obtain ⟨dx, ob⟩ := R'.ob
      have pe : r'.p = r.p := S.p
      rw [pe] at ob
      refine ⟨_, rfl, _, _, _, _, _, rfl, ob, T.cl, T.n_rd, f_rd _ _, r'.rd, rfl, .inr ⟨_, .of R'.rd⟩, _, rfl, _, rfl, two_ok, fun tt htt => ⟨nil_ok, fun z hz => ?_⟩⟩
      have s1 : Same H' (upd H' tt (.tup [.int (o : Int), .int (h : Int)])) := same_new htt
      have hz' : H' z = none := Same.free s1 hz
      have s2 : Same H' (upd (upd H' tt (.tup [.int (o : Int), .int (h : Int)])) z (.lst [])) := same_upd s1 hz'
      have R2 := R'.same s2
      have tz : tt ≠ z := fun e => by rw [e, upd_same] at hz; cases hz
      have kt : upd (upd H' tt (.tup [.int (o : Int), .int (h : Int)])) z (.lst []) tt = some (.tup ((kPair (o, h)).map kV)) := by rw [upd_ne tz, upd_same]; rfl
      have ob2 := s2 _ _ ob
      rw [← pe] at ob2
      have lt2 : LetAt (upd (upd H' tt (.tup [.int (o : Int), .int (h : Int)])) z (.lst [])) (.ref t) l := ⟨t, rfl, s2 _ _ (S.tups _ _ rfl ht)⟩
      have kl : (kvOf r'.es).length < sizeLine := by
        have := R'.ek
        unfold kvOf; rw [List.length_map]
        exact Nat.lt_of_le_of_lt (show _ ≤ 10000 by omega) (by decide)
      refine ⟨_, kPair (o, h), tt, R2.rd, rfl, kt, kl, fun v hv => ?_, fun hv => ?_⟩
      · obtain ⟨e, rfl, he⟩ := kv_some hv
        obtain ⟨xs, hx, hp⟩ := R2.el _ he
        have A := R2.tell_found ob2 he hx lt2
        refine ⟨.inl ⟨rfl, _, SqL.of hx⟩, _, rfl, _, _, _, rfl, rfl, hx, ?_, ?_⟩
        · rw [paired_len hp]
          exact Nat.lt_of_le_of_lt (Nat.le_trans (R2.fw _ _) tb) (by decide)
        have pe2 : r.p ≠ e := fun q => R2.ne_p hx (fun _ _ z => nomatch z) (by rw [pe]; exact q.symm)
        have ob3 : (upd (upd (upd H' tt (.tup [.int (o : Int), .int (h : Int)])) z (.lst [])) e (.lst (xs ++ [.ref t]))) r.p = some (.ins C dx (flds r' ((Rm.tellTo m h (os.take i) l).told : Int))) := by
          rw [upd_ne pe2, ← pe]; exact ob2
        refine ⟨_, rfl, _, _, _, _, _, rfl, ob3, T.cl, T.n_tl, f_tl _ _, _, _, rfl, rfl, _, _, ob3, by show (9 : Nat) < 1000; decide, ?_⟩
        refine ⟨⟨_, rfl⟩, r', ?_, ?_⟩
        · rw [enx, f_put, ← pe]; exact A.1
        · rw [f_put, ← pe]; exact S.trans ((Stp.same s2).trans A.2)
      · have hnn := kv_none hv
        rw [kv_put hnn]
        have nz : ¬ Own r' z := R'.not_own hz'
        have A := R2.tell_new ob2 hnn upd_same nz lt2 s2 hz'
        have zr : z ≠ r'.rd := fun e => nz (by rw [e]; exact own_rd)
        have zp : z ≠ r.p := fun e => nz (by rw [e, ← pe]; exact own_p)
        have hx : (upd (upd (upd H' tt (.tup [.int (o : Int), .int (h : Int)])) z (.lst [])) r'.rd (.dT (kvOf (r'.es ++ [((o, h), z)])))) z = some (.lst []) := by rw [upd_ne zr, upd_same]
        refine ⟨.inl ⟨rfl, _, SqL.of hx⟩, _, rfl, _, _, _, rfl, rfl, hx, by show (0 : Nat) < _; exact Nat.lt_of_lt_of_le (by decide : 0 < 1) (by decide), ?_⟩
        have ob3 : (upd (upd (upd (upd H' tt (.tup [.int (o : Int), .int (h : Int)])) z (.lst [])) r'.rd (.dT (kvOf (r'.es ++ [((o, h), z)])))) z (.lst ([] ++ [.ref t]))) r.p = some (.ins C dx (flds r' ((Rm.tellTo m h (os.take i) l).told : Int))) := by
          have rp : r.p ≠ r'.rd := fun q => R2.ne_p R2.rd (fun _ _ z => nomatch z) (by rw [pe]; exact q.symm)
          rw [upd_ne zp.symm, upd_ne rp, ← pe]; exact ob2
        refine ⟨_, rfl, _, _, _, _, _, rfl, ob3, T.cl, T.n_tl, f_tl _ _, _, _, rfl, rfl, _, _, ob3, by show (9 : Nat) < 1000; decide, ?_⟩
        refine ⟨⟨_, rfl⟩, { r' with es := r'.es ++ [((o, h), z)] }, ?_, ?_⟩
        · rw [enx, f_put, ← pe]; exact A.1
        · rw [f_put, ← pe]; exact S.trans (A.2 (fun b _ _ e => s2 b _ e))
    · rintro σ H' ⟨⟨x0, rfl⟩, r', R', S⟩
      rw [vI_len, List.take_length] at R'
      exact k H' r' R' S
end
end Rc
set_option Elab.async false
set_option linter.all false
set_option maxRecDepth 100000
set_option maxHeartbeats 4000000
namespace Rc
open PySem PySem.Spec PyProof.Rows L2 RcN
open C8 (pe_c pe_mk pe_mt pe_mt0)
section
variable {C : Addr} {H H' : Hp} {r : RA} {n : Nat} {nb : Nat → List Nat} {nl : List Int} {m m' : Rm.M}
theorem cont_ne {i j : Nat} (hj : j < 6) (hi : j ≠ i) (e1 : i ≠ 1 → m'.wave = m.wave) (e2 : i ≠ 2 → m'.par = m.par) (e3 : i ≠ 3 → m'.lack = m.lack) (e4 : i ≠ 4 → m'.chief = m.chief) (e5 : i ≠ 5 → m'.beg = m.beg) : cont n r m' j = cont n r m j := by
  match j, hj with
  | 0, _ => rfl
  | 1, _ => simp only [cont]; rw [e1 fun q => hi q.symm]
  | 2, _ => simp only [cont]; rw [e2 fun q => hi q.symm]
  | 3, _ => simp only [cont]; rw [e3 fun q => hi q.symm]
  | 4, _ => simp only [cont]; rw [e4 fun q => hi q.symm]
  | 5, _ => simp only [cont]; rw [e5 fun q => hi q.symm]
theorem RunAt.set_wave (R : RunAt C H r n nb nl m) {h : Nat} (hh : h < n) (v : Int) : RunAt C (upd H (r.l 1) (.lst ((cont n r m 1).set h (.int v)))) r n nb nl { m with wave := Rm.fset m.wave h (some v) } ∧ Stp r r H (upd H (r.l 1) (.lst ((cont n r m 1).set h (.int v)))) :=
  R.setl (m' := { m with wave := Rm.fset m.wave h (some v) }) (by decide) (by decide) (rg_set (f := m.wave) (F := oV) (x := some v) hh).symm (fun j hj hn => cont_ne hj hn (fun q => absurd rfl q) (fun _ => rfl) (fun _ => rfl) (fun _ => rfl) (fun _ => rfl)) rfl rfl
theorem RunAt.set_par (R : RunAt C H r n nb nl m) {h : Nat} (hh : h < n) (p : Option Nat) : RunAt C (upd H (r.l 2) (.lst ((cont n r m 2).set h (oN p)))) r n nb nl { m with par := Rm.fset m.par h p } ∧ Stp r r H (upd H (r.l 2) (.lst ((cont n r m 2).set h (oN p)))) :=
  R.setl (m' := { m with par := Rm.fset m.par h p }) (by decide) (by decide) (rg_set (f := m.par) (F := oN) (x := p) hh).symm (fun j hj hn => cont_ne hj hn (fun _ => rfl) (fun q => absurd rfl q) (fun _ => rfl) (fun _ => rfl) (fun _ => rfl)) rfl rfl
theorem RunAt.set_lack (R : RunAt C H r n nb nl m) {h : Nat} (hh : h < n) (v : Int) : RunAt C (upd H (r.l 3) (.lst ((cont n r m 3).set h (.int v)))) r n nb nl { m with lack := Rm.fset m.lack h v } ∧ Stp r r H (upd H (r.l 3) (.lst ((cont n r m 3).set h (.int v)))) :=
  R.setl (m' := { m with lack := Rm.fset m.lack h v }) (by decide) (by decide) (rg_set (f := m.lack) (F := V.int) (x := v) hh).symm (fun j hj hn => cont_ne hj hn (fun _ => rfl) (fun _ => rfl) (fun q => absurd rfl q) (fun _ => rfl) (fun _ => rfl)) rfl rfl
theorem RunAt.set_chief (R : RunAt C H r n nb nl m) {h : Nat} (hh : h < n) (v : Int) : RunAt C (upd H (r.l 4) (.lst ((cont n r m 4).set h (.int v)))) r n nb nl { m with chief := Rm.fset m.chief h (some v) } ∧ Stp r r H (upd H (r.l 4) (.lst ((cont n r m 4).set h (.int v)))) :=
  R.setl (m' := { m with chief := Rm.fset m.chief h (some v) }) (by decide) (by decide) (rg_set (f := m.chief) (F := oV) (x := some v) hh).symm (fun j hj hn => cont_ne hj hn (fun _ => rfl) (fun _ => rfl) (fun _ => rfl) (fun q => absurd rfl q) (fun _ => rfl)) rfl rfl
theorem RunAt.set_beg (R : RunAt C H r n nb nl m) (h : Nat) : RunAt C (upd H (r.l 5) (.lst (vI m.beg ++ [.int (h : Int)]))) r n nb nl { m with beg := m.beg ++ [h] } ∧ Stp r r H (upd H (r.l 5) (.lst (vI m.beg ++ [.int (h : Int)]))) :=
  R.setl (m' := { m with beg := m.beg ++ [h] }) (by decide) (by decide) (vI_app m.beg [h]) (fun j hj hn => cont_ne hj hn (fun _ => rfl) (fun _ => rfl) (fun _ => rfl) (fun _ => rfl) (fun q => absurd rfl q)) rfl rfl
theorem cont_len {i : Nat} (h : i = 1 ∨ i = 2 ∨ i = 3 ∨ i = 4) : (cont n r m i).length = n := by
  rcases h with rfl | rfl | rfl | rfl <;> simp [cont]
theorem ixC {i h : Nat} (hi : i = 1 ∨ i = 2 ∨ i = 3 ∨ i = 4) (hh : h < n) : ixN (cont n r m i).length (h : Int) = some h := by rw [cont_len hi]; exact ix_nat hh
end
theorem Gives.step {C : Addr} {H H1 : Hp} {r r1 : RA} {n : Nat} {nb : Nat → List Nat} {nl : List Int} {m : Rm.M} {Q : VK} (g : Gives C H r n nb nl m Q) (s : Stp r r1 H H1) : Gives C H1 r1 n nb nl m Q := fun H' r' R S => g H' r' R (s.trans S)
theorem spTell.of {C : Addr} {H : Hp} {r : RA} {n : Nat} {nb : Nat → List Nat} {nl : List Int} {m : Rm.M} {h : Nat} {a t : Addr} {os : List Nat} {l : Rm.Let} {Q : VK} {vs : List V} (e : vs = [.ref r.p, .int (h : Int), .ref a, .ref t]) (R : RunAt C H r n nb nl m)
    (ha : H a = some (.lst (vI os))) (hn : ¬ Own r a) (ht : H t = some (.tup [.str (word l.1), .int l.2])) (hb : m.told + os.length ≤ 10000) (k : Gives C H r n nb nl (Rm.tellTo m h os l) Q) : spTell C vs H Q C8.E0 := ⟨r, n, nb, nl, m, h, a, t, os, l, e, R, ha, hn, ht, hb, k⟩
def spLearn (C : Addr) : Sp := fun vs H Q _ => ∃ (r : RA) (n : Nat) (nb : Nat → List Nat) (nl : List Int) (m : Rm.M) (h : Nat) (o : Option Nat) (c : Int), vs = [.ref r.p, .int (h : Int), oN o, .int c] ∧ RunAt C H r n nb nl m ∧ h < n ∧ Small n nb ∧ m.told + 16 ≤ 10000 ∧
  Gives C H r n nb nl (Rm.learn nb m h o c) Q
def spEnd (C : Addr) : Sp := fun vs H Q _ => ∃ (r : RA) (n : Nat) (nb : Nat → List Nat) (nl : List Int) (m : Rm.M) (h : Nat), vs = [.ref r.p, .int (h : Int)] ∧ RunAt C H r n nb nl m ∧ h < n ∧ Small n nb ∧ m.told + 16 ≤ 10000 ∧ (∃ v, m.wave h = some v) ∧
  Gives C H r n nb nl (Rm.endWave nb m h) Q
def spTake (C : Addr) : Sp := fun vs H Q _ => ∃ (r : RA) (n : Nat) (nb : Nat → List Nat) (nl : List Int) (m : Rm.M) (h : Nat) (o : Option Nat) (v : Int), vs = [.ref r.p, .int (h : Int), oN o, .int v] ∧ RunAt C H r n nb nl m ∧ h < n ∧ Small n nb ∧ m.told + 32 ≤ 10000 ∧
  Gives C H r n nb nl (Rm.takeWave nb m h o v) Q
section
variable {P : Program} {w : World} {K : PySem.W.Frag} {mg : Str → Option Value} {base : Heap} {C CB CL f : Addr} {fd : FuncData}
theorem ok_learn (F : DefAt K "learn" "WebRun.learn" s_learn f fd) (T : Txt K mg C CB CL) (c_all_but : C8.Met P w K mg base 1 C "all_but" (spAll C) []) (c_tell_to : C8.Met P w K mg base 1 C "tell_to" (spTell C) []) : FnOk P w K mg base CX0 2 f fd ["self", "house", "other", "name"] (spLearn C) := by
  refine okN F sc_learn (fun vs H Q E h => ?_) (fun cdv A outer s H vs Q E hr h => ?_)
  · obtain ⟨r, n, nb, nl, m, h, o, c, rfl, _⟩ := h
    rfl
  · obtain ⟨r, n, nb, nl, m, h, o, c, rfl, R, hh, sm, tl, k⟩ := h
    obtain ⟨dx, ob⟩ := R.ob
    refine ⟨_, (pss_one (ps_if (pt_cmpR op_isN (pe_ix ix_list (pe_fld (pv 0) rfl) (pv 1) (fun _ _ => rfl)) pe_non (nomark _)) (pss_cons (ps_asg (pv 3) (pg_sub (pe_fld (pv 0) rfl) (pv 1) set_list))
    (pss_one (ps_expr (pe_mt c_tell_to hr (by decide) (pv 0) (pa_cons (pv 1) (pa_cons (pe_mt c_all_but hr (by decide) (pv 0) (pa_cons (pv 1) (pa_cons (pv 2) pa_nil))) (pa_cons (pe_tup (pa_cons pe_str (pa_cons (pv 3) pa_nil))) pa_nil))))))) pss_nil)), ?_⟩
    refine ⟨_, rfl, _, _, _, _, _, rfl, ob, T.cl, T.n_ch, f_ch _ _, _, rfl, _, _, _, _, rfl, rfl, SqL.of (R.ls 4 (by decide)), at_nat (rg_get hh), rfl, _, rfl, ?_⟩
    cases hc : m.chief h with
    | some d =>
      have e : Rm.learn nb m h o c = m := by unfold Rm.learn; rw [hc]
      rw [e] at k
      exact k H r R (Stp.refl _ _)
    | none =>
      have e : Rm.learn nb m h o c = Rm.tellTo { m with chief := Rm.fset m.chief h (some c) } h (Rm.allBut nb h o) (true, c) := by unfold Rm.learn; rw [hc]
      rw [e] at k
      refine ⟨_, rfl, _, rfl, _, _, _, _, _, rfl, ob, T.cl, T.n_ch, f_ch _ _, _, rfl, _, _, _, _, rfl, rfl, R.ls 4 (by decide), ixC (by decide) hh, ?_⟩
      obtain ⟨R1, S1⟩ := R.set_chief hh c
      obtain ⟨dx1, ob1⟩ := R1.ob
      refine ⟨_, rfl, _, _, _, rfl, ob1, f_no _ _ (by decide +kernel), _, rfl, ?_⟩
      refine ⟨_, rfl, _, _, _, rfl, ob1, f_no _ _ (by decide +kernel), _, rfl, _, rfl, r, n, nb, nl, _, h, o, rfl, R1, hh, sm, fun a H2 s2 ha1 ha => ?_⟩
      refine ⟨_, rfl, two_ok, fun t ht => ?_⟩
      have s3 := same_upd (o := .tup [.str "chief", .int c]) s2 (s2.free ht)
      refine spTell.of (os := Rm.allBut nb h o) (l := (true, c)) rfl (R1.same s3) ?_ (R1.not_own ha1) upd_same ?_ (k.step (S1.trans (Stp.same s3)))
      · rw [upd_ne (ne_of_none ha ht)]; exact ha
      · have := Rm.allBut_len (nb := nb) h o
        have := sm h hh
        show m.told + _ ≤ 10000
        omega
theorem ok_end_wave (F : DefAt K "end_wave" "WebRun.end_wave" s_end_wave f fd) (T : Txt K mg C CB CL) (c_learn : C8.Met P w K mg base 2 C "learn" (spLearn C) []) (c_tell_to : C8.Met P w K mg base 1 C "tell_to" (spTell C) []) : FnOk P w K mg base CX0 3 f fd ["self", "house"] (spEnd C) := by
  refine okN F sc_end_wave (fun vs H Q E h => ?_) (fun cdv A outer s H vs Q E hr h => ?_)
  · obtain ⟨r, n, nb, nl, m, h, rfl, _⟩ := h
    rfl
  · obtain ⟨r, n, nb, nl, m, h, rfl, R, hh, sm, tl, ⟨v, hv⟩, k⟩ := h
    obtain ⟨dx, ob⟩ := R.ob
    have w1 : atI (cont n r m 1) (h : Int) = some (.int v) := at_nat (by rw [show cont n r m 1 = (List.range n).map fun h => oV (m.wave h) from rfl, rg_get hh, hv]; rfl)
    refine ⟨_, (pss_cons (ps_if (pt_cmpR op_gt (pe_ix ix_list (pe_fld (pv 0) rfl) (pv 1) (fun _ _ => rfl)) pe_int (nomark _)) (pss_one ps_retN) pss_nil)
    (pss_one (ps_if (pt_cmpR op_notN (pe_ix ix_list (pe_fld (pv 0) rfl) (pv 1) (fun _ _ => rfl)) pe_non (nomark _)) (pss_one (ps_expr (pe_mt c_tell_to hr (by decide) (pv 0) (pa_cons (pv 1) (pa_cons (pe_lst (pa_cons (pe_ix ix_list (pe_fld (pv 0) rfl) (pv 1) (fun _ _ => rfl)) pa_nil)) (pa_cons (pe_tup (pa_cons pe_str (pa_cons (pe_ix ix_list (pe_fld (pv 0) rfl) (pv 1) (fun _ _ => rfl)) pa_nil))) pa_nil)))))) (pss_one (ps_expr (pe_mt c_learn hr (by decide) (pv 0) (pa_cons (pv 1) (pa_cons pe_non (pa_cons (pe_ix ix_list (pe_fld (pv 0) rfl) (pv 1) (fun _ _ => rfl)) pa_nil))))))))), ?_⟩
    refine ⟨_, rfl, _, _, _, _, _, rfl, ob, T.cl, T.n_lk, f_lk _ _, _, rfl, _, _, _, _, rfl, rfl, SqL.of (R.ls 3 (by decide)), at_nat (rg_get hh), _, _, rfl, rfl, _, rfl, ?_⟩
    refine ite2 (fun c => ?_) (fun c => ?_)
    · have e : Rm.endWave nb m h = m := by unfold Rm.endWave; rw [if_pos (by simpa using c)]
      rw [e] at k
      exact k H r R (Stp.refl _ _)
    · have c' : ¬ 0 < m.lack h := by simpa using c
      refine ⟨_, rfl, _, _, _, _, _, rfl, ob, T.cl, T.n_pa, f_pa _ _, _, rfl, _, _, _, _, rfl, rfl, SqL.of (R.ls 2 (by decide)), at_nat (rg_get hh), rfl, _, rfl, ?_⟩
      cases hp : m.par h with
      | none =>
        have e : Rm.endWave nb m h = Rm.learn nb m h none v := by unfold Rm.endWave; rw [if_neg c', hp, hv]; rfl
        rw [e] at k
        refine ⟨_, rfl, _, _, _, rfl, ob, f_no _ _ (by decide +kernel), _, rfl, ?_⟩
        exact ⟨_, rfl, _, _, _, _, _, rfl, ob, T.cl, T.n_wv, f_wv _ _, _, rfl, _, _, _, _, rfl, rfl, SqL.of (R.ls 1 (by decide)), w1, r, n, nb, nl, m, h, none, v, rfl, R, hh, sm, tl, k⟩
      | some p =>
        have e : Rm.endWave nb m h = Rm.tellTo m h [p] (false, v) := by unfold Rm.endWave; rw [if_neg c', hp, hv]; rfl
        rw [e] at k
        have p1 : atI (cont n r m 2) (h : Int) = some (.int (p : Int)) := at_nat (by rw [show cont n r m 2 = (List.range n).map fun h => oN (m.par h) from rfl, rg_get hh, hp]; rfl)
        refine ⟨_, rfl, _, _, _, rfl, ob, f_no _ _ (by decide +kernel), _, rfl, ?_⟩
        refine ⟨_, rfl, _, _, _, _, _, rfl, ob, T.cl, T.n_pa, f_pa _ _, _, rfl, _, _, _, _, rfl, rfl, SqL.of (R.ls 2 (by decide)), p1, one_ok, fun a ha => ?_⟩
        have s1 := same_new (o := .lst [.int (p : Int)]) ha
        have ob1 := s1 _ _ ob
        refine ⟨_, rfl, _, _, _, _, _, rfl, ob1, T.cl, T.n_wv, f_wv _ _, _, rfl, _, _, _, _, rfl, rfl, SqL.of (s1 _ _ (R.ls 1 (by decide))), w1, two_ok, fun t ht => ?_⟩
        have s2 := same_upd (o := .tup [.str "wave", .int v]) s1 (s1.free ht)
        refine spTell.of (os := [p]) (l := (false, v)) rfl (R.same s2) ?_ (R.not_own ha) upd_same (by show m.told + 1 ≤ 10000; omega) (k.step (Stp.same s2))
        rw [upd_ne (ne_of_none upd_same ht)]; exact upd_same
theorem ok_take_wave (F : DefAt K "take_wave" "WebRun.take_wave" s_take_wave f fd) (T : Txt K mg C CB CL) (c_all_but : C8.Met P w K mg base 1 C "all_but" (spAll C) []) (c_tell_to : C8.Met P w K mg base 1 C "tell_to" (spTell C) []) (c_end_wave : C8.Met P w K mg base 3 C "end_wave" (spEnd C) []) :
    FnOk P w K mg base CX0 4 f fd ["self", "house", "parent", "name"] (spTake C) := by
  refine okN F sc_take_wave (fun vs H Q E h => ?_) (fun cdv A outer s H vs Q E hr h => ?_)
  · obtain ⟨r, n, nb, nl, m, h, o, v, rfl, _⟩ := h
    rfl
  · obtain ⟨r, n, nb, nl, m, h, o, v, rfl, R, hh, sm, tl, k⟩ := h
    obtain ⟨dx, ob⟩ := R.ob
    refine ⟨_, (pss_cons (ps_set (i := 4) sc_take_wave.nd rfl (Or.inl rfl) (pe_mt c_all_but hr (by decide) (pv 0) (pa_cons (pv 1) (pa_cons (pv 2) pa_nil))))
    (pss_cons (ps_asg (pv 3) (pg_sub (pe_fld (pv 0) rfl) (pv 1) set_list))
    (pss_cons (ps_asg (pv 2) (pg_sub (pe_fld (pv 0) rfl) (pv 1) set_list))
    (pss_cons (ps_asg (pe_callB call_len_seq (by rfl) T.b_len (by decide +kernel) (pa_cons (pv 4) pa_nil)) (pg_sub (pe_fld (pv 0) rfl) (pv 1) set_list))
    (pss_cons (ps_expr (pe_mt c_tell_to hr (by decide) (pv 0) (pa_cons (pv 1) (pa_cons (pv 4) (pa_cons (pe_tup (pa_cons pe_str (pa_cons (pv 3) pa_nil))) pa_nil)))))
    (pss_one (ps_expr (pe_mt c_end_wave hr (by decide) (pv 0) (pa_cons (pv 1) pa_nil))))))))), ?_⟩
    refine ⟨_, rfl, _, _, _, rfl, ob, f_no _ _ (by decide +kernel), _, rfl, _, rfl, r, n, nb, nl, _, h, o, rfl, R, hh, sm, fun a H1 s1 ha1 ha => ?_⟩
    have R1 := R.same s1
    have S1 := Stp.same (r := r) s1
    have na := R.not_own ha1
    obtain ⟨dx1, ob1⟩ := R1.ob
    refine ⟨_, rfl, _, rfl, _, _, _, _, _, rfl, ob1, T.cl, T.n_wv, f_wv _ _, _, rfl, _, _, _, _, rfl, rfl, R1.ls 1 (by decide), ixC (by decide) hh, ?_⟩
    obtain ⟨R2, S2⟩ := R1.set_wave hh v
    obtain ⟨dx2, ob2⟩ := R2.ob
    refine ⟨_, rfl, _, rfl, _, _, _, _, _, rfl, ob2, T.cl, T.n_pa, f_pa _ _, _, rfl, _, _, _, _, rfl, rfl, R2.ls 2 (by decide), ixC (by decide) hh, ?_⟩
    obtain ⟨R3, S3⟩ := R2.set_par hh o
    obtain ⟨dx3, ob3⟩ := R3.ob
    have ha3 := S3.keep _ _ (S2.keep _ _ ha na) na
    refine ⟨_, rfl, _, _, rfl, .inl (SqL.of ha3), _, rfl, _, _, _, _, _, rfl, ob3, T.cl, T.n_lk, f_lk _ _, _, rfl, _, _, _, _, rfl, rfl, R3.ls 3 (by decide), ixC (by decide) hh, ?_⟩
    rw [vI_len]
    obtain ⟨R4, S4⟩ := R3.set_lack hh ((Rm.allBut nb h o).length : Int)
    obtain ⟨dx4, ob4⟩ := R4.ob
    have ha4 := S4.keep _ _ ha3 na
    have S14 := S1.trans (S2.trans (S3.trans S4))
    have al := Rm.allBut_len (nb := nb) h o
    have sh := sm h hh
    refine ⟨_, rfl, _, _, _, rfl, ob4, f_no _ _ (by decide +kernel), _, rfl, _, rfl, _, rfl, two_ok, fun t ht => ?_⟩
    have s5 := same_new (o := .tup [.str "wave", .int v]) ht
    refine spTell.of (os := Rm.allBut nb h o) (l := (false, v)) rfl (R4.same s5) (s5 _ _ ha4) na upd_same (by show m.told + _ ≤ 10000; omega) ?_
    intro H6 r6 R6 S6
    have S16 := S14.trans ((Stp.same s5).trans S6)
    obtain ⟨dx6, ob6⟩ := R6.ob
    have pe : r6.p = r.p := S16.p
    rw [pe] at ob6
    refine ⟨_, rfl, _, _, _, rfl, ob6, f_no _ _ (by decide +kernel), _, rfl, r6, n, nb, nl, _, h, by rw [pe]; rfl, R6, hh, sm, ?_, ⟨v, ?_⟩, ?_⟩
    · rw [(Rm.tellTo_fields _ _ _ _).2.2.2.2.2]
      show m.told + _ + 16 ≤ 10000
      omega
    · rw [(Rm.tellTo_fields _ _ _ _).1]
      exact Rm.fset_same
    · exact k.step S16
end
end Rc
set_option Elab.async false
set_option linter.all false
set_option maxRecDepth 100000
set_option maxHeartbeats 4000000
namespace Rc
open PySem PySem.Spec PyProof.Rows L2 RcN
open C8 (pe_c pe_mk pe_mt pe_mt0)
abbrev nmOf (nl : List Int) : Nat → Int := fun i => nl.getD i 0
theorem seq0 {α : Type} {x : α} {xs : List α} : seqIndex? 0 (x :: xs).length = some 0 := by
  unfold seqIndex?
  simp
theorem w_f : decide (V.str (word false) = V.str "chief") = false := by decide +kernel
def spBegin (C CB CL : Addr) : Sp := fun vs H Q E => ∃ (r : RA) (n : Nat) (nb : Nat → List Nat) (nl : List Int) (m : Rm.M) (h : Nat), vs = [.ref r.p, .int (h : Int)] ∧ RunAt C H r n nb nl m ∧ h < n ∧ Small n nb ∧ m.told + 32 ≤ 10000 ∧ m.beg.length ≤ 10000 ∧
  (h ∈ m.beg → E (.ref CB) none H) ∧ (h ∉ m.beg → m.wave h ≠ none → E (.ref CL) none H) ∧ (h ∉ m.beg → m.wave h = none → Gives C H r n nb nl (Rm.begin1 nb (nmOf nl) m h) Q)
def spCome (C : Addr) : Sp := fun vs H Q _ => ∃ (r : RA) (n : Nat) (nb : Nat → List Nat) (nl : List Int) (m : Rm.M) (h o : Nat), vs = [.ref r.p, .int (h : Int), .int (o : Int)] ∧ RunAt C H r n nb nl m ∧ h < n ∧ o < n ∧ o ∈ nb h ∧ Small n nb ∧ m.told + 32 ≤ 10000 ∧ m.rd h o ≠ [] ∧
  Gives C H r n nb nl (Rm.come nb m h o) Q
section
variable {P : Program} {w : World} {K : PySem.W.Frag} {mg : Str → Option Value} {base : Heap} {C CB CL f : Addr} {fd : FuncData}
theorem ok_begin (F : DefAt K "begin" "WebRun.begin" s_begin f fd) (T : Txt K mg C CB CL) (c_ask_house : C8.Met P w K mg base 2 C "ask_house" (spAskH C) []) (c_take_wave : C8.Met P w K mg base 4 C "take_wave" (spTake C) []) :
    FnOk P w K mg base (L2.CX P w) 5 f fd ["self", "house"] (spBegin C CB CL) := by
  refine FunD.ok (CX := L2.CX P w) F sc_begin (fun vs H Q E h => ?_) (fun cdv A outer s H vs Q E hr h => ?_)
  · obtain ⟨r, n, nb, nl, m, h, rfl, _⟩ := h
    rfl
  · obtain ⟨r, n, nb, nl, m, h, rfl, R, hh, sm, tl, bl, e1, e2, k⟩ := h
    obtain ⟨dx, ob⟩ := R.ob
    refine ⟨_, (pss_cons (ps_expr (pe_mt c_ask_house hr (by decide) (pv 0) (pa_cons (pv 1) pa_nil)))
    (pss_cons (ps_if (pt_cmpR op_in_seq (pv 1) (pe_fld (pv 0) rfl) (by rfl)) (pss_one (ps_raise rfl (takes_of rfl rfl rfl rfl) (pmk_own PySem.F.excBase_ValueError T.xB.1 T.gB T.xB.2.1 (raises_own T.xB.2.2.1 T.xB.2.2.2) (by exact rfl)))) pss_nil)
    (pss_cons (ps_if (pt_cmpR op_notN (pe_ix ix_list (pe_fld (pv 0) rfl) (pv 1) (fun _ _ => rfl)) pe_non (nomark _)) (pss_one (ps_raise rfl (takes_of rfl rfl rfl rfl) (pmk_own PySem.F.excBase_ValueError T.xL.1 T.gL T.xL.2.1 (raises_own T.xL.2.2.1 T.xL.2.2.2) (by exact rfl)))) pss_nil)
    (pss_cons (ps_expr (pe_bm PySem.F.plainAttrs_list PySem.F.slot_list_append PySem.F.type_list_append mt_append (pe_fld (pv 0) rfl) (pa_cons (pv 1) pa_nil)))
    (pss_one (ps_expr (pe_mt c_take_wave hr (by decide) (pv 0) (pa_cons (pv 1) (pa_cons pe_non (pa_cons (pe_ix ix_tup (pe_fld (pv 0) rfl) (pv 1) (fun _ _ => rfl)) pa_nil)))))))))), ?_⟩
    refine ⟨_, rfl, _, _, _, rfl, ob, f_no _ _ (by decide +kernel), _, rfl, r, n, nb, nl, m, h, rfl, R, hh, ?_⟩
    refine ⟨_, rfl, _, rfl, _, _, _, _, _, rfl, ob, T.cl, T.n_bg, f_bg _ _, _, _, rfl, .inl (SqL.of (R.ls 5 (by decide))), rfl, vI_flat _, _, rfl, ?_⟩
    have ei : inV (V.int (h : Int)) (cont n r m 5) = decide (h ∈ m.beg) := vI_in m.beg h
    rw [if_neg (by decide), ei]
    refine ite2 (fun c => e1 (by simpa using c)) (fun c => ?_)
    have c1 : h ∉ m.beg := by simpa using c
    refine ⟨_, rfl, _, _, _, _, _, rfl, ob, T.cl, T.n_wv, f_wv _ _, _, rfl, _, _, _, _, rfl, rfl, SqL.of (R.ls 1 (by decide)), at_nat (rg_get hh), rfl, _, rfl, ?_⟩
    cases hw : m.wave h with
    | some v => exact e2 c1 (by rw [hw]; exact fun z => nomatch z)
    | none =>
      have k := k c1 hw
      refine ⟨_, rfl, _, _, _, _, _, rfl, ob, T.cl, T.n_bg, f_bg _ _, .inl ⟨rfl, _, SqL.of (R.ls 5 (by decide))⟩, _, rfl, _, _, _, rfl, rfl, R.ls 5 (by decide), ?_, ?_⟩
      · show (vI m.beg).length < _
        rw [vI_len]
        exact Nat.lt_of_le_of_lt bl (by decide)
      obtain ⟨R1, S1⟩ := R.set_beg h
      obtain ⟨dx1, ob1⟩ := R1.ob
      have nv : atI (nl.map V.int) (h : Int) = some (.int (nmOf nl h)) := at_nat (by
        rw [List.getElem?_map]
        have : nl[h]? = some (nl.getD h 0) := by
          have hl : h < nl.length := by rw [R.nl]; exact hh
          rw [List.getD_eq_getElem?_getD, List.getElem?_eq_getElem hl]; rfl
        rw [this]; rfl)
      refine ⟨_, rfl, _, _, _, rfl, ob1, f_no _ _ (by decide +kernel), _, rfl, ?_⟩
      exact ⟨_, rfl, _, _, _, _, _, rfl, ob1, T.cl, T.n_nm, f_nm _ _, _, rfl, _, _, _, _, rfl, rfl, R1.nmT, nv, r, n, nb, nl, _, h, none, nmOf nl h, rfl, R1, hh, sm, tl, k.step S1⟩
theorem ok_come (F : DefAt K "come" "WebRun.come" s_come f fd) (T : Txt K mg C CB CL) (c_ask_road : C8.Met P w K mg base 3 C "ask_road" (spAskR C) []) (c_learn : C8.Met P w K mg base 2 C "learn" (spLearn C) []) (c_end_wave : C8.Met P w K mg base 3 C "end_wave" (spEnd C) [])
    (c_take_wave : C8.Met P w K mg base 4 C "take_wave" (spTake C) []) : FnOk P w K mg base CX0 5 f fd ["self", "house", "other"] (spCome C) := by
  refine okN F sc_come (fun vs H Q E h => ?_) (fun cdv A outer s H vs Q E hr h => ?_)
  · obtain ⟨r, n, nb, nl, m, h, o, rfl, _⟩ := h
    rfl
  · obtain ⟨r, n, nb, nl, m, h, o, rfl, R, hh, ho, hn, sm, tl, ne, k⟩ := h
    obtain ⟨dx, ob⟩ := R.ob
    have hu := hu_of hr
    refine ⟨_, (pss_cons (ps_expr (pe_mt c_ask_road hr (by decide) (pv 0) (pa_cons (pv 1) (pa_cons (pv 2) pa_nil))))
    (pss_cons (ps_set (i := 3) sc_come.nd rfl (Or.inl rfl) (pe_dget2 hu (pe_fld (pv 0) rfl) (pe_tup (pa_cons (pv 1) (pa_cons (pv 2) pa_nil))) (pe_lst pa_nil) m2_any))
    (pss_cons (ps_if (pt_cmpR op_eq (pe_callB call_len_seq (by rfl) T.b_len (by decide +kernel) (pa_cons (pv 3) pa_nil)) pe_int (nomark _)) (pss_one ps_never) pss_nil)
    (pss_cons (ps_asg (pe_bm PySem.F.plainAttrs_list PySem.F.slot_list_pop PySem.F.type_list_pop mt_popAt (pv 3) (pa_cons pe_int pa_nil)) (pg_tup rfl (pgs_cons (pg_name (i := 4) sc_come.nd rfl (Or.inl rfl)) (pgs_cons (pg_name (i := 5) sc_come.nd rfl (Or.inl rfl)) pgs_nil))))
    (pss_one (ps_if (pt_cmpR op_eq (pv 4) pe_str (nomark _)) (pss_one (ps_expr (pe_mt c_learn hr (by decide) (pv 0) (pa_cons (pv 1) (pa_cons (pv 2) (pa_cons (pv 5) pa_nil)))))) (pss_one (ps_if (PW.pt (pw_or (pt_cmpR op_isN (pe_ix ix_list (pe_fld (pv 0) rfl) (pv 1) (fun _ _ => rfl)) pe_non (nomark _)) (pw_or1 (pt_cmpR op_gt (pv 5) (pe_ix ix_list (pe_fld (pv 0) rfl) (pv 1) (fun _ _ => rfl)) (nomark _))))) (pss_one (ps_expr (pe_mt c_take_wave hr (by decide) (pv 0) (pa_cons (pv 1) (pa_cons (pv 2) (pa_cons (pv 5) pa_nil)))))) (pss_one (ps_if (pt_cmpR op_eq (pv 5) (pe_ix ix_list (pe_fld (pv 0) rfl) (pv 1) (fun _ _ => rfl)) (nomark _)) (pss_cons (ps_augS (pe_fld (pv 0) rfl) (pv 1) get_list pe_int ip_sub set_list)
    (pss_one (ps_expr (pe_mt c_end_wave hr (by decide) (pv 0) (pa_cons (pv 1) pa_nil))))) pss_nil)))))))))), ?_⟩
    refine ⟨_, rfl, _, _, _, rfl, ob, f_no _ _ (by decide +kernel), _, rfl, _, rfl, r, n, nb, nl, m, h, o, rfl, R, hh, ho, hn, ?_⟩
    refine ⟨_, rfl, _, _, _, _, _, rfl, ob, T.cl, T.n_rd, f_rd _ _, _, rfl, .inr ⟨_, .of R.rd⟩, _, rfl, _, rfl, two_ok, fun t ht => ⟨nil_ok, fun z hz => ?_⟩⟩
    have s2 : Same H (upd (upd H t (.tup [.int (h : Int), .int (o : Int)])) z (.lst [])) := same_upd (same_new ht) (Same.free (same_new ht) hz)
    have R2 := R.same s2
    have tz : t ≠ z := fun e => by rw [e, upd_same] at hz; cases hz
    have kt : upd (upd H t (.tup [.int (h : Int), .int (o : Int)])) z (.lst []) t = some (.tup ((kPair (h, o)).map kV)) := by rw [upd_ne tz, upd_same]; rfl
    refine ⟨_, .t R2.rd kt, ?_⟩
    rcases R2.road h o with ⟨e, xs, h1, h2, h3, h4⟩ | ⟨_, h2⟩
    case inr => exact absurd h2 ne
    rw [h1]
    cases hm : m.rd h o with
    | nil => exact absurd hm ne
    | cons l rest =>
      rw [hm] at h4
      cases h4 with
      | cons hl hrest =>
        rename_i x xs'
        obtain ⟨lt, rfl, hlt⟩ := hl
        have ln : decide (V.int ((V.ref lt :: xs').length : Int) = V.int 0) = false := by
          rw [decide_eq_false_iff_not]
          intro q
          injection q with q
          simp only [List.length_cons] at q
          omega
        refine ⟨_, rfl, _, _, rfl, .inl (SqL.of h3), rfl, _, rfl, ?_⟩
        rw [ln]
        refine iteF ?_
        refine ⟨_, rfl, .inl ⟨rfl, _, SqL.of h3⟩, _, _, 0, 0, _, rfl, rfl, h3, by decide, by decide, seq0, rfl, ?_⟩
        obtain ⟨R3, S3⟩ := R2.popped h2 h3
        have S03 := (Stp.same (r := r) s2).trans S3
        have hlt3 := S3.tups _ _ rfl hlt
        obtain ⟨ch, v⟩ := l
        refine ⟨_, _, rfl, SqT.of hlt3, rfl, _, _, rfl, _, _, rfl, rfl, ?_⟩
        obtain ⟨dx3, ob3⟩ := R3.ob
        refine ⟨_, rfl, rfl, _, rfl, ?_⟩
        cases ch with
        | true =>
          refine ite2 (fun _ => ?_) (fun c => absurd (by simp [word]) c)
          have e : Rm.come nb m h o = Rm.learn nb (Rm.pop m h o) h (some o) v := by unfold Rm.come; rw [hm]; simp
          rw [e] at k
          exact ⟨_, rfl, _, _, _, rfl, ob3, f_no _ _ (by decide +kernel), _, rfl, _, rfl, _, rfl, r, n, nb, nl, _, h, some o, v, rfl, R3, hh, sm, by show m.told + 16 ≤ 10000; omega, k.step S03⟩
        | false =>
          refine ite2 (fun c => by have q : decide (V.str (word false) = V.str "chief") = true := c; rw [w_f] at q; cases q) (fun _ => ?_)
          refine ⟨_, rfl, _, _, _, _, _, rfl, ob3, T.cl, T.n_wv, f_wv _ _, _, rfl, _, _, _, _, rfl, rfl, SqL.of (R3.ls 1 (by decide)), at_nat (rg_get hh), rfl, _, rfl, ?_⟩
          have take : Rm.come nb m h o = Rm.takeWave nb (Rm.pop m h o) h (some o) v → spTake C [.ref r.p, .int (h : Int), oN (some o), .int v] (upd (upd (upd H t (.tup [.int (h : Int), .int (o : Int)])) z (.lst [])) e (.lst xs')) Q C8.E0 := fun e => by
            rw [e] at k
            exact ⟨r, n, nb, nl, _, h, some o, v, rfl, R3, hh, sm, by show m.told + 32 ≤ 10000; omega, k.step S03⟩
          cases hw : m.wave h with
          | none =>
            have hw' : (Rm.pop m h o).wave h = none := hw
            rw [hw']
            refine ⟨_, rfl, _, _, _, rfl, ob3, f_no _ _ (by decide +kernel), _, rfl, _, rfl, _, rfl, take ?_⟩
            unfold Rm.come; rw [hm]; simp [hw]
          | some w' =>
            have hw' : (Rm.pop m h o).wave h = some w' := hw
            rw [hw']
            have w1 : atI (cont n r (Rm.pop m h o) 1) (h : Int) = some (.int w') := at_nat (by rw [show cont n r (Rm.pop m h o) 1 = (List.range n).map fun h => oV ((Rm.pop m h o).wave h) from rfl]; exact (rg_get hh).trans (congrArg (fun q => some (oV q)) hw))
            refine ⟨_, rfl, _, rfl, _, _, _, _, _, rfl, ob3, T.cl, T.n_wv, f_wv _ _, _, rfl, _, _, _, _, rfl, rfl, SqL.of (R3.ls 1 (by decide)), w1, _, _, rfl, rfl, _, rfl, ?_⟩
            refine ite2 (fun c => ?_) (fun c => ?_)
            · have c' : w' < v := by simpa using c
              refine ⟨_, rfl, _, _, _, rfl, ob3, f_no _ _ (by decide +kernel), _, rfl, _, rfl, _, rfl, take ?_⟩
              unfold Rm.come; rw [hm]; simp [hw, c']
            · have c' : ¬ w' < v := by simpa using c
              refine ⟨_, rfl, _, rfl, _, _, _, _, _, rfl, ob3, T.cl, T.n_wv, f_wv _ _, _, rfl, _, _, _, _, rfl, rfl, SqL.of (R3.ls 1 (by decide)), w1, rfl, _, rfl, ?_⟩
              refine ite2 (fun d => ?_) (fun d => ?_)
              · have d' : v = w' := by simpa using d
                have e : Rm.come nb m h o = Rm.endWave nb (Rm.answer m h o) h := by unfold Rm.come; rw [hm]; simp [hw, d']
                rw [e] at k
                refine ⟨_, rfl, _, _, _, _, _, rfl, ob3, T.cl, T.n_lk, f_lk _ _, _, rfl, ?_⟩
                refine ⟨_, _, _, _, rfl, rfl, SqL.of (R3.ls 3 (by decide)), at_nat (rg_get hh), _, _, rfl, rfl, ?_⟩
                refine ⟨_, _, _, _, rfl, rfl, R3.ls 3 (by decide), ixC (by decide) hh, ?_⟩
                obtain ⟨R4, S4⟩ := R3.set_lack hh (m.lack h - 1)
                obtain ⟨dx4, ob4⟩ := R4.ob
                refine ⟨_, rfl, _, _, _, rfl, ob4, f_no _ _ (by decide +kernel), _, rfl, r, n, nb, nl, _, h, rfl, R4, hh, sm, by show m.told + 16 ≤ 10000; omega, ⟨w', hw⟩, k.step (S03.trans S4)⟩
              · have d' : ¬ v = w' := by simpa using d
                have e : Rm.come nb m h o = Rm.pop m h o := by unfold Rm.come; rw [hm]; simp [hw, c', d']
                rw [e] at k
                exact k _ r R3 S03
end
end Rc
set_option Elab.async false
set_option linter.all false
set_option maxRecDepth 100000
set_option maxHeartbeats 4000000
namespace Rc
open PySem PySem.Spec PyProof.Rows L2 RcN
open C8 (pe_c pe_mk pe_mt pe_mt0)
theorem fp0 {v0 : V} : putF "web_names" v0 ([] : List (Str × V)) = ([("web_names", v0)] : List (Str × V)) := rfl
theorem fp1 {v0 v1 : V} : putF "joined_with" v1 ([("web_names", v0)] : List (Str × V)) = ([("web_names", v0), ("joined_with", v1)] : List (Str × V)) := (put_past (by decide +kernel)).trans (congrArg _ (rfl))
theorem fp2 {v0 v1 v2 : V} : putF "waves" v2 ([("web_names", v0), ("joined_with", v1)] : List (Str × V)) = ([("web_names", v0), ("joined_with", v1), ("waves", v2)] : List (Str × V)) := (put_past (by decide +kernel)).trans (congrArg _ ((put_past (by decide +kernel)).trans (congrArg _ (rfl))))
theorem fp3 {v0 v1 v2 v3 : V} : putF "parents" v3 ([("web_names", v0), ("joined_with", v1), ("waves", v2)] : List (Str × V)) = ([("web_names", v0), ("joined_with", v1), ("waves", v2), ("parents", v3)] : List (Str × V)) := (put_past (by decide +kernel)).trans (congrArg _ ((put_past (by decide +kernel)).trans (congrArg _ ((put_past (by decide +kernel)).trans (congrArg _ (rfl))))))
theorem fp4 {v0 v1 v2 v3 v4 : V} : putF "lacking" v4 ([("web_names", v0), ("joined_with", v1), ("waves", v2), ("parents", v3)] : List (Str × V)) = ([("web_names", v0), ("joined_with", v1), ("waves", v2), ("parents", v3), ("lacking", v4)] : List (Str × V)) := (put_past (by decide +kernel)).trans (congrArg _ ((put_past (by decide +kernel)).trans (congrArg _ ((put_past (by decide +kernel)).trans (congrArg _ ((put_past (by decide +kernel)).trans (congrArg _ (rfl))))))))
theorem fp5 {v0 v1 v2 v3 v4 v5 : V} : putF "chief_known" v5 ([("web_names", v0), ("joined_with", v1), ("waves", v2), ("parents", v3), ("lacking", v4)] : List (Str × V)) = ([("web_names", v0), ("joined_with", v1), ("waves", v2), ("parents", v3), ("lacking", v4), ("chief_known", v5)] : List (Str × V)) := (put_past (by decide +kernel)).trans (congrArg _ ((put_past (by decide +kernel)).trans (congrArg _ ((put_past (by decide +kernel)).trans (congrArg _ ((put_past (by decide +kernel)).trans (congrArg _ ((put_past (by decide +kernel)).trans (congrArg _ (rfl))))))))))
theorem fp6 {v0 v1 v2 v3 v4 v5 v6 : V} : putF "beginners" v6 ([("web_names", v0), ("joined_with", v1), ("waves", v2), ("parents", v3), ("lacking", v4), ("chief_known", v5)] : List (Str × V)) = ([("web_names", v0), ("joined_with", v1), ("waves", v2), ("parents", v3), ("lacking", v4), ("chief_known", v5), ("beginners", v6)] : List (Str × V)) := (put_past (by decide +kernel)).trans (congrArg _ ((put_past (by decide +kernel)).trans (congrArg _ ((put_past (by decide +kernel)).trans (congrArg _ ((put_past (by decide +kernel)).trans (congrArg _ ((put_past (by decide +kernel)).trans (congrArg _ ((put_past (by decide +kernel)).trans (congrArg _ (rfl))))))))))))
theorem fp7 {v0 v1 v2 v3 v4 v5 v6 v7 : V} : putF "web_roads" v7 ([("web_names", v0), ("joined_with", v1), ("waves", v2), ("parents", v3), ("lacking", v4), ("chief_known", v5), ("beginners", v6)] : List (Str × V)) = ([("web_names", v0), ("joined_with", v1), ("waves", v2), ("parents", v3), ("lacking", v4), ("chief_known", v5), ("beginners", v6), ("web_roads", v7)] : List (Str × V)) := (put_past (by decide +kernel)).trans (congrArg _ ((put_past (by decide +kernel)).trans (congrArg _ ((put_past (by decide +kernel)).trans (congrArg _ ((put_past (by decide +kernel)).trans (congrArg _ ((put_past (by decide +kernel)).trans (congrArg _ ((put_past (by decide +kernel)).trans (congrArg _ ((put_past (by decide +kernel)).trans (congrArg _ (rfl))))))))))))))
theorem fp8 {v0 v1 v2 v3 v4 v5 v6 v7 v8 : V} : putF "letters_told" v8 ([("web_names", v0), ("joined_with", v1), ("waves", v2), ("parents", v3), ("lacking", v4), ("chief_known", v5), ("beginners", v6), ("web_roads", v7)] : List (Str × V)) = ([("web_names", v0), ("joined_with", v1), ("waves", v2), ("parents", v3), ("lacking", v4), ("chief_known", v5), ("beginners", v6), ("web_roads", v7), ("letters_told", v8)] : List (Str × V)) := (put_past (by decide +kernel)).trans (congrArg _ ((put_past (by decide +kernel)).trans (congrArg _ ((put_past (by decide +kernel)).trans (congrArg _ ((put_past (by decide +kernel)).trans (congrArg _ ((put_past (by decide +kernel)).trans (congrArg _ ((put_past (by decide +kernel)).trans (congrArg _ ((put_past (by decide +kernel)).trans (congrArg _ ((put_past (by decide +kernel)).trans (congrArg _ (rfl))))))))))))))))
/-- all but x stands -/
def KeepX (x : Addr) (H H' : Hp) : Prop := ∀ b o, H b = some o → b ≠ x → H' b = some o
theorem KeepX.trans {x : Addr} {H H1 H2 : Hp} (a : KeepX x H H1) (b : KeepX x H1 H2) : KeepX x H H2 := fun c o h n => b c o (a c o h n) n
theorem KeepX.same {x : Addr} {H H1 : Hp} (a : Same H H1) : KeepX x H H1 := fun c o h _ => a c o h
theorem KeepX.put {x : Addr} {H : Hp} {o : HO} : KeepX x H (upd H x o) := fun c u h n => by rw [upd_ne n]; exact h
theorem KeepX.free {x : Addr} {H H1 : Hp} (a : KeepX x H H1) {b : Addr} (n : b ≠ x) (h : H1 b = none) : H b = none := by
  cases e : H b with
  | none => rfl
  | some o => rw [a b o e n] at h; cases h
theorem rep_eq {n : Nat} {v : V} : (List.replicate (n : Int).toNat [v]).flatten = (List.range n).map fun _ => v := by
  rw [Int.toNat_natCast]
  induction n with
  | zero => rfl
  | succ n ih =>
    rw [List.replicate_succ', List.flatten_append, ih, List.range_succ, List.map_append]
    simp
theorem keepU {H : Hp} {p : Addr} {o : HO} (h : H p = none) {b : Addr} {u : HO} (e : H b = some u) : upd H p o b = some u := by
  rw [upd_ne (ne_of_none e h)]; exact e
theorem st0 {C dx x l : Addr} {H G : Hp} {fs : List (Str × V)} {o o3 : HO} (hx : H x = some (.ins C dx fs)) (hl : H l = none) (e : G = upd (upd H l o) x o3) : KeepX x H G ∧ G l = some o ∧ G x = some o3 := by
  subst e
  have n : l ≠ x := (ne_of_none hx hl).symm
  exact ⟨fun b u h nb => by rw [upd_ne nb]; exact keepU hl h, by rw [upd_ne n, upd_same], upd_same⟩
theorem st1 {C dx x p l : Addr} {H G : Hp} {fs : List (Str × V)} {o1 o2 o3 : HO} (hx : H x = some (.ins C dx fs)) (hp : H p = none) (hl : upd H p o1 l = none) (e : G = upd (upd (upd H p o1) l o2) x o3) : KeepX x H G ∧ G l = some o2 ∧ G x = some o3 ∧ H l = none := by
  obtain ⟨a, b, c⟩ := st0 (keepU hp hx) hl e
  exact ⟨(KeepX.same (same_new hp)).trans a, b, c, Same.free (same_new hp) hl⟩
theorem rep_ok {n : Nat} {v : V} (h : n ≤ 16) : [v].length * (n : Int).toNat ≤ sizeLine := by
  rw [Int.toNat_natCast]
  exact Nat.le_of_lt (small1000 (by show 1 * n ≤ 1000; omega))
def spInit (K : PySem.W.Frag) (C : Addr) : Sp := fun vs H Q _ => ∃ (x wb na li dx : Addr) (on : Obj) (nl : List Int) (xs : List V) (L : List (Nat × Nat)), vs = [.ref x, .ref wb] ∧ H x = some (.ins C dx []) ∧ H wb = some (.tup [.ref na, .ref li]) ∧ Pl on ∧ H na = some (.frz on (.tup (nl.map V.int))) ∧
  H li = some (.tup xs) ∧ PairsAt H xs L ∧ L.length ≤ 1000 ∧ nl.length ≤ 16 ∧ (∀ h, h < nl.length → (nbs L h).length < 64) ∧
  ∀ (H' : Hp) (r : RA) (nb : Nat → List Nat), (∀ h, h < nl.length → (nb h).Perm (nbs L h)) → r.p = x → RunAt C H' r nl.length nb nl Rm.init → KeepX x H H' → (∀ b, Own r b → b = x ∨ H b = none) → Q .non H'
section
variable {P : Program} {w : World} {K : PySem.W.Frag} {mg : Str → Option Value} {base : Heap} {C CB CL f : Addr} {fd : FuncData}
theorem ok_init (F : DefAt K "__init__" "WebRun.__init__" s_init f fd) (T : Txt K mg C CB CL) (c_neighbours : C8.Cal P w K mg base 1 "neighbours" (spNb K) []) : FnOk P w K mg base CX0 2 f fd ["self", "web"] (spInit K C) := by
  refine okN F sc_init (fun vs H Q E h => ?_) (fun cdv A outer s H vs Q E hr h => ?_)
  · obtain ⟨x, wb, na, li, dx, on, nl, xs, L, rfl, _⟩ := h
    rfl
  · obtain ⟨x, wb, na, li, dx, on, nl, xs, L, rfl, hx, hw, hpl, hna, hli, hP, hl, h16, h64, k⟩ := h
    refine ⟨_, (pss_cons (ps_asg (pv 1) (pg_tup rfl (pgs_cons (pg_name (i := 2) sc_init.nd rfl (Or.inl rfl)) (pgs_cons (pg_name (i := 3) sc_init.nd rfl (Or.inr rfl)) pgs_nil))))
    (pss_cons (ps_set (i := 4) sc_init.nd rfl (Or.inl rfl) (pe_callB call_len_seq (by rfl) T.b_len (by decide +kernel) (pa_cons (pv 2) pa_nil)))
    (pss_cons (ps_fld (pv 0) (pv 2) rfl)
    (pss_cons (ps_fld (pv 0) (pe_lc (own := [("house", 5)]) (g := gName 5) (tt := tYes) rfl sc_init.nd (pi_range1 (by rfl) T.b_range (pa_cons (pv 4) pa_nil)) (blkOk_by (own := [("house", 5)]) (N := ["self", "web", "names", "lines", "many", "house"]) (sc := defScope s_init) (by decide +kernel)) (fun _ _ _ _ _ => (pg_name (i := 5) sc_init.nd rfl (Or.inl rfl))) (fun _ _ _ _ _ => pts_nil) (fun _ _ _ _ _ => (pe_c c_neighbours hr (by decide) (by rfl) (pa_cons (pv 3) (pa_cons (pv 5) pa_nil))))) rfl)
    (pss_cons (ps_fld (pv 0) (pe_op op_rep (pe_lst (pa_cons pe_non pa_nil)) (pv 4)) rfl)
    (pss_cons (ps_fld (pv 0) (pe_op op_rep (pe_lst (pa_cons pe_non pa_nil)) (pv 4)) rfl)
    (pss_cons (ps_fld (pv 0) (pe_op op_rep (pe_lst (pa_cons pe_int pa_nil)) (pv 4)) rfl)
    (pss_cons (ps_fld (pv 0) (pe_op op_rep (pe_lst (pa_cons pe_non pa_nil)) (pv 4)) rfl)
    (pss_cons (ps_fld (pv 0) (pe_lst pa_nil) rfl)
    (pss_cons (ps_fld (pv 0) pe_dnewT rfl)
    (pss_one (ps_fld (pv 0) pe_int rfl)))))))))))), ?_⟩
    refine ⟨_, rfl, _, _, rfl, SqT.of hw, rfl, _, _, rfl, _, _, rfl, rfl, ?_⟩
    refine ⟨_, rfl, _, _, rfl, .inr (.inl (.inr ⟨on, hna⟩)), ?_⟩
    rw [List.length_map]
    refine ⟨_, rfl, _, rfl, _, _, _, _, rfl, hx, T.cl, T.n_nm, by show (0 : Nat) < 1000; decide, ?_⟩
    rw [fp0]
    obtain ⟨H1, e1⟩ : ∃ H1, H1 = upd H x (.ins C dx [("web_names", .ref na)]) := ⟨_, rfl⟩
    rw [← e1]
    have k1 : KeepX x H H1 := by rw [e1]; exact KeepX.put
    have x1 : H1 x = some (.ins C dx [("web_names", .ref na)]) := by rw [e1]; exact upd_same
    have nx : ∀ {b o}, H b = some (.tup o) → b ≠ x := fun h => ne_of h hx (fun z => nomatch z)
    have nax : na ≠ x := ne_of hna hx (fun z => nomatch z)
    have hli1 : H1 li = some (.tup xs) := k1 _ _ hli (nx hli)
    have hP1 : PairsAt H1 xs L := paired_imp hP fun _ _ ⟨t, e, q⟩ => ⟨t, e, k1 _ _ q (nx q)⟩
    -- joined_with
    refine ⟨_, rfl, _, rfl, by omega, by omega, fun D hD => ?_⟩
    have tn : ((nl.length : Int)).toNat = nl.length := Int.toNat_natCast _
    rw [tn]
    refine lc_range (fun i H' => ∃ ps : List (Addr × List Nat), ps.length = i ∧ Same H1 H' ∧ H' D = some (.lst (ps.map fun p => V.ref p.1)) ∧ ∀ (k : Nat) p, ps[k]? = some p → p.2.Perm (nbs L k) ∧ H' p.1 = some (.lst (vI p.2)) ∧ H1 p.1 = none ∧ p.1 ≠ D)
      ⟨[], rfl, same_new hD, upd_same, fun k p q => by simp at q⟩ ?_ ?_
    · rintro i H' hi ⟨ps, pl, s1, hD', all⟩
      refine ⟨rfl, ?_⟩
      unfold tYes
      refine iteT ?_
      have e0 : ((0 : Int) + (i : Int)) = (i : Int) := Int.zero_add _
      refine ⟨_, rfl, _, rfl, li, xs, L, i, by rw [e0]; rfl, SqT.of (s1 _ _ hli1), pairs_same s1 hP1, hl, h64 i hi, fun l p H2 pm s2 hp hp2 => ?_⟩
      have hD2 := s2 _ _ hD'
      refine ⟨_, hD2, ?_, ps ++ [(p, l)], by rw [List.length_append, pl]; rfl, same_upd (s1.trans s2) hD, ?_, fun k q hq => ?_⟩
      · rw [List.length_map, pl]; exact small1000 (by omega)
      · rw [upd_same, List.map_append]; rfl
      · rw [List.getElem?_append] at hq
        have pD : p ≠ D := (ne_of_none hD' hp).symm
        split at hq
        · obtain ⟨z1, z2, z3, z4⟩ := all k q hq
          exact ⟨z1, by rw [upd_ne z4]; exact s2 _ _ z2, z3, z4⟩
        · rename_i hk
          have : k = i := by
            have := (List.getElem?_eq_some_iff.mp hq).1
            simp at this; omega
          subst this
          rw [pl, Nat.sub_self] at hq
          simp at hq; subst hq
          exact ⟨pm, by rw [upd_ne pD]; exact hp2, s1.free hp, pD⟩
    rintro H2 ⟨ps, pl, s12, hD2, all⟩
    have hx2 := s12 _ _ x1
    refine ⟨_, rfl, _, _, _, _, rfl, hx2, T.cl, T.n_jn, by show (1 : Nat) < 1000; decide, ?_⟩
    rw [fp1]
    have Dx : D ≠ x := (ne_of_none x1 hD).symm
    obtain ⟨H3, e3⟩ : ∃ H3, H3 = upd H2 x (.ins C dx [("web_names", .ref na), ("joined_with", .ref D)]) := ⟨_, rfl⟩
    rw [← e3]
    have k3 : KeepX x H2 H3 := by rw [e3]; exact KeepX.put
    have x3 : H3 x = some (.ins C dx [("web_names", .ref na), ("joined_with", .ref D)]) := by rw [e3]; exact upd_same
    have a0 : H3 D = some (.lst (ps.map fun p => V.ref p.1)) := k3 _ _ hD2 Dx
    have b30 : KeepX x H H3 := k1.trans ((KeepX.same s12).trans k3)

    refine ⟨one_ok, fun p1 hp1 => ⟨_, rfl, _, _, _, rfl, rfl, upd_same, by omega, by omega, rep_ok h16, fun l1 hl1 => ⟨_, rfl, _, _, _, _, rfl, by rw [upd_ne (ne_of_none (keepU hp1 x3) hl1)]; exact keepU hp1 x3, T.cl, T.n_wv, by show (2 : Nat) < 1000; decide, ?_⟩⟩⟩
    rw [rep_eq, fp2]
    obtain ⟨H4, e4⟩ : ∃ G, G = upd (upd (upd H3 p1 (.lst [V.non])) l1 (.lst ((List.range nl.length).map fun _ => V.non))) x (.ins C dx [("web_names", .ref na), ("joined_with", .ref D), ("waves", .ref l1)]) := ⟨_, rfl⟩
    rw [← e4]
    obtain ⟨k4, a1, x4, f1⟩ := st1 x3 hp1 hl1 e4
    refine ⟨one_ok, fun p2 hp2 => ⟨_, rfl, _, _, _, rfl, rfl, upd_same, by omega, by omega, rep_ok h16, fun l2 hl2 => ⟨_, rfl, _, _, _, _, rfl, by rw [upd_ne (ne_of_none (keepU hp2 x4) hl2)]; exact keepU hp2 x4, T.cl, T.n_pa, by show (3 : Nat) < 1000; decide, ?_⟩⟩⟩
    rw [rep_eq, fp3]
    obtain ⟨H5, e5⟩ : ∃ G, G = upd (upd (upd H4 p2 (.lst [V.non])) l2 (.lst ((List.range nl.length).map fun _ => V.non))) x (.ins C dx [("web_names", .ref na), ("joined_with", .ref D), ("waves", .ref l1), ("parents", .ref l2)]) := ⟨_, rfl⟩
    rw [← e5]
    obtain ⟨k5, a2, x5, f2⟩ := st1 x4 hp2 hl2 e5
    refine ⟨one_ok, fun p3 hp3 => ⟨_, rfl, _, _, _, rfl, rfl, upd_same, by omega, by omega, rep_ok h16, fun l3 hl3 => ⟨_, rfl, _, _, _, _, rfl, by rw [upd_ne (ne_of_none (keepU hp3 x5) hl3)]; exact keepU hp3 x5, T.cl, T.n_lk, by show (4 : Nat) < 1000; decide, ?_⟩⟩⟩
    rw [rep_eq, fp4]
    obtain ⟨H6, e6⟩ : ∃ G, G = upd (upd (upd H5 p3 (.lst [V.int 0])) l3 (.lst ((List.range nl.length).map fun _ => V.int 0))) x (.ins C dx [("web_names", .ref na), ("joined_with", .ref D), ("waves", .ref l1), ("parents", .ref l2), ("lacking", .ref l3)]) := ⟨_, rfl⟩
    rw [← e6]
    obtain ⟨k6, a3, x6, f3⟩ := st1 x5 hp3 hl3 e6
    refine ⟨one_ok, fun p4 hp4 => ⟨_, rfl, _, _, _, rfl, rfl, upd_same, by omega, by omega, rep_ok h16, fun l4 hl4 => ⟨_, rfl, _, _, _, _, rfl, by rw [upd_ne (ne_of_none (keepU hp4 x6) hl4)]; exact keepU hp4 x6, T.cl, T.n_ch, by show (5 : Nat) < 1000; decide, ?_⟩⟩⟩
    rw [rep_eq, fp5]
    obtain ⟨H7, e7⟩ : ∃ G, G = upd (upd (upd H6 p4 (.lst [V.non])) l4 (.lst ((List.range nl.length).map fun _ => V.non))) x (.ins C dx [("web_names", .ref na), ("joined_with", .ref D), ("waves", .ref l1), ("parents", .ref l2), ("lacking", .ref l3), ("chief_known", .ref l4)]) := ⟨_, rfl⟩
    rw [← e7]
    obtain ⟨k7, a4, x7, f4⟩ := st1 x6 hp4 hl4 e7
    refine ⟨nil_ok, fun l5 hl5 => ⟨_, rfl, _, _, _, _, rfl, keepU hl5 x7, T.cl, T.n_bg, by show (6 : Nat) < 1000; decide, ?_⟩⟩
    rw [fp6]
    obtain ⟨H8, e8⟩ : ∃ G, G = upd (upd H7 l5 (.lst [])) x (.ins C dx [("web_names", .ref na), ("joined_with", .ref D), ("waves", .ref l1), ("parents", .ref l2), ("lacking", .ref l3), ("chief_known", .ref l4), ("beginners", .ref l5)]) := ⟨_, rfl⟩
    rw [← e8]
    obtain ⟨k8, a5, x8⟩ := st0 x7 hl5 e8
    refine fun rd hrd => ⟨_, rfl, _, _, _, _, rfl, keepU hrd x8, T.cl, T.n_rd, by show (7 : Nat) < 1000; decide, ?_⟩
    rw [fp7]
    obtain ⟨H9, e9⟩ : ∃ G, G = upd (upd H8 rd (.dT [])) x (.ins C dx [("web_names", .ref na), ("joined_with", .ref D), ("waves", .ref l1), ("parents", .ref l2), ("lacking", .ref l3), ("chief_known", .ref l4), ("beginners", .ref l5), ("web_roads", .ref rd)]) := ⟨_, rfl⟩
    rw [← e9]
    obtain ⟨k9, a6, x9⟩ := st0 x8 hrd e9
    refine ⟨_, rfl, _, _, _, _, rfl, x9, T.cl, T.n_tl, by show (8 : Nat) < 1000; decide, ?_⟩
    rw [fp8]
    obtain ⟨H10, e10⟩ : ∃ G, G = upd H9 x (.ins C dx [("web_names", .ref na), ("joined_with", .ref D), ("waves", .ref l1), ("parents", .ref l2), ("lacking", .ref l3), ("chief_known", .ref l4), ("beginners", .ref l5), ("web_roads", .ref rd), ("letters_told", .int 0)]) := ⟨_, rfl⟩
    rw [← e10]
    have k10 : KeepX x H9 H10 := by rw [e10]; exact KeepX.put
    have x10 : H10 x = some (.ins C dx [("web_names", .ref na), ("joined_with", .ref D), ("waves", .ref l1), ("parents", .ref l2), ("lacking", .ref l3), ("chief_known", .ref l4), ("beginners", .ref l5), ("web_roads", .ref rd), ("letters_told", .int 0)]) := by rw [e10]; exact upd_same
    have f5 := hl5
    have f6 := hrd
    have n1x : l1 ≠ x := (ne_of_none x3 f1).symm
    have n2x : l2 ≠ x := (ne_of_none x4 f2).symm
    have n3x : l3 ≠ x := (ne_of_none x5 f3).symm
    have n4x : l4 ≠ x := (ne_of_none x6 f4).symm
    have n5x : l5 ≠ x := (ne_of_none x7 f5).symm
    have n6x : rd ≠ x := (ne_of_none x8 f6).symm
    have n0x := Dx
    have g1_0 := f1
    have d0_1 := ne_of_none a0 g1_0
    have z1 : H l1 = none := b30.free n1x g1_0
    have g2_1 := f2
    have g2_0 : H3 l2 = none := k4.free n2x g2_1
    have d0_2 := ne_of_none a0 g2_0
    have d1_2 := ne_of_none a1 g2_1
    have z2 : H l2 = none := b30.free n2x g2_0
    have g3_2 := f3
    have g3_1 : H4 l3 = none := k5.free n3x g3_2
    have g3_0 : H3 l3 = none := k4.free n3x g3_1
    have d0_3 := ne_of_none a0 g3_0
    have d1_3 := ne_of_none a1 g3_1
    have d2_3 := ne_of_none a2 g3_2
    have z3 : H l3 = none := b30.free n3x g3_0
    have g4_3 := f4
    have g4_2 : H5 l4 = none := k6.free n4x g4_3
    have g4_1 : H4 l4 = none := k5.free n4x g4_2
    have g4_0 : H3 l4 = none := k4.free n4x g4_1
    have d0_4 := ne_of_none a0 g4_0
    have d1_4 := ne_of_none a1 g4_1
    have d2_4 := ne_of_none a2 g4_2
    have d3_4 := ne_of_none a3 g4_3
    have z4 : H l4 = none := b30.free n4x g4_0
    have g5_4 := f5
    have g5_3 : H6 l5 = none := k7.free n5x g5_4
    have g5_2 : H5 l5 = none := k6.free n5x g5_3
    have g5_1 : H4 l5 = none := k5.free n5x g5_2
    have g5_0 : H3 l5 = none := k4.free n5x g5_1
    have d0_5 := ne_of_none a0 g5_0
    have d1_5 := ne_of_none a1 g5_1
    have d2_5 := ne_of_none a2 g5_2
    have d3_5 := ne_of_none a3 g5_3
    have d4_5 := ne_of_none a4 g5_4
    have z5 : H l5 = none := b30.free n5x g5_0
    have g6_5 := f6
    have g6_4 : H7 rd = none := k8.free n6x g6_5
    have g6_3 : H6 rd = none := k7.free n6x g6_4
    have g6_2 : H5 rd = none := k6.free n6x g6_3
    have g6_1 : H4 rd = none := k5.free n6x g6_2
    have g6_0 : H3 rd = none := k4.free n6x g6_1
    have d0_6 := ne_of_none a0 g6_0
    have d1_6 := ne_of_none a1 g6_1
    have d2_6 := ne_of_none a2 g6_2
    have d3_6 := ne_of_none a3 g6_3
    have d4_6 := ne_of_none a4 g6_4
    have d5_6 := ne_of_none a5 g6_5
    have z6 : H rd = none := b30.free n6x g6_0
    have a0_4 := k4 _ _ a0 n0x
    have a0_5 := k5 _ _ a0_4 n0x
    have a0_6 := k6 _ _ a0_5 n0x
    have a0_7 := k7 _ _ a0_6 n0x
    have a0_8 := k8 _ _ a0_7 n0x
    have a0_9 := k9 _ _ a0_8 n0x
    have a0_10 := k10 _ _ a0_9 n0x
    have a1_5 := k5 _ _ a1 n1x
    have a1_6 := k6 _ _ a1_5 n1x
    have a1_7 := k7 _ _ a1_6 n1x
    have a1_8 := k8 _ _ a1_7 n1x
    have a1_9 := k9 _ _ a1_8 n1x
    have a1_10 := k10 _ _ a1_9 n1x
    have a2_6 := k6 _ _ a2 n2x
    have a2_7 := k7 _ _ a2_6 n2x
    have a2_8 := k8 _ _ a2_7 n2x
    have a2_9 := k9 _ _ a2_8 n2x
    have a2_10 := k10 _ _ a2_9 n2x
    have a3_7 := k7 _ _ a3 n3x
    have a3_8 := k8 _ _ a3_7 n3x
    have a3_9 := k9 _ _ a3_8 n3x
    have a3_10 := k10 _ _ a3_9 n3x
    have a4_8 := k8 _ _ a4 n4x
    have a4_9 := k9 _ _ a4_8 n4x
    have a4_10 := k10 _ _ a4_9 n4x
    have a5_9 := k9 _ _ a5 n5x
    have a5_10 := k10 _ _ a5_9 n5x
    have a6_10 := k10 _ _ a6 n6x
    have b10 : KeepX x H3 H10 := k4.trans (k5.trans (k6.trans (k7.trans (k8.trans (k9.trans k10)))))
    have z0 : H D = none := k1.free Dx hD
    have js3 : ∀ (k : Nat) p, ps[k]? = some p → H3 p.1 = some (.lst (vI p.2)) ∧ p.1 ≠ x := fun k p q => by
      obtain ⟨_, q2, q3, _⟩ := all k p q
      have px : p.1 ≠ x := (ne_of_none x1 q3).symm
      exact ⟨k3 _ _ q2 px, px⟩
    have nj : ∀ a, a ∈ ps.map (·.1) → ∃ (k : Nat) (p : Addr × List Nat), ps[k]? = some p ∧ p.1 = a := fun a ha => by
      obtain ⟨p, hp, rfl⟩ := List.mem_map.mp ha
      obtain ⟨k, hk⟩ := List.getElem?_of_mem hp
      exact ⟨k, p, hk, rfl⟩
    refine k H10 ⟨x, rd, na, fun i => match i with | 0 => D | 1 => l1 | 2 => l2 | 3 => l3 | 4 => l4 | _ => l5, ps.map (·.1), []⟩ (fun h => (ps[h]?.map (·.2)).getD []) (fun h hh => ?_) rfl ?_ (b30.trans b10) (fun b hb => ?_)
    · have hp : h < ps.length := by rw [pl]; exact hh
      have := (all h _ (List.getElem?_eq_getElem hp)).1
      simpa [List.getElem?_eq_getElem hp] using this
    · refine { ob := ⟨dx, x10⟩, ls := fun i hi => ?_, jl := by show (ps.map _).length = _; rw [List.length_map, pl], ji := fun h a ha => ?_, rd := a6_10, nm := ⟨on, hpl, b30.trans b10 _ _ hna nax⟩, nl := rfl, kn := List.nodup_nil, an := List.nodup_nil, el := (fun e he => nomatch he), no := fun a b _ => rfl, ek := Nat.zero_le _, fw := fun a b => Nat.zero_le _, li := fun i j hi hj e => ?_, lj := fun i hi => ?_, le := (fun i hi e he => nomatch he), je := (fun e he => nomatch he) }
      · match i, hi with
        | 0, _ => rw [show cont nl.length _ Rm.init 0 = (ps.map (·.1)).map V.ref from rfl, List.map_map]; exact a0_10
        | 1, _ => exact a1_10
        | 2, _ => exact a2_10
        | 3, _ => exact a3_10
        | 4, _ => exact a4_10
        | 5, _ => exact a5_10
      · have ha' : (ps.map (·.1))[h]? = some a := ha
        rw [List.getElem?_map] at ha'
        obtain ⟨p, hp, rfl⟩ := Option.map_eq_some_iff.mp ha'
        obtain ⟨q1, q2⟩ := js3 h p hp
        have := b10 _ _ q1 q2
        simpa [hp] using this
      · match i, j, hi, hj with
        | 0, 0, _, _ => rfl
        | 0, 1, _, _ => exact absurd e d0_1
        | 0, 2, _, _ => exact absurd e d0_2
        | 0, 3, _, _ => exact absurd e d0_3
        | 0, 4, _, _ => exact absurd e d0_4
        | 0, 5, _, _ => exact absurd e d0_5
        | 1, 0, _, _ => exact absurd e.symm d0_1
        | 1, 1, _, _ => rfl
        | 1, 2, _, _ => exact absurd e d1_2
        | 1, 3, _, _ => exact absurd e d1_3
        | 1, 4, _, _ => exact absurd e d1_4
        | 1, 5, _, _ => exact absurd e d1_5
        | 2, 0, _, _ => exact absurd e.symm d0_2
        | 2, 1, _, _ => exact absurd e.symm d1_2
        | 2, 2, _, _ => rfl
        | 2, 3, _, _ => exact absurd e d2_3
        | 2, 4, _, _ => exact absurd e d2_4
        | 2, 5, _, _ => exact absurd e d2_5
        | 3, 0, _, _ => exact absurd e.symm d0_3
        | 3, 1, _, _ => exact absurd e.symm d1_3
        | 3, 2, _, _ => exact absurd e.symm d2_3
        | 3, 3, _, _ => rfl
        | 3, 4, _, _ => exact absurd e d3_4
        | 3, 5, _, _ => exact absurd e d3_5
        | 4, 0, _, _ => exact absurd e.symm d0_4
        | 4, 1, _, _ => exact absurd e.symm d1_4
        | 4, 2, _, _ => exact absurd e.symm d2_4
        | 4, 3, _, _ => exact absurd e.symm d3_4
        | 4, 4, _, _ => rfl
        | 4, 5, _, _ => exact absurd e d4_5
        | 5, 0, _, _ => exact absurd e.symm d0_5
        | 5, 1, _, _ => exact absurd e.symm d1_5
        | 5, 2, _, _ => exact absurd e.symm d2_5
        | 5, 3, _, _ => exact absurd e.symm d3_5
        | 5, 4, _, _ => exact absurd e.symm d4_5
        | 5, 5, _, _ => rfl
      · intro hm
        obtain ⟨k, p, hk, e⟩ := nj _ hm
        obtain ⟨q1, _⟩ := js3 k p hk
        obtain ⟨_, _, q3, q4⟩ := all k p hk
        match i, hi with
        | 0, _ => exact q4 e
        | 1, _ => exact ne_of_none q1 g1_0 e
        | 2, _ => exact ne_of_none q1 g2_0 e
        | 3, _ => exact ne_of_none q1 g3_0 e
        | 4, _ => exact ne_of_none q1 g4_0 e
        | 5, _ => exact ne_of_none q1 g5_0 e
    · rcases hb with hb | hb | ⟨i, hi, hb⟩ | hb | hb
      · exact .inl hb
      · right; rw [hb]; exact z6
      · right; rw [hb]
        match i, hi with
        | 0, _ => exact z0
        | 1, _ => exact z1
        | 2, _ => exact z2
        | 3, _ => exact z3
        | 4, _ => exact z4
        | 5, _ => exact z5
      · obtain ⟨k, p, hk, e⟩ := nj _ hb
        obtain ⟨_, px⟩ := js3 k p hk
        obtain ⟨_, _, q3, _⟩ := all k p hk
        right; rw [← e]; exact k1.free px q3
      · cases hb
end
end Rc
set_option Elab.async false
set_option linter.all false
set_option maxRecDepth 100000
set_option maxHeartbeats 4000000
namespace Rc
open PySem PySem.Spec PyProof.Rows L2 RcN
open C8 (pe_c pe_mk pe_mt pe_mt0)
/-- the drawn numbers: the list [left, cells, tour] -/
def StAt (H : Hp) (a c : Addr) (t : Nat) : Prop := ∃ (z : Int) (cs : List Int), 0 ≤ z ∧ H a = some (.lst [.int z, .ref c, .int (t : Int)]) ∧ H c = some (.lst (cs.map V.int)) ∧ cs.length ≤ 63
/-- at most k draws -/
def Dr (a c : Addr) (t k : Nat) (H H' : Hp) : Prop := KeepX a H H' ∧ ∃ t', t' ≤ t + k ∧ StAt H' a c t'
theorem StAt.ne {H : Hp} {a c : Addr} {t : Nat} (h : StAt H a c t) : c ≠ a := by
  obtain ⟨z, cs, _, h1, h2, _⟩ := h
  refine ne_of h2 h1 fun e => ?_
  injection e with e
  rcases cs with _ | ⟨x, _ | ⟨y, r⟩⟩ <;> simp at e
theorem StAt.same {H H' : Hp} {a c : Addr} {t : Nat} (h : StAt H a c t) (s : Same H H') : StAt H' a c t := by
  obtain ⟨z, cs, h0, h1, h2, h3⟩ := h
  exact ⟨z, cs, h0, s _ _ h1, s _ _ h2, h3⟩
theorem StAt.set {H : Hp} {a c : Addr} {t t' : Nat} {z' : Int} (h : StAt H a c t) (h0 : 0 ≤ z') : StAt (upd H a (.lst [.int z', .ref c, .int (t' : Int)])) a c t' := by
  have n := h.ne
  obtain ⟨z, cs, _, h1, h2, h3⟩ := h
  exact ⟨z', cs, h0, upd_same, by rw [upd_ne n]; exact h2, h3⟩
theorem Dr.trans {a c : Addr} {t k j : Nat} {H H1 H2 : Hp} (x : Dr a c t k H H1) (y : ∀ t', t' ≤ t + k → StAt H1 a c t' → Dr a c t' j H1 H2) : Dr a c t (k + j) H H2 := by
  obtain ⟨k1, t1, l1, s1⟩ := x
  obtain ⟨k2, t2, l2, s2⟩ := y t1 l1 s1
  exact ⟨k1.trans k2, t2, by omega, s2⟩
theorem m1pos : (0 : Int) < 2305843009213693951 := by decide
theorem m2pos : (0 : Int) < 2305843009213693921 := by decide
theorem m1lo {x : Int} : -(2 ^ 64) < x % 2305843009213693951 := by omega
theorem m1hi {x : Int} : x % 2305843009213693951 < 2 ^ 64 := by omega
theorem m1add {x : Int} : 0 ≤ x % 2305843009213693951 + (10 : Int) ^ ((9 : Int).toNat) := by
  have : (0 : Int) ≤ (10 : Int) ^ ((9 : Int).toNat) := by decide
  omega
def spDrawn (K : PySem.W.Frag) : Sp := fun vs H Q _ => ∃ (s : Addr) (ns : List Int), vs = [.ref s] ∧ SqL K H s (ns.map V.int) ∧ ∀ a c H', Same H H' → H a = none → H c = none → StAt H' a c 0 → Q (.ref a) H'
def spLoad : Sp := fun vs H Q _ => ∃ (a c : Addr) (t : Nat), vs = [.ref a] ∧ StAt H a c t ∧ t < 2 ^ 62 ∧ ∀ H', KeepX a H H' → StAt H' a c (t + 1) → Q .non H'
def spNext : Sp := fun vs H Q _ => ∃ (a c : Addr) (t many : Nat), vs = [.ref a, .int (many : Int)] ∧ StAt H a c t ∧ t < 2 ^ 61 ∧ 0 < many ∧ many < 1073741824 ∧ ∀ (k : Nat) H', k < many → Dr a c t 1 H H' → Q (.int (k : Int)) H'
def spOf : Sp := fun vs H Q _ => ∃ (a c b : Addr) (t : Nat) (xs : List Int), vs = [.ref a, .ref b] ∧ StAt H a c t ∧ t < 2 ^ 61 ∧ H b = some (.lst (xs.map V.int)) ∧ b ≠ a ∧ 0 < xs.length ∧ xs.length < 1000 ∧ ∀ (x : Int) H', x ∈ xs → Dr a c t 1 H H' → Q (.int x) H'
def spName : Sp := fun vs H Q _ => ∃ (a c : Addr) (t : Nat), vs = [.ref a] ∧ StAt H a c t ∧ t < 2 ^ 60 ∧ ∀ (x : Int) H', 0 ≤ x → x ≤ 1000000000000 → Dr a c t 4 H H' → Q (.int x) H'
section
variable {P : Program} {w : World} {K : PySem.W.Frag} {mg : Str → Option Value} {base : Heap} {C CB CL f : Addr} {fd : FuncData}
theorem ok_l_drawn (F : DefAt K "_law_drawn" "_law_drawn" s_l_drawn f fd) (T : Txt K mg C CB CL) : FnOk P w K mg base CX0 1 f fd ["_law_script"] (spDrawn K) := by
  refine okN F sc_l_drawn (fun vs H Q E h => ?_) (fun cdv A outer s H vs Q E hr h => ?_)
  · obtain ⟨s, ns, rfl, _⟩ := h
    rfl
  · obtain ⟨s0, ns, rfl, hs, k⟩ := h
    refine ⟨_, (pss_one (ps_ret (pe_lst (pa_cons pe_int (pa_cons (pe_callTy call_list_of (by rfl) T.b_list (by decide +kernel) (pa_cons (pe_slice sl_list (pv 0) po_none (po_some pe_int)) pa_nil)) (pa_cons pe_int pa_nil)))))), ?_⟩
    refine ⟨_, rfl, _, rfl, s0, _, rfl, hs, fun p hp => ?_⟩
    have s1 := same_new (o := .lst (cutV (ns.map V.int) none (some 63))) hp
    refine ⟨p, _, rfl, .inl (SqL.of upd_same), fun l hl => ?_⟩
    have s2 := same_upd (o := .lst (cutV (ns.map V.int) none (some 63))) s1 (s1.free hl)
    refine ⟨by show (3 : Nat) ≤ _; exact Nat.le_of_lt (small1000 (by decide)), fun a ha => ?_⟩
    have s3 := same_upd (o := .lst [.int 0, .ref l, .int 0]) s2 (s2.free ha)
    have la : l ≠ a := ne_of_none upd_same ha
    refine k a l _ s3 (s2.free ha) (s1.free hl) ⟨0, ns.take 63, by decide, upd_same, ?_, ?_⟩
    · rw [upd_ne la, upd_same]
      have e63 : HT.sIx (ns.map V.int).length (ns.map V.int).length (some 63) = min 63 (ns.map V.int).length := HT.sIx_nat _ _ 63
      unfold cutV
      rw [e63, HT.sIx_none, List.drop_zero, Nat.sub_zero, List.map_take]
      congr 2
      rw [List.take_eq_take_iff]
      omega
    · rw [List.length_take]; omega
theorem ok_l_load (F : DefAt K "_law_load" "_law_load" s_l_load f fd) (T : Txt K mg C CB CL) : FnOk P w K mg base CX0 1 f fd ["_law_state"] spLoad := by
  refine okN F sc_l_load (fun vs H Q E h => ?_) (fun cdv A outer s H vs Q E hr h => ?_)
  · obtain ⟨a, c, t, rfl, _⟩ := h
    rfl
  · obtain ⟨a, c, t, rfl, S, ht, k⟩ := h
    have ca := S.ne
    have S' := S
    obtain ⟨z, cs, z0, ha, hc, h63⟩ := S
    refine ⟨_, (pss_cons (ps_set (i := 1) sc_l_load.nd rfl (Or.inl rfl) (pe_ix ix_list (pv 0) pe_int (fun _ _ => rfl)))
    (pss_cons (ps_set (i := 2) sc_l_load.nd rfl (Or.inl rfl) (pe_ix ix_list (pv 0) pe_int (fun _ _ => rfl)))
    (pss_cons (ps_asg (pe_op op_add (pv 2) pe_int) (pg_sub (pv 0) pe_int set_list))
    (pss_cons (ps_set (i := 3) sc_l_load.nd rfl (Or.inl rfl) pe_int)
    (pss_cons (ps_if (pt_cmpR (op_neD hr.units) (pv 1) (pe_lst pa_nil) (nomark _)) (pss_one (ps_set (i := 3) sc_l_load.nd rfl (Or.inl rfl) (pe_ix ix_list (pv 1) (pe_op op_mod (pv 2) (pe_callB call_len_seq (by rfl) T.b_len (by decide +kernel) (pa_cons (pv 1) pa_nil))) (fun _ _ => rfl)))) pss_nil)
    (pss_one (ps_if (PW.pt (pw_and (pt_cmpR op_lt (pv 2) (pe_callB call_len_seq (by rfl) T.b_len (by decide +kernel) (pa_cons (pv 1) pa_nil)) (nomark _)) (pw_and1 (pt_cmpR op_ge (pe_callB call_abs (by rfl) T.b_abs (by decide +kernel) (pa_cons (pv 3) pa_nil)) (pe_op op_pow pe_int pe_int) (nomark _))))) (pss_one (ps_asg (pe_callB call_abs (by rfl) T.b_abs (by decide +kernel) (pa_cons (pv 3) pa_nil)) (pg_sub (pv 0) pe_int set_list))) (pss_cons (ps_set (i := 4) sc_l_load.nd rfl (Or.inl rfl) (pe_op op_mod (pe_op op_mul (pe_op op_add (pe_op op_add (pe_op op_mod (pv 3) pe_int) (pe_op op_mul (pe_op op_mul pe_int (pv 2)) (pv 2))) pe_int) pe_int) pe_int))
    (pss_cons (ps_set (i := 4) sc_l_load.nd rfl (Or.inl rfl) (pe_op op_mod (pe_op op_mul (pv 4) (pv 4)) pe_int))
    (pss_one (ps_asg (pe_op op_add (pe_op op_mod (pe_op op_add (pe_op op_add (pe_op op_mul (pv 4) pe_int) (pv 2)) pe_int) pe_int) (pe_op op_pow pe_int pe_int)) (pg_sub (pv 0) pe_int set_list)))))))))))), ?_⟩
    refine ⟨_, rfl, _, _, _, _, rfl, rfl, SqL.of ha, rfl, ?_⟩
    refine ⟨_, rfl, _, _, _, _, rfl, rfl, SqL.of ha, rfl, ?_⟩
    refine ⟨_, rfl, _, _, rfl, rfl, _, rfl, _, _, _, 2, rfl, rfl, ha, rfl, ?_⟩
    have S1 : StAt (upd H a (.lst ([V.int z, V.ref c, V.int (t : Int)].set 2 (V.int ((t : Int) + 1))))) a c (t + 1) := by
      have := S'.set (t' := t + 1) z0
      rw [Int.natCast_add] at this
      exact this
    have kx1 : KeepX a H (upd H a (.lst ([V.int z, V.ref c, V.int (t : Int)].set 2 (V.int ((t : Int) + 1))))) := KeepX.put
    obtain ⟨H1, e1⟩ : ∃ G, G = upd H a (.lst ([V.int z, V.ref c, V.int (t : Int)].set 2 (V.int ((t : Int) + 1)))) := ⟨_, rfl⟩
    rw [← e1] at S1 kx1 ⊢
    have ha1 : H1 a = some (.lst [.int z, .ref c, .int ((t : Int) + 1)]) := by rw [e1, upd_same]; rfl
    have hc1 := kx1 _ _ hc ca
    refine ⟨_, rfl, nil_ok, fun q hq => ?_⟩
    have s2 := same_new (o := .lst []) hq
    have S2 := S1.same s2
    have kx2 := kx1.trans (KeepX.same s2)
    have ha2 := s2 _ _ ha1
    have hc2 := s2 _ _ hc1
    refine ⟨_, _, .lst (SqL.of hc2) (dpAll_i cs), .lst (SqL.of upd_same) (dpAll_i []), i_shaped cs, i_shaped [], _, rfl, ?_⟩
    obtain ⟨H2, e2⟩ : ∃ G, G = upd H1 q (.lst []) := ⟨_, rfl⟩
    rw [← e2] at S2 kx2 ha2 hc2 s2 ⊢
    refine ite2 (fun d => ?_) (fun d => ?_)
    have ne : cs ≠ [] := fun e => by
      subst e
      rw [eqv_nil] at d
      simp at d
    have lp : 0 < cs.length := List.length_pos_iff.mpr ne
    have em : (t : Int) % ((cs.map V.int).length : Int) = ((t % cs.length : Nat) : Int) := by rw [List.length_map]; omega
    refine ⟨_, rfl, _, rfl, _, rfl, _, _, rfl, .inl (SqL.of hc2), _, _, rfl, rfl, by rw [List.length_map]; omega, ?_⟩
    have lt : t % cs.length < cs.length := Nat.mod_lt _ lp
    refine ⟨_, _, _, .int (cs[t % cs.length]'lt), rfl, rfl, SqL.of hc2, by rw [em]; exact at_nat (by rw [List.getElem?_map, List.getElem?_eq_getElem lt]; rfl), ?_⟩
    all_goals
      refine ⟨_, rfl, _, rfl, _, _, rfl, .inl (SqL.of hc2), _, _, rfl, rfl, _, rfl, ?_⟩
      refine ite2 (fun d1 => ?_) (fun d1 => ?_)
      · refine ⟨_, rfl, _, rfl, _, _, rfl, rfl, ⟨by decide, by decide, by decide⟩, _, _, rfl, rfl, _, rfl, ?_⟩
        refine ite2 (fun d2 => ?_) (fun d2 => ?_)
        · refine ⟨_, rfl, _, rfl, _, rfl, _, _, _, 0, rfl, rfl, ha2, rfl, ?_⟩
          refine k _ (kx2.trans KeepX.put) ?_
          refine S2.set (t' := t + 1) ?_
          split <;> omega
        · refine ⟨_, rfl, _, _, rfl, rfl, m1pos, _, rfl, _, _, rfl, rfl, .inl ⟨by decide, by decide⟩, _, rfl, _, _, rfl, rfl, .inr ⟨by omega, by omega⟩, _, _, rfl, rfl, _, _, rfl, rfl, _, _, rfl, rfl, .inr ⟨by decide, by decide⟩, _, _, rfl, rfl, m1pos, ?_⟩
          refine ⟨_, rfl, _, rfl, _, _, rfl, rfl, .inl ⟨m1lo, m1hi⟩, _, _, rfl, rfl, m2pos, ?_⟩
          refine ⟨_, rfl, _, _, rfl, rfl, .inr ⟨by decide, by decide⟩, _, rfl, _, _, rfl, rfl, _, _, rfl, rfl, _, _, rfl, rfl, m1pos, _, _, rfl, rfl, ⟨by decide, by decide, by decide⟩, _, _, rfl, rfl, ?_⟩
          refine ⟨_, rfl, _, _, _, 0, rfl, rfl, ha2, rfl, ?_⟩
          exact k _ (kx2.trans KeepX.put) (S2.set (t' := t + 1) m1add)
      · refine ⟨_, rfl, _, _, rfl, rfl, m1pos, _, rfl, _, _, rfl, rfl, .inl ⟨by decide, by decide⟩, _, rfl, _, _, rfl, rfl, .inr ⟨by omega, by omega⟩, _, _, rfl, rfl, _, _, rfl, rfl, _, _, rfl, rfl, .inr ⟨by decide, by decide⟩, _, _, rfl, rfl, m1pos, ?_⟩
        refine ⟨_, rfl, _, rfl, _, _, rfl, rfl, .inl ⟨m1lo, m1hi⟩, _, _, rfl, rfl, m2pos, ?_⟩
        refine ⟨_, rfl, _, _, rfl, rfl, .inr ⟨by decide, by decide⟩, _, rfl, _, _, rfl, rfl, _, _, rfl, rfl, _, _, rfl, rfl, m1pos, _, _, rfl, rfl, ⟨by decide, by decide, by decide⟩, _, _, rfl, rfl, ?_⟩
        refine ⟨_, rfl, _, _, _, 0, rfl, rfl, ha2, rfl, ?_⟩
        exact k _ (kx2.trans KeepX.put) (S2.set (t' := t + 1) m1add)
end
end Rc
set_option Elab.async false
set_option linter.all false
set_option maxRecDepth 100000
set_option maxHeartbeats 4000000
namespace Rc
open PySem PySem.Spec PyProof.Rows L2 RcN
open C8 (pe_c pe_mk pe_mt pe_mt0)
section
variable {P : Program} {w : World} {K : PySem.W.Frag} {mg : Str → Option Value} {base : Heap} {C CB CL f : Addr} {fd : FuncData}
theorem ok_l_next (F : DefAt K "_law_next" "_law_next" s_l_next f fd) (T : Txt K mg C CB CL) (c_l_load : C8.Cal P w K mg base 1 "_law_load" spLoad []) : FnOk P w K mg base CX0 2 f fd ["_law_state", "_law_many"] spNext := by
  refine okN F sc_l_next (fun vs H Q E h => ?_) (fun cdv A outer s H vs Q E hr h => ?_)
  · obtain ⟨a, c, t, many, rfl, _⟩ := h
    rfl
  · obtain ⟨a, c, t, many, rfl, S, ht, m0, m1, k⟩ := h
    have fin : ∀ (z : Int), 0 ≤ z → ∃ j : Nat, j < many ∧ z % (many : Int) = (j : Int) := fun z hz => ⟨(z % (many : Int)).toNat, by
      have := Int.emod_lt_of_pos z (show (0 : Int) < many by omega)
      have := Int.emod_nonneg z (show (many : Int) ≠ 0 by omega)
      omega, by
      have := Int.emod_nonneg z (show (many : Int) ≠ 0 by omega)
      omega⟩
    have fin2 : ∀ (z : Int), 0 ≤ z → 0 ≤ z / (many : Int) := fun z hz => Int.ediv_nonneg hz (by omega)
    have S' := S
    obtain ⟨z, cs, z0, ha, hc, h63⟩ := S'
    refine ⟨_, (pss_cons (ps_if (pt_cmpR op_lt (pe_ix ix_list (pv 0) pe_int (fun _ _ => rfl)) (pv 1) (nomark _)) (pss_one (ps_expr (pe_c c_l_load hr (by decide) (by rfl) (pa_cons (pv 0) pa_nil)))) pss_nil)
    (pss_cons (ps_set (i := 2) sc_l_next.nd rfl (Or.inl rfl) (pe_op op_mod (pe_ix ix_list (pv 0) pe_int (fun _ _ => rfl)) (pv 1)))
    (pss_cons (ps_asg (pe_op op_fdiv (pe_ix ix_list (pv 0) pe_int (fun _ _ => rfl)) (pv 1)) (pg_sub (pv 0) pe_int set_list))
    (pss_one (ps_ret (pv 2)))))), ?_⟩
    refine ⟨_, rfl, _, _, _, _, rfl, rfl, SqL.of ha, rfl, _, rfl, _, _, rfl, rfl, _, rfl, ?_⟩
    refine ite2 (fun d => ?_) (fun d => ?_)
    · refine ⟨_, rfl, a, c, t, rfl, S, by omega, fun H1 kx S1 => ?_⟩
      have S1' := S1
      obtain ⟨z, cs, z0, ha, hc, h63⟩ := S1
      obtain ⟨j, hj, ej⟩ := fin z z0
      refine ⟨_, rfl, _, _, _, _, rfl, rfl, SqL.of ha, rfl, _, rfl, _, _, rfl, rfl, by omega, ?_⟩
      refine ⟨_, rfl, _, _, _, _, rfl, rfl, SqL.of ha, rfl, _, rfl, _, _, rfl, rfl, ⟨by omega, by omega⟩, _, rfl, _, _, _, 0, rfl, rfl, ha, rfl, ?_⟩
      refine ⟨_, rfl, ?_⟩
      show Q (V.int (z % (many : Int))) _
      rw [ej]
      exact k j _ hj ⟨kx.trans KeepX.put, t + 1, Nat.le_refl _, S1'.set (t' := t + 1) (fin2 z z0)⟩
    · obtain ⟨j, hj, ej⟩ := fin z z0
      refine ⟨_, rfl, _, _, _, _, rfl, rfl, SqL.of ha, rfl, _, rfl, _, _, rfl, rfl, by omega, ?_⟩
      refine ⟨_, rfl, _, _, _, _, rfl, rfl, SqL.of ha, rfl, _, rfl, _, _, rfl, rfl, ⟨by omega, by omega⟩, _, rfl, _, _, _, 0, rfl, rfl, ha, rfl, ?_⟩
      refine ⟨_, rfl, ?_⟩
      show Q (V.int (z % (many : Int))) _
      rw [ej]
      exact k j _ hj ⟨KeepX.put, t, Nat.le_succ _, S.set (t' := t) (fin2 z z0)⟩
theorem ok_l_of (F : DefAt K "_law_of" "_law_of" s_l_of f fd) (T : Txt K mg C CB CL) (c_l_next : C8.Cal P w K mg base 2 "_law_next" spNext []) : FnOk P w K mg base CX0 3 f fd ["_law_state", "_law_some"] spOf := by
  refine okN F sc_l_of (fun vs H Q E h => ?_) (fun cdv A outer s H vs Q E hr h => ?_)
  · obtain ⟨a, c, b, t, xs, rfl, _⟩ := h
    rfl
  · obtain ⟨a, c, b, t, xs, rfl, S, ht, hb, ba, x0, x1, k⟩ := h
    refine ⟨_, (pss_one (ps_ret (pe_ix ix_list (pv 1) (pe_c c_l_next hr (by decide) (by rfl) (pa_cons (pv 0) (pa_cons (pe_callB call_len_seq (by rfl) T.b_len (by decide +kernel) (pa_cons (pv 1) pa_nil)) pa_nil))) (fun _ _ => rfl)))), ?_⟩
    refine ⟨_, rfl, _, rfl, _, rfl, _, _, rfl, .inl (SqL.of hb), a, c, t, xs.length, by rw [List.length_map]; rfl, S, ht, x0, by omega, fun j H1 hj D => ?_⟩
    obtain ⟨x, hx⟩ : ∃ x, xs[j]? = some x := ⟨_, List.getElem?_eq_getElem hj⟩
    refine ⟨_, _, _, _, rfl, rfl, SqL.of (D.1 _ _ hb ba), at_nat (v := .int x) (by rw [List.getElem?_map, hx]; rfl), k x H1 (List.mem_of_getElem? hx) D⟩
theorem ok_l_name (F : DefAt K "_law_name" "_law_name" s_l_name f fd) (T : Txt K mg C CB CL) (c_l_next : C8.Cal P w K mg base 2 "_law_next" spNext []) (c_l_of : C8.Cal P w K mg base 3 "_law_of" spOf []) : FnOk P w K mg base CX0 4 f fd ["_law_state"] spName := by
  refine okN F sc_l_name (fun vs H Q E h => ?_) (fun cdv A outer s H vs Q E hr h => ?_)
  · obtain ⟨a, c, t, rfl, _⟩ := h
    rfl
  · obtain ⟨a, c, t, rfl, S, ht, k⟩ := h
    have e6 : (10 : Int) ^ ((6 : Int).toNat) = 1000000 := by decide
    have e12 : (10 : Int) ^ ((12 : Int).toNat) = 1000000000000 := by decide
    have hsa : ∃ o, H a = some o := by obtain ⟨z, cs, _, ha, _⟩ := S; exact ⟨_, ha⟩
    obtain ⟨oa, hoa⟩ := hsa
    refine ⟨_, (pss_cons (ps_set (i := 1) sc_l_name.nd rfl (Or.inl rfl) (pe_c c_l_of hr (by decide) (by rfl) (pa_cons (pv 0) (pa_cons (pe_lst (pa_cons pe_int (pa_cons pe_int (pa_cons pe_int (pa_cons pe_int (pa_cons (pe_op op_pow pe_int pe_int) pa_nil)))))) pa_nil))))
    (pss_cons (ps_if (pt_cmpR op_eq (pv 1) (pe_op op_pow pe_int pe_int) (nomark _)) (pss_one (ps_ret (pe_c c_l_of hr (by decide) (by rfl) (pa_cons (pv 0) (pa_cons (pe_lst (pa_cons (pe_op op_pow pe_int pe_int) (pa_cons (pe_op op_sub (pe_op op_pow pe_int pe_int) pe_int) (pa_cons (pe_op op_add (pe_op op_mul (pe_c c_l_next hr (by decide) (by rfl) (pa_cons (pv 0) (pa_cons (pv 1) pa_nil))) (pv 1)) (pe_c c_l_next hr (by decide) (by rfl) (pa_cons (pv 0) (pa_cons (pv 1) pa_nil)))) pa_nil)))) pa_nil))))) pss_nil)
    (pss_one (ps_ret (pe_c c_l_next hr (by decide) (by rfl) (pa_cons (pv 0) (pa_cons (pv 1) pa_nil))))))), ?_⟩
    refine ⟨_, rfl, _, _, rfl, rfl, ⟨by decide, by decide, by decide⟩, by show (5 : Nat) ≤ _; exact Nat.le_of_lt (small1000 (by decide)), fun b hb => ?_⟩
    have s1 := same_new (o := .lst ([9, 9, 30, 1000, (10 : Int) ^ ((6 : Int).toNat)].map V.int)) hb
    refine ⟨a, c, b, t, [9, 9, 30, 1000, (10 : Int) ^ ((6 : Int).toNat)], rfl, S.same s1, by omega, upd_same, (ne_of_none hoa hb).symm, by decide, by decide, fun x H1 hx D1 => ?_⟩
    rw [e6] at hx
    have D1' : Dr a c t 1 H H1 := ⟨(KeepX.same s1).trans D1.1, D1.2⟩
    obtain ⟨kx1, t1, l1, S1⟩ := D1'
    refine ⟨_, rfl, _, _, rfl, rfl, ⟨by decide, by decide, by decide⟩, rfl, _, rfl, ?_⟩
    refine ite2 (fun d => ?_) (fun d => ?_)
    · have hx6 : x = 1000000 := by
        have d' := of_decide_eq_true d
        have d2 : x = (10 : Int) ^ ((6 : Int).toNat) := by injection d'
        exact d2.trans e6
      subst hx6
      refine ⟨_, rfl, _, _, rfl, rfl, ⟨by decide, by decide, by decide⟩, _, _, rfl, rfl, ⟨by decide, by decide, by decide⟩, _, _, rfl, rfl, ?_⟩
      refine ⟨_, rfl, _, rfl, a, c, t1, 1000000, rfl, S1, by omega, by decide, by decide, fun i H2 hi D2 => ?_⟩
      obtain ⟨kx2, t2, l2, S2⟩ := D2
      refine ⟨_, rfl, _, _, rfl, rfl, .inr ⟨by decide, by decide⟩, ?_⟩
      refine ⟨_, rfl, _, rfl, a, c, t2, 1000000, rfl, S2, by omega, by decide, by decide, fun j H3 hj D3 => ?_⟩
      obtain ⟨kx3, t3, l3, S3⟩ := D3
      refine ⟨_, _, rfl, rfl, by show (3 : Nat) ≤ _; exact Nat.le_of_lt (small1000 (by decide)), fun b2 hb2 => ?_⟩
      have s4 := same_new (o := .lst ([(10 : Int) ^ ((12 : Int).toNat), (10 : Int) ^ ((12 : Int).toNat) - 1, (i : Int) * 1000000 + (j : Int)].map V.int)) hb2
      have hsa3 : ∃ o, H3 a = some o := by obtain ⟨z, cs, _, ha, _⟩ := S3; exact ⟨_, ha⟩
      obtain ⟨oa3, hoa3⟩ := hsa3
      refine ⟨a, c, b2, t3, [(10 : Int) ^ ((12 : Int).toNat), (10 : Int) ^ ((12 : Int).toNat) - 1, (i : Int) * 1000000 + (j : Int)], rfl, S3.same s4, by omega, upd_same, (ne_of_none hoa3 hb2).symm, by show (0 : Nat) < 3; decide, by show (3 : Nat) < 1000; decide, fun x H4 hx D4 => ?_⟩
      rw [e12] at hx
      have hx' : x = 1000000000000 ∨ x = 1000000000000 - 1 ∨ x = (i : Int) * 1000000 + (j : Int) := by simpa using hx
      refine k x H4 (by omega) (by omega) ⟨kx1.trans (kx2.trans (kx3.trans ((KeepX.same s4).trans D4.1))), ?_⟩
      obtain ⟨t4, l4, S4⟩ := D4.2
      exact ⟨t4, by omega, S4⟩
    · have hx' : x = 9 ∨ x = 30 ∨ x = 1000 ∨ x = 1000000 := by
        simp only [List.mem_cons, List.not_mem_nil, or_false] at hx
        omega
      have hn : ∃ m : Nat, x = (m : Int) ∧ 0 < m ∧ m < 1073741824 := ⟨x.toNat, by omega, by omega, by omega⟩
      obtain ⟨m, rfl, hm0, hm1⟩ := hn
      refine ⟨_, rfl, _, rfl, a, c, t1, m, rfl, S1, by omega, hm0, hm1, fun i H2 hi D2 => ?_⟩
      refine k i H2 (by omega) (by omega) ⟨kx1.trans D2.1, ?_⟩
      obtain ⟨t2, l2, S2⟩ := D2.2
      exact ⟨t2, by omega, S2⟩
end
end Rc
set_option Elab.async false
set_option linter.all false
set_option maxRecDepth 100000
set_option maxHeartbeats 4000000
namespace Rc
open PySem PySem.Spec PyProof.Rows L2 RcN
open C8 (pe_c pe_mk pe_mt pe_mt0)
theorem fl_le {α : Type} {p q : α → Bool} : ∀ {l : List α}, (∀ x ∈ l, p x = true → q x = true) → (l.filter p).length ≤ (l.filter q).length
  | [], _ => by simp
  | b :: l, h => by
    have ih := fl_le (l := l) fun x hx => h x (List.mem_cons_of_mem _ hx)
    have hb := h b List.mem_cons_self
    by_cases e : p b = true
    · rw [List.filter_cons_of_pos e, List.filter_cons_of_pos (hb e)]; simpa using ih
    · rw [List.filter_cons_of_neg e]
      by_cases e2 : q b = true
      · rw [List.filter_cons_of_pos e2]; simp only [List.length_cons]; omega
      · rw [List.filter_cons_of_neg e2]; exact ih
theorem fl_lt {α : Type} {p q : α → Bool} {y : α} (h1 : p y = false) (h2 : q y = true) : ∀ {l : List α}, (∀ x ∈ l, p x = true → q x = true) → y ∈ l → (l.filter p).length < (l.filter q).length
  | [], _, hy => by cases hy
  | b :: l, h, hy => by
    have hl : ∀ x ∈ l, p x = true → q x = true := fun x hx => h x (List.mem_cons_of_mem _ hx)
    have le := fl_le hl
    have hb := h b List.mem_cons_self
    rcases List.mem_cons.mp hy with e | e
    · subst e
      rw [List.filter_cons_of_pos h2, List.filter_cons_of_neg (by rw [h1]; simp)]
      simp only [List.length_cons]; omega
    · have ih := fl_lt h1 h2 hl e
      by_cases e : p b = true
      · rw [List.filter_cons_of_pos e, List.filter_cons_of_pos (hb e)]; simpa using ih
      · rw [List.filter_cons_of_neg e]
        by_cases e2 : q b = true
        · rw [List.filter_cons_of_pos e2]; simp only [List.length_cons]; omega
        · rw [List.filter_cons_of_neg e2]; exact ih
def dd (v0 v : Int) : Int := (v - v0) % 1000000000001
def cnt (v0 : Int) (l : List Int) (v : Int) : Nat := (l.filter fun x => decide (dd v0 v ≤ dd v0 x)).length
def nxt (v : Int) : Int := if v + 1 > 1000000000000 then 0 else v + 1
theorem dd_nxt {v0 v : Int} (h0 : 0 ≤ v) (h1 : v ≤ 1000000000000) (h : dd v0 v < 1000000000000) : dd v0 (nxt v) = dd v0 v + 1 := by
  unfold dd nxt at *
  split <;> omega
theorem cnt_nxt {v0 v : Int} {l : List Int} (h0 : 0 ≤ v) (h1 : v ≤ 1000000000000) (h : dd v0 v < 1000000000000) (hv : v ∈ l) : cnt v0 l (nxt v) < cnt v0 l v := by
  unfold cnt
  refine fl_lt (y := v) ?_ ?_ (fun x _ q => ?_) hv
  · rw [dd_nxt h0 h1 h]; exact decide_eq_false (by omega)
  · exact decide_eq_true (Int.le_refl _)
  · rw [dd_nxt h0 h1 h] at q
    have := of_decide_eq_true q
    exact decide_eq_true (by omega)
theorem KeepX.mut {x D : Addr} {H H1 : Hp} {o : HO} (a : KeepX x H H1) (h : H D = none) : KeepX x H (upd H1 D o) := fun b u e n => by
  rw [upd_ne (ne_of_none e h)]; exact a b u e n
theorem StAt.other {H : Hp} {a c b : Addr} {t : Nat} {o : HO} (h : StAt H a c t) (h1 : b ≠ a) (h2 : b ≠ c) : StAt (upd H b o) a c t := by
  obtain ⟨z, cs, h0, ha, hc, h3⟩ := h
  exact ⟨z, cs, h0, by rw [upd_ne h1.symm]; exact ha, by rw [upd_ne h2.symm]; exact hc, h3⟩
theorem StAt.at_a {H : Hp} {a c : Addr} {t : Nat} (h : StAt H a c t) : ∃ o, H a = some o := by obtain ⟨z, cs, _, ha, _⟩ := h; exact ⟨_, ha⟩
theorem StAt.at_c {H : Hp} {a c : Addr} {t : Nat} (h : StAt H a c t) : ∃ o, H c = some o := by obtain ⟨z, cs, _, _, hc, _⟩ := h; exact ⟨_, hc⟩
theorem StAt.fresh {H : Hp} {a c b : Addr} {t : Nat} (h : StAt H a c t) (hb : H b = none) : b ≠ a ∧ b ≠ c := by
  obtain ⟨o, ho⟩ := h.at_a
  obtain ⟨u, hu⟩ := h.at_c
  exact ⟨(ne_of_none ho hb).symm, (ne_of_none hu hb).symm⟩
def spNames : Sp := fun vs H Q _ => ∃ (a c : Addr) (t many : Nat), vs = [.ref a, .int (many : Int)] ∧ StAt H a c t ∧ t < 2 ^ 59 ∧ many ≤ 16 ∧
  ∀ (p : Addr) (o : Obj) (nl : List Int) H', Pl o → nl.length = many → nl.Nodup → (∀ x ∈ nl, 0 ≤ x) → H p = none → H' p = some (.frz o (.tup (nl.map V.int))) → Dr a c t 64 H H' → Q (.ref p) H'
section
variable {P : Program} {w : World} {K : PySem.W.Frag} {mg : Str → Option Value} {base : Heap} {C CB CL f : Addr} {fd : FuncData}
theorem ok_l_names (F : DefAt K "_law_names" "_law_names" s_l_names f fd) (T : Txt K mg C CB CL) (c_l_name : C8.Cal P w K mg base 4 "_law_name" spName []) : FnOk P w K mg base CX0 5 f fd ["_law_state", "_law_many"] spNames := by
  refine okN F sc_l_names (fun vs H Q E h => ?_) (fun cdv A outer s H vs Q E hr h => ?_)
  · obtain ⟨a, c, t, many, rfl, _⟩ := h
    rfl
  · obtain ⟨a, c, t, many, rfl, S, ht, h16, k⟩ := h
    have e12 : (10 : Int) ^ ((12 : Int).toNat) = 1000000000000 := by decide
    refine ⟨_, (pss_cons (ps_set (i := 2) sc_l_names.nd rfl (Or.inl rfl) (pe_lst pa_nil))
    (pss_cons (ps_for PassesOwn.never rfl (pi_range1 (by rfl) T.b_range (pa_cons (pv 1) pa_nil)) (pg_name (i := 3) sc_l_names.nd rfl (Or.inl rfl)) (pss_cons (ps_set (i := 4) sc_l_names.nd rfl (Or.inl rfl) (pe_c c_l_name hr (by decide) (by rfl) (pa_cons (pv 0) pa_nil)))
    (pss_cons (ps_while PassesOwn.never (pt_cmpR op_in_seq (pv 4) (pv 2) (by rfl)) (pss_cons (ps_set (i := 4) sc_l_names.nd rfl (Or.inl rfl) (pe_op op_add (pv 4) pe_int))
    (pss_one (ps_if (pt_cmpR op_gt (pv 4) (pe_op op_pow pe_int pe_int) (nomark _)) (pss_one (ps_set (i := 4) sc_l_names.nd rfl (Or.inl rfl) pe_int)) pss_nil))))
    (pss_one (ps_expr (pe_bm PySem.F.plainAttrs_list PySem.F.slot_list_append PySem.F.type_list_append mt_append (pv 2) (pa_cons (pv 4) pa_nil)))))))
    (pss_one (ps_ret (pe_callTy call_tuple_frz (by rfl) T.b_tuple (by decide +kernel) (pa_cons (pv 2) pa_nil)))))), ?_⟩
    refine ⟨nil_ok, fun D hD => ?_⟩
    obtain ⟨Da, Dc⟩ := S.fresh hD
    have S0 : StAt (upd H D (.lst [])) a c t := S.same (same_new hD)
    refine ⟨_, rfl, _, rfl, by omega, by omega, ?_⟩
    rw [Int.toNat_natCast]
    refine for_range (fun i σ H' => ∃ (nl : List Int) (x1 x2 : Option V), σ = [some (.ref a), some (.int (many : Int)), some (.ref D), x1, x2] ∧ nl.length = i ∧ nl.Nodup ∧ (∀ x ∈ nl, 0 ≤ x) ∧ H' D = some (.lst (nl.map V.int)) ∧ Dr a c t (4 * i) H H')
      ⟨[], _, _, rfl, rfl, List.nodup_nil, (fun x hx => nomatch hx), upd_same, (KeepX.same (same_new hD)), t, Nat.le_refl _, S0⟩ ?_ ?_
    · rintro i σ H1 hi ⟨nl, x1, x2, rfl, nlen, nnd, npos, hl, kx, t1, l1, S1⟩
      refine ⟨_, rfl, a, c, t1, rfl, S1, by omega, fun v0 H2 v0p v0m D2 => ?_⟩
      obtain ⟨kx2, t2, l2, S2⟩ := D2
      have hl2 := kx2 _ _ hl Da
      refine while_by (fun σ H' => H' = H2 ∧ ∃ v : Int, σ = [some (.ref a), some (.int (many : Int)), some (.ref D), some (.int (0 + (i : Int))), some (.int v)] ∧ 0 ≤ v ∧ v ≤ 1000000000000 ∧ dd v0 v + (cnt v0 nl v : Int) ≤ nl.length)
        (fun (σ : L2.St) (_ : Hp) => match σ[4]? with | some (some (V.int v)) => cnt v0 nl v | _ => 0) ⟨rfl, v0, rfl, v0p, v0m, ?_⟩ ?_ ?_
      · have e0 : dd v0 v0 = 0 := by unfold dd; omega
        have : cnt v0 nl v0 ≤ nl.length := List.length_filter_le _ _
        omega
      · rintro σ H3 ⟨rfl, v, rfl, vp, vm, vd⟩
        refine ⟨_, rfl, _, rfl, D, _, rfl, .inl (SqL.of hl2), rfl, int_flat _, _, rfl, ?_⟩
        rw [if_neg (by decide), int_in]
        refine ite2 (fun m => ?_) (fun m => ?_)
        · have hm : v ∈ nl := of_decide_eq_true m
          have dl : dd v0 v < 1000000000000 := by omega
          have c1 := cnt_nxt vp vm dl hm
          have d1 := dd_nxt vp vm dl
          have nn : 0 ≤ nxt v ∧ nxt v ≤ 1000000000000 := by unfold nxt; split <;> omega
          refine ⟨_, rfl, _, _, rfl, rfl, ?_⟩
          refine ⟨_, rfl, _, _, rfl, rfl, ⟨by decide, by decide, by decide⟩, _, _, rfl, rfl, _, rfl, ?_⟩
          rw [e12]
          refine ite2 (fun d => ?_) (fun d => ?_)
          · have d' : v + 1 > 1000000000000 := of_decide_eq_true d
            have e : nxt v = 0 := by unfold nxt; rw [if_pos d']
            rw [e] at c1 d1 nn
            exact ⟨⟨rfl, 0, rfl, by omega, by omega, by omega⟩, c1⟩
          · have d' : ¬ v + 1 > 1000000000000 := fun q => d (decide_eq_true q)
            have e : nxt v = v + 1 := by unfold nxt; rw [if_neg d']
            rw [e] at c1 d1 nn
            exact ⟨⟨rfl, v + 1, rfl, by omega, by omega, by omega⟩, c1⟩
        · have hm : v ∉ nl := fun q => m (decide_eq_true q)
          refine ⟨_, rfl, .inl ⟨rfl, _, SqL.of hl2⟩, _, rfl, _, _, _, rfl, rfl, hl2, by rw [List.length_map]; exact small1000 (by omega), ?_⟩
          refine ⟨nl ++ [v], _, _, rfl, by rw [List.length_append, nlen]; rfl, ?_, ?_, ?_, ?_, t2, by omega, S2.other Da Dc⟩
          · rw [List.nodup_append]
            exact ⟨nnd, by simp, fun x hx y hy => by simp at hy; subst hy; exact fun q => hm (q ▸ hx)⟩
          · intro x hx
            rcases List.mem_append.mp hx with q | q
            · exact npos x q
            · simp at q; subst q; exact vp
          · rw [upd_same, List.map_append]; rfl
          · exact (kx.trans kx2).mut hD
      · rintro σ H Q Q' h ⟨v, e, w', e2, p, xs, h1, h2, h3, h4, b, e3, q⟩
        exact ⟨v, e, w', e2, p, xs, h1, h2, h3, h4, b, e3, h _ _ q⟩
    · rintro σ H1 ⟨nl, x1, x2, rfl, nlen, nnd, npos, hl, kx, t1, l1, S1⟩
      refine ⟨_, rfl, D, _, rfl, SqL.of hl, fun p o hpl hp => ?_⟩
      have hpH : H p = none := by
        by_cases c : p = a
        · subst c; obtain ⟨o, ho⟩ := S1.at_a; rw [ho] at hp; cases hp
        · exact kx.free c hp
      have s := same_new (o := .frz o (.tup (nl.map V.int))) hp
      exact k p o nl _ hpl nlen nnd npos hpH upd_same ⟨kx.trans (KeepX.same s), t1, by omega, S1.same s⟩
end
end Rc
set_option Elab.async false
set_option linter.all false
set_option maxRecDepth 100000
set_option maxHeartbeats 4000000
/-! webs, plainly -/
namespace Rc
open PySem PySem.Spec PyProof.Rows L2 RcN
def mn (p q : Nat) : Nat := if q < p then q else p
def mx (p q : Nat) : Nat := if q > p then q else p
theorem mn_int (p q : Nat) : (if (q : Int) < (p : Int) then (q : Int) else (p : Int)) = ((mn p q : Nat) : Int) := by unfold mn; split <;> split <;> omega
theorem mx_int (p q : Nat) : (if (q : Int) > (p : Int) then (q : Int) else (p : Int)) = ((mx p q : Nat) : Int) := by unfold mx; split <;> split <;> omega
theorem mn_lt {p q n : Nat} (h : p ≠ q) (hp : p < n) (hq : q < n) : mn p q < mx p q ∧ mx p q < n := by unfold mn mx; split <;> split <;> omega
def kvE (es : List (Nat × Nat)) : List (List Key × V) := es.map fun p => (kPair p, V.bl true)
theorem kvE_put (es : List (Nat × Nat)) (p : Nat × Nat) : ∃ es', putK (kvE es) (kPair p) (.bl true) = kvE es' ∧ (∀ q, q ∈ es' ↔ q ∈ es ∨ q = p) ∧ (es.Nodup → es'.Nodup) ∧ es'.length ≤ es.length + 1 := by
  by_cases c : p ∈ es
  · refine ⟨es, ?_, fun q => ⟨.inl, fun h => h.elim id fun e => e ▸ c⟩, id, Nat.le_succ _⟩
    unfold putK
    rw [if_pos]
    · unfold kvE
      rw [List.map_map]
      refine List.map_congr_left fun x _ => ?_
      show (if kPair x = kPair p then (kPair x, V.bl true) else (kPair x, V.bl true)) = _
      split <;> rfl
    · refine List.any_eq_true.mpr ⟨_, List.mem_map.mpr ⟨p, c, rfl⟩, by simp⟩
  · refine ⟨es ++ [p], ?_, fun q => by simp, fun h => ?_, by simp⟩
    · unfold putK
      rw [if_neg]
      · unfold kvE; rw [List.map_append]; rfl
      · intro q
        obtain ⟨x, hx, e⟩ := List.any_eq_true.mp q
        obtain ⟨y, hy, rfl⟩ := List.mem_map.mp hx
        have := kPair_inj (of_decide_eq_true e)
        exact c (this ▸ hy)
    · rw [List.nodup_append]
      exact ⟨h, by simp, fun x hx y hy => by simp at hy; subst hy; exact fun q => c (q ▸ hx)⟩
def ClosedE (es : List (Nat × Nat)) (P : Nat → Prop) : Prop := ∀ x y, (x, y) ∈ es → (P x ↔ P y)
structure WebL (n : Nat) (L : List (Nat × Nat)) : Prop where
  lt : ∀ p ∈ L, p.1 < p.2 ∧ p.2 < n
  nd : L.Nodup
  len : L.length ≤ 39
  conn : ∀ P, ClosedE L P → ∀ a b, a < n → b < n → P a → P b
theorem closed_edge {es es' : List (Nat × Nat)} {p q : Nat} {P : Nat → Prop} (h : ∀ x, x ∈ es' ↔ x ∈ es ∨ x = (mn p q, mx p q)) (c : ClosedE es' P) : ClosedE es P ∧ (P p ↔ P q) := by
  refine ⟨fun x y m => c x y ((h _).mpr (.inl m)), ?_⟩
  have e := c _ _ ((h (mn p q, mx p q)).mpr (.inr rfl))
  unfold mn mx at e
  by_cases l : q < p
  · rw [if_pos l, if_neg (by omega)] at e; exact e.symm
  · rw [if_neg l] at e
    by_cases g : q > p
    · rw [if_pos g] at e; exact e
    · have : p = q := by omega
      subst this; exact Iff.rfl
theorem mem_nbs {L : List (Nat × Nat)} {h y : Nat} : y ∈ nbs L h ↔ (h, y) ∈ L ∨ (y, h) ∈ L := by
  unfold nbs
  simp only [List.mem_append, List.mem_map, List.mem_filter, decide_eq_true_eq]
  constructor
  · rintro (⟨⟨a, b⟩, ⟨m, e⟩, e2⟩ | ⟨⟨a, b⟩, ⟨m, e⟩, e2⟩)
    · simp only at e e2; subst e; subst e2; exact .inl m
    · simp only at e e2; subst e; subst e2; exact .inr m
  · rintro (m | m)
    · exact .inl ⟨_, ⟨m, rfl⟩, rfl⟩
    · exact .inr ⟨_, ⟨m, rfl⟩, rfl⟩
theorem nd_map {α β : Type} {f : α → β} : ∀ {l : List α}, l.Nodup → (∀ x ∈ l, ∀ y ∈ l, f x = f y → x = y) → (l.map f).Nodup
  | [], _, _ => List.nodup_nil
  | a :: l, h, i => by
    obtain ⟨h1, h2⟩ := List.nodup_cons.mp h
    rw [List.map_cons, List.nodup_cons]
    refine ⟨fun m => ?_, nd_map h2 fun x hx y hy => i x (List.mem_cons_of_mem _ hx) y (List.mem_cons_of_mem _ hy)⟩
    obtain ⟨b, hb, e⟩ := List.mem_map.mp m
    have := i b (List.mem_cons_of_mem _ hb) a List.mem_cons_self e
    subst this; exact h1 hb
theorem nbs_nd {n : Nat} {L : List (Nat × Nat)} (W : WebL n L) (h : Nat) : (nbs L h).Nodup := by
  unfold nbs
  rw [List.nodup_append]
  refine ⟨nd_map (W.nd.filter _) ?_, nd_map (W.nd.filter _) ?_, ?_⟩
  · rintro ⟨a, b⟩ hx ⟨c, d⟩ hy e
    simp only [List.mem_filter, decide_eq_true_eq] at hx hy e
    simp [hx.2, hy.2, e]
  · rintro ⟨a, b⟩ hx ⟨c, d⟩ hy e
    simp only [List.mem_filter, decide_eq_true_eq] at hx hy e
    simp [hx.2, hy.2, e]
  · intro x hx y hy e
    obtain ⟨⟨a, b⟩, hx1, ex⟩ := List.mem_map.mp hx
    obtain ⟨⟨c, d⟩, hy1, ey⟩ := List.mem_map.mp hy
    simp only [List.mem_filter, decide_eq_true_eq] at hx1 hy1 ex ey
    have h1 := (W.lt _ hx1.1).1
    have h2 := (W.lt _ hy1.1).1
    simp only at h1 h2
    omega
theorem web_of {n : Nat} {L : List (Nat × Nat)} {nb : Nat → List Nat} {nl : List Int} (W : WebL n L) (hnl : nl.length = n) (hnd : nl.Nodup) (hp : ∀ h, h < n → (nb h).Perm (nbs L h)) : Rm.Web n nb (fun i => nl.getD i 0) := by
  have mem : ∀ a b, a < n → (b ∈ nb a ↔ (a, b) ∈ L ∨ (b, a) ∈ L) := fun a b ha => (hp a ha).mem_iff.trans mem_nbs
  have rng : ∀ a b, (a, b) ∈ L ∨ (b, a) ∈ L → b < n := fun a b h => by
    rcases h with h | h
    · exact (W.lt _ h).2
    · have := W.lt _ h; simp only at this; omega
  refine ⟨fun a b ha hb => rng a b ((mem a b ha).mp hb), fun a b ha hb => ?_, fun a ha hb => ?_, fun a ha => (hp a ha).symm.nodup (nbs_nd W a), fun P a ha pa cl b hb => ?_, fun a b ha hb e => ?_⟩
  · have h := (mem a b ha).mp hb
    exact (mem b a (rng a b h)).mpr h.symm
  · rcases (mem a a ha).mp hb with h | h
    · have := (W.lt _ h).1; simp only at this; omega
    · have := (W.lt _ h).1; simp only at this; omega
  · refine W.conn P (fun x y m => ?_) a b ha hb pa
    have hy := (W.lt _ m).2
    have hx := (W.lt _ m).1
    simp only at hx hy
    exact ⟨fun q => cl x y (by omega) q ((mem x y (by omega)).mpr (.inl m)), fun q => cl y x hy q ((mem y x hy).mpr (.inr m))⟩
  · have ha' : a < nl.length := by omega
    have hb' : b < nl.length := by omega
    simp only [List.getD_eq_getElem?_getD, List.getElem?_eq_getElem ha', List.getElem?_eq_getElem hb', Option.getD_some] at e
    exact (List.getElem_inj hnd).mp e
theorem nbs_len {n : Nat} {L : List (Nat × Nat)} {nl : List Int} (W : WebL n L) (hnl : nl.length = n) (hnd : nl.Nodup) {h : Nat} (hh : h < n) : (nbs L h).length ≤ n :=
  Rm.nb_len (web_of (nb := nbs L) W hnl hnd fun _ _ => List.Perm.refl _) hh
end Rc
set_option Elab.async false
set_option linter.all false
set_option maxRecDepth 100000
set_option maxHeartbeats 4000000
namespace Rc
open PySem PySem.Spec PyProof.Rows L2 RcN
open C8 (pe_c pe_mk pe_mt pe_mt0)
theorem three_ok {a b c : V} : [a, b, c].length ≤ sizeLine := Nat.le_of_lt (small1000 (show 3 ≤ 1000 by decide))
theorem four_ok {a b c d : V} : [a, b, c, d].length ≤ sizeLine := Nat.le_of_lt (small1000 (show 4 ≤ 1000 by decide))
theorem seq_nat {n k : Nat} (h : k < n) : seqIndex? (k : Int) n = some k := by
  have h0 : ¬ ((k : Int) < 0) := by omega
  have h1 : (decide ((0 : Int) ≤ (k : Int)) && decide ((k : Int) < (n : Int))) = true := by simp [h]
  simp only [seqIndex?, if_neg h0, h1, if_true, Int.toNat_natCast]
theorem rgV_nat (n : Nat) : rgV 0 (n : Int) = vI (List.range n) := by
  unfold rgV vI
  rw [Int.sub_zero, Int.toNat_natCast]
  exact List.map_congr_left fun x _ => by rw [Int.zero_add]
theorem vI_erase : ∀ (l : List Nat) (k : Nat), (vI l).eraseIdx k = vI (l.eraseIdx k)
  | [], _ => rfl
  | _ :: _, 0 => rfl
  | x :: l, k + 1 => by
    show V.int (x : Int) :: (vI l).eraseIdx k = V.int (x : Int) :: vI (l.eraseIdx k)
    rw [vI_erase l k]
theorem erase_perm {α : Type} : ∀ {l : List α} {k : Nat} {x : α}, l[k]? = some x → (x :: l.eraseIdx k).Perm l
  | [], _, _, h => by simp at h
  | y :: l, 0, x, h => by simp at h; subst h; exact List.Perm.refl _
  | y :: l, k + 1, x, h => by
    have := erase_perm (l := l) (k := k) (x := x) (by simpa using h)
    show (x :: y :: l.eraseIdx k).Perm (y :: l)
    exact (List.Perm.swap y x _).trans (this.cons y)
/-- a web on the heap: (names, lines) -/
def WebAt (H : Hp) (p na li : Addr) (nl : List Int) (L : List (Nat × Nat)) : Prop := ∃ (xs : List V) (o : Obj), H p = some (.tup [.ref na, .ref li]) ∧ Pl o ∧ H na = some (.frz o (.tup (nl.map V.int))) ∧ H li = some (.tup xs) ∧ PairsAt H xs L
structure WebGood (nl : List Int) (L : List (Nat × Nat)) : Prop where
  w : WebL nl.length L
  n1 : 1 ≤ nl.length
  n16 : nl.length ≤ 16
  nd : nl.Nodup
def spWeb : Sp := fun vs H Q _ => ∃ (a c : Addr) (t : Nat), vs = [.ref a, .int 8, .int 16] ∧ StAt H a c t ∧ t < 2 ^ 58 ∧
  ∀ (p na li : Addr) (nl : List Int) (L : List (Nat × Nat)) H', WebAt H' p na li nl L → WebGood nl L → Dr a c t 200 H H' → Q (.ref p) H'
section
variable {P : Program} {w : World} {K : PySem.W.Frag} {mg : Str → Option Value} {base : Heap} {C CB CL f : Addr} {fd : FuncData}
theorem ok_l_web (F : DefAt K "_law_web" "_law_web" s_l_web f fd) (T : Txt K mg C CB CL) (c_l_next : C8.Cal P w K mg base 2 "_law_next" spNext []) (c_l_of : C8.Cal P w K mg base 3 "_law_of" spOf []) (c_l_names : C8.Cal P w K mg base 5 "_law_names" spNames []) : FnOk P w K mg base CX0 6 f fd ["_law_state", "_law_most", "_law_far"] spWeb := by
  refine okN F sc_l_web (fun vs H Q E h => ?_) (fun cdv A outer s H vs Q E hr h => ?_)
  · obtain ⟨a, c, t, rfl, _⟩ := h
    rfl
  · obtain ⟨a, c, t, rfl, S, ht, k⟩ := h
    have hu := hu_of hr
    refine ⟨_, (pss_cons (ps_set (i := 3) sc_l_web.nd rfl (Or.inl rfl) (pe_op op_add pe_int (pe_c c_l_next hr (by decide) (by rfl) (pa_cons (pv 0) (pa_cons (pe_ix ix_list (pe_lst (pa_cons (pv 1) (pa_cons (pv 2) pa_nil))) (pe_callTy call_int1 (by rfl) T.b_int (by decide +kernel) (pa_cons (pe_cmpR op_eq (pe_c c_l_next hr (by decide) (by rfl) (pa_cons (pv 0) (pa_cons pe_int pa_nil))) pe_int (nomark _)) pa_nil)) (fun _ _ => rfl)) pa_nil)))))
    (pss_cons (ps_set (i := 4) sc_l_web.nd rfl (Or.inr rfl) (pe_listRg rfl (by rfl) T.b_list (prg_1 (by rfl) T.b_range (pv 3))))
    (pss_cons (ps_setLc (i := 5) (own := [("_law_k", 8)]) (g := gName 8) (te := tBM K "list" rPopAt (tVar 4) (tCons (tCall spNext [] C8.E0 (tCons (tVar 0) (tCons (tCB (Evl.rLenS K) (tCons (tVar 4) tNil)) tNil))) tNil)) (tt := tYes) rfl sc_l_web.nd rfl rfl (sw_true rfl rfl rfl (by decide +kernel)) (pi_range1 (by rfl) T.b_range (pa_cons (pv 3) pa_nil)) (blkOk_by (own := [("_law_k", 8)]) (N := ["_law_state", "_law_most", "_law_far", "_law_many", "_law_left", "_law_order", "_law_way", "_law_lines", "_law_k", "_law_up", "_law_one", "_law_other"]) (sc := defScope s_l_web) (by decide +kernel)) (fun _ _ _ _ _ => (pg_name (i := 8) sc_l_web.nd rfl (Or.inl rfl))) (fun _ _ _ _ _ => pts_nil) (fun _ _ _ _ _ => (pe_bm PySem.F.plainAttrs_list PySem.F.slot_list_pop PySem.F.type_list_pop mt_popAt (pv 4) (pa_cons (pe_c c_l_next hr (by decide) (by rfl) (pa_cons (pv 0) (pa_cons (pe_callB (id := "len") (r := Evl.rLenS K) call_len_seq (by rfl) T.b_len (by decide +kernel) (pa_cons (pv 4) pa_nil)) pa_nil))) pa_nil))))
    (pss_cons (ps_set (i := 6) sc_l_web.nd rfl (Or.inl rfl) (pe_c c_l_next hr (by decide) (by rfl) (pa_cons (pv 0) (pa_cons pe_int pa_nil))))
    (pss_cons (ps_set (i := 7) sc_l_web.nd rfl (Or.inl rfl) pe_dnewT)
    (pss_cons (ps_for PassesOwn.never rfl (pi_range2 (by rfl) T.b_range (pa_cons pe_int (pa_cons (pv 3) pa_nil))) (pg_name (i := 8) sc_l_web.nd rfl (Or.inl rfl)) (pss_cons (ps_set (i := 9) sc_l_web.nd rfl (Or.inl rfl) (pe_ix ix_list (pv 5) (pe_ix ix_list (pe_lst (pa_cons (pe_op op_sub (pv 8) pe_int) (pa_cons pe_int (pa_cons (pe_op op_fdiv (pe_op op_sub (pv 8) pe_int) pe_int) (pa_cons (pe_c c_l_next hr (by decide) (by rfl) (pa_cons (pv 0) (pa_cons (pv 8) pa_nil))) pa_nil))))) (pv 6) (fun _ _ => rfl)) (fun _ _ => rfl)))
    (pss_one (ps_dput hu (pv 7) (pe_tup (pa_cons (pe_callB (call_min2 rfl) (by rfl) T.b_min (by decide +kernel) (pa_cons (pv 9) (pa_cons (pe_ix ix_list (pv 5) (pv 8) (fun _ _ => rfl)) pa_nil))) (pa_cons (pe_callB (call_max2 rfl) (by rfl) T.b_max (by decide +kernel) (pa_cons (pv 9) (pa_cons (pe_ix ix_list (pv 5) (pv 8) (fun _ _ => rfl)) pa_nil))) pa_nil))) pe_bl rfl))))
    (pss_cons (ps_for PassesOwn.never rfl (pi_range1 (by rfl) T.b_range (pa_cons (pe_c c_l_of hr (by decide) (by rfl) (pa_cons (pv 0) (pa_cons (pe_lst (pa_cons pe_int (pa_cons pe_int (pa_cons pe_int (pa_cons pe_int pa_nil))))) pa_nil))) pa_nil)) (pg_name (i := 8) sc_l_web.nd rfl (Or.inl rfl)) (pss_cons (ps_par (i := 10) (j := 11) rfl sc_l_web.nd rfl rfl (by decide) rfl rfl (pa_cons (pe_c c_l_next hr (by decide) (by rfl) (pa_cons (pv 0) (pa_cons (pv 3) pa_nil))) (pa_cons (pe_c c_l_next hr (by decide) (by rfl) (pa_cons (pv 0) (pa_cons (pv 3) pa_nil))) pa_nil)) (by rfl))
    (pss_one (ps_if (pt_cmpR op_ne (pv 10) (pv 11) (nomark _)) (pss_one (ps_dput hu (pv 7) (pe_tup (pa_cons (pe_callB (call_min2 rfl) (by rfl) T.b_min (by decide +kernel) (pa_cons (pv 10) (pa_cons (pv 11) pa_nil))) (pa_cons (pe_callB (call_max2 rfl) (by rfl) T.b_max (by decide +kernel) (pa_cons (pv 10) (pa_cons (pv 11) pa_nil))) pa_nil))) pe_bl rfl)) pss_nil))))
    (pss_one (ps_ret (pe_tup (pa_cons (pe_c c_l_names hr (by decide) (by rfl) (pa_cons (pv 0) (pa_cons (pv 3) pa_nil))) (pa_cons (pe_callTy call_tuple_of (by rfl) T.b_tuple (by decide +kernel) (pa_cons (pe_callB (cr_sortedDT rfl) (by rfl) T.b_sorted (by decide +kernel) (pa_cons (pv 7) pa_nil)) pa_nil)) pa_nil)))))))))))), ?_⟩
    -- many
    refine ⟨_, rfl, _, rfl, _, rfl, two_ok, fun b1 hb1 => ?_⟩
    have s1 := same_new (o := .lst [.int 8, .int 16]) hb1
    have S1 := S.same s1
    obtain ⟨b1a, b1c⟩ := S.fresh hb1
    refine ⟨_, rfl, a, c, t, 8, rfl, S1, by omega, by decide, by decide, fun i1 H2 hi1 D2 => ?_⟩
    obtain ⟨kx2, t2, l2, S2⟩ := D2
    have hb2 := kx2 _ _ upd_same b1a
    refine ⟨rfl, .inr ⟨_, rfl, ?_⟩⟩
    obtain ⟨mo, hmo, mo1, mo2⟩ : ∃ mo : Nat, atI [V.int 8, V.int 16] (if (decide (V.int (i1 : Int) = V.int 0)) = true then 1 else 0) = some (.int (mo : Int)) ∧ 0 < mo ∧ mo ≤ 16 := by
      cases decide (V.int (i1 : Int) = V.int 0)
      · exact ⟨8, rfl, by decide, by decide⟩
      · exact ⟨16, rfl, by decide, by decide⟩
    refine ⟨_, _, _, _, rfl, rfl, SqL.of hb2, hmo, a, c, t2, mo, rfl, S2, by omega, mo1, by omega, fun i2 H3 hi2 D3 => ?_⟩
    obtain ⟨kx3, t3, l3, S3⟩ := D3
    have kx03 : KeepX a H H3 := (KeepX.same s1).trans (kx2.trans kx3)
    refine ⟨_, _, rfl, rfl, ?_⟩
    obtain ⟨many, em⟩ : ∃ many : Nat, many = 1 + i2 := ⟨_, rfl⟩
    have emi : (1 : Int) + (i2 : Int) = (many : Int) := by omega
    have m1 : 1 ≤ many := by omega
    have m16 : many ≤ 16 := by omega
    dsimp only
    rw [emi]
    -- left
    refine ⟨_, rfl, _, rfl, ⟨by omega, by omega, by omega, by omega, by omega⟩, fun Lf hLf => ?_⟩
    dsimp only
    rw [rgV_nat]
    have hLf0 := kx03.free (S3.fresh hLf).1 hLf
    obtain ⟨Lfa, Lfc⟩ := S3.fresh hLf
    have S4 := S3.same (same_new (o := .lst (vI (List.range many))) hLf)
    have kx4 := kx03.trans (KeepX.same (same_new (o := .lst (vI (List.range many))) hLf))
    -- order
    refine ⟨_, rfl, _, rfl, by omega, by omega, fun D hD => ?_⟩
    rw [Int.toNat_natCast]
    obtain ⟨Da, Dc⟩ := S4.fresh hD
    have hD0 := kx4.free Da hD
    have DL : Lf ≠ D := ne_of_none upd_same hD
    refine lc_range (fun i H' => ∃ lf od : List Nat, H' Lf = some (.lst (vI lf)) ∧ H' D = some (.lst (vI od)) ∧ (od ++ lf).Perm (List.range many) ∧ od.length = i ∧ KeepX a H H' ∧ ∃ t', t' ≤ t + 2 + i ∧ StAt H' a c t')
      ⟨List.range many, [], by rw [upd_ne DL, upd_same], upd_same, List.Perm.refl _, rfl, kx4.mut hD0, t3, by omega, S4.other Da Dc⟩ ?_ ?_
    · rintro i H' hi ⟨lf, od, hlf, hod, pm, ol, kx, t', lt', S'⟩
      have pl := pm.length_eq
      rw [List.length_append, List.length_range] at pl
      refine ⟨rfl, ?_⟩
      unfold tYes
      refine iteT ?_
      refine ⟨_, rfl, .inl ⟨rfl, _, SqL.of hlf⟩, _, rfl, _, rfl, _, _, rfl, .inl (SqL.of hlf), a, c, t', lf.length, by rw [vI_len]; rfl, S', by omega, by omega, by omega, fun j H5 hj D5 => ?_⟩
      obtain ⟨kx5, t5, l5, S5⟩ := D5
      have hlf5 := kx5 _ _ hlf Lfa
      have hod5 := kx5 _ _ hod Da
      obtain ⟨y, hy⟩ : ∃ y, lf[j]? = some y := ⟨_, List.getElem?_eq_getElem hj⟩
      refine ⟨_, _, _, j, .int (y : Int), rfl, rfl, hlf5, by omega, by omega, by rw [vI_len]; exact seq_nat hj, by rw [vI_get, hy]; rfl, ?_⟩
      rw [vI_erase]
      refine ⟨_, by rw [upd_ne DL.symm]; exact hod5, by rw [vI_len]; exact small1000 (by omega), lf.eraseIdx j, od ++ [y], by rw [upd_ne DL, upd_same], by rw [upd_same, vI_app]; rfl, ?_, by rw [List.length_append, ol]; rfl, ((kx.trans kx5).mut hLf0).mut hD0, t5, by omega, (S5.other Lfa Lfc).other Da Dc⟩
      rw [List.append_assoc]
      exact (List.Perm.append_left od (erase_perm hy)).trans pm
    rintro H5 ⟨lf, od, _, hod, pm, ol, kx5, t5, l5, S5⟩
    have lf0 : lf = [] := by
      have pl := pm.length_eq
      rw [List.length_append, List.length_range] at pl
      exact List.length_eq_zero_iff.mp (by omega)
    rw [lf0, List.append_nil] at pm
    have ond : od.Nodup := pm.symm.nodup List.nodup_range
    have olt : ∀ x ∈ od, x < many := fun x hx => List.mem_range.mp (pm.mem_iff.mp hx)
    -- way
    refine ⟨_, rfl, a, c, t5, 4, rfl, S5, by omega, by decide, by decide, fun wy H6 hwy D6 => ?_⟩
    obtain ⟨kx6, t6, l6, S6⟩ := D6
    have kx06 := kx5.trans kx6
    have hod6 := kx6 _ _ hod Da
    refine fun Ln hLn => ?_
    obtain ⟨Lna, Lnc⟩ := S6.fresh hLn
    have hLn0 := kx06.free Lna hLn
    have LnD : D ≠ Ln := ne_of_none hod6 hLn
    have S7 := S6.same (same_new (o := .dT []) hLn)
    have kx7 := kx06.mut (o := .dT []) hLn0
    -- the tree
    refine ⟨_, rfl, _, _, rfl, ⟨by omega, by omega, by omega, by omega⟩, ?_⟩
    rw [show ((many : Int) - 1).toNat = many - 1 by omega]
    refine for_range (fun i σ H' => ∃ (es : List (Nat × Nat)) (x8 x9 : Option V), σ = [some (.ref a), some (.int 8), some (.int 16), some (.int (many : Int)), some (.ref Lf), some (.ref D), some (.int (wy : Int)), some (.ref Ln), x8, x9, none, none] ∧
      H' D = some (.lst (vI od)) ∧ H' Ln = some (.dT (kvE es)) ∧ es.Nodup ∧ (∀ p ∈ es, p.1 < p.2 ∧ p.2 < many) ∧ es.length ≤ i ∧ (∀ P, ClosedE es P → ∀ x y, x ∈ od.take (i + 1) → y ∈ od.take (i + 1) → P x → P y) ∧ KeepX a H H' ∧ ∃ t', t' ≤ t + 19 + i ∧ StAt H' a c t')
      ⟨[], _, _, rfl, by rw [upd_ne LnD]; exact hod6, upd_same, List.nodup_nil, (fun p hp => nomatch hp), Nat.le_refl _, fun P _ x y hx hy px => ?_, kx7, t6, by omega, S7⟩ ?_ ?_
    · have ht1 : od.take 1 = [od[0]'(by omega)] := by
        rw [List.take_one, List.head?_eq_getElem?, List.getElem?_eq_getElem (by omega)]; rfl
      rw [show 0 + 1 = 1 from rfl, ht1] at hx hy
      simp at hx hy
      rw [hy, ← hx]; exact px
    · rintro i σ H' hi ⟨es, x8, x9, rfl, hod', hes, end_, elt, elen, econ, kx, t', lt', S'⟩
      rw [show (1 : Int) + (i : Int) = ((i + 1 : Nat) : Int) by omega]
      refine ⟨_, rfl, _, rfl, _, _, rfl, rfl, _, rfl, _, _, rfl, rfl, _, _, rfl, rfl, ⟨by decide, by decide⟩, _, rfl, _, rfl, a, c, t', i + 1, rfl, S', by omega, by omega, by omega, fun d H8 hd D8 => ⟨four_ok, fun b hb => ?_⟩⟩
      obtain ⟨kx8, t8, l8, S8⟩ := D8
      obtain ⟨ba, bc⟩ := S8.fresh hb
      obtain ⟨j, hj, ej⟩ : ∃ j : Nat, j < i + 1 ∧ atI [V.int (((i + 1 : Nat) : Int) - 1), V.int 0, V.int ((((i + 1 : Nat) : Int) - 1) / 2), V.int (d : Int)] (wy : Int) = some (.int (j : Int)) := by
        match wy, hwy with
        | 0, _ => exact ⟨i, by omega, at_nat (h := 0) (by show some (V.int _) = _; congr 2; omega)⟩
        | 1, _ => exact ⟨0, by omega, at_nat (h := 1) rfl⟩
        | 2, _ => exact ⟨i / 2, by omega, at_nat (h := 2) (by show some (V.int _) = _; congr 2; omega)⟩
        | 3, _ => exact ⟨d, hd, at_nat (h := 3) rfl⟩
      have jl : j < od.length := by omega
      have kl : i + 1 < od.length := by omega
      have s9 := same_new (o := .lst [V.int (((i + 1 : Nat) : Int) - 1), V.int 0, V.int ((((i + 1 : Nat) : Int) - 1) / 2), V.int (d : Int)]) hb
      have S9 := S8.same s9
      have kx9 := kx8.trans (KeepX.same s9)
      have hod9 := kx9 _ _ hod' Da
      have hes9 := kx9 _ _ hes Lna
      have gup : atI (vI od) (j : Int) = some (.int ((od[j]'jl : Nat) : Int)) := at_nat (by rw [vI_get, List.getElem?_eq_getElem jl]; rfl)
      have gk : atI (vI od) ((i + 1 : Nat) : Int) = some (.int ((od[i + 1]'kl : Nat) : Int)) := at_nat (by rw [vI_get, List.getElem?_eq_getElem kl]; rfl)
      refine ⟨_, rfl, _, _, _, _, rfl, rfl, SqL.of upd_same, ej, _, _, _, _, rfl, rfl, SqL.of hod9, gup, ?_⟩
      refine ⟨_, rfl, _, rfl, _, rfl, _, rfl, _, _, _, _, rfl, rfl, SqL.of hod9, gk, _, _, rfl, _, rfl, _, rfl, _, rfl, _, _, _, _, rfl, rfl, SqL.of hod9, gk, _, _, rfl, two_ok, fun b2 hb2 => ?_⟩
      have s10 := same_new (o := .tup [V.int (if ((od[i + 1]'kl : Nat) : Int) < ((od[j]'jl : Nat) : Int) then ((od[i + 1]'kl : Nat) : Int) else ((od[j]'jl : Nat) : Int)), V.int (if ((od[i + 1]'kl : Nat) : Int) > ((od[j]'jl : Nat) : Int) then ((od[i + 1]'kl : Nat) : Int) else ((od[j]'jl : Nat) : Int))]) hb2
      have S10 := S9.same s10
      have kx10 := kx9.trans (KeepX.same s10)
      refine ⟨Ln, _, rfl, .t (k := kPair (mn (od[j]'jl) (od[i + 1]'kl), mx (od[j]'jl) (od[i + 1]'kl))) (s10 _ _ hes9) (by rw [upd_same, mn_int, mx_int]; rfl) (by unfold kvE; rw [List.length_map]; exact small1000 (by omega)), ?_⟩
      obtain ⟨es', e1, e2, e3, e4⟩ := kvE_put es (mn (od[j]'jl) (od[i + 1]'kl), mx (od[j]'jl) (od[i + 1]'kl))
      rw [e1]
      have ne : od[j]'jl ≠ od[i + 1]'kl := fun e => by
        have := (List.getElem_inj ond).mp e
        omega
      refine ⟨es', _, _, rfl, by rw [upd_ne LnD]; exact s10 _ _ hod9, upd_same, e3 end_, fun p hp => ?_, by omega, fun P cl x y hx hy px => ?_, (kx.trans kx10).mut hLn0, t8, by omega, S10.other Lna Lnc⟩
      · rcases (e2 p).mp hp with q | q
        · exact elt p q
        · subst q; exact mn_lt ne (olt _ (List.getElem_mem jl)) (olt _ (List.getElem_mem kl))
      · obtain ⟨cl1, cl2⟩ := closed_edge e2 cl
        have up : od[j]'jl ∈ od.take (i + 1) := by
          rw [List.mem_take_iff_getElem]
          exact ⟨j, by omega, rfl⟩
        have tk : od.take (i + 1 + 1) = od.take (i + 1) ++ [od[i + 1]'kl] := take_more (List.getElem?_eq_getElem kl)
        have key : ∀ z, z ∈ od.take (i + 1 + 1) → (P z ↔ P (od[j]'jl)) := fun z hz => by
          rw [tk] at hz
          rcases List.mem_append.mp hz with q | q
          · exact ⟨econ P cl1 z _ q up, econ P cl1 _ z up q⟩
          · simp at q; subst q; exact cl2.symm
        exact (key y hy).mpr ((key x hx).mp px)
    rintro σ H8 ⟨es, x8, x9, rfl, hod8, hes8, end8, elt8, elen8, econ8, kx8, t8, l8, S8⟩
    have econ : ∀ P, ClosedE es P → ∀ x y, x < many → y < many → P x → P y := fun P cl x y hx hy => by
      have tk : od.take (many - 1 + 1) = od := List.take_of_length_le (by omega)
      have mem : ∀ z, z < many → z ∈ od := fun z hz => pm.mem_iff.mpr (List.mem_range.mpr hz)
      exact econ8 P cl x y (by rw [tk]; exact mem x hx) (by rw [tk]; exact mem y hy)
    -- more lines
    refine ⟨_, rfl, four_ok, fun b hb => ?_⟩
    have s9 := same_new (o := .lst ([0, 2, 6, 24].map V.int)) hb
    obtain ⟨ba, bc⟩ := S8.fresh hb
    refine ⟨a, c, b, t8, [0, 2, 6, 24], rfl, S8.same s9, by omega, upd_same, ba, by decide, by decide, fun x H9 hx D9 => ?_⟩
    obtain ⟨kx9, t9, l9, S9⟩ := D9
    have kx89 : KeepX a H8 H9 := (KeepX.same s9).trans kx9
    have hx' : x = 0 ∨ x = 2 ∨ x = 6 ∨ x = 24 := by simpa using hx
    refine ⟨x, rfl, by omega, by omega, ?_⟩
    have x24 : x.toNat ≤ 24 := by omega
    refine for_range (fun i σ H' => ∃ (es : List (Nat × Nat)) (x8 x9 x10 x11 : Option V), σ = [some (.ref a), some (.int 8), some (.int 16), some (.int (many : Int)), some (.ref Lf), some (.ref D), some (.int (wy : Int)), some (.ref Ln), x8, x9, x10, x11] ∧
      H' Ln = some (.dT (kvE es)) ∧ es.Nodup ∧ (∀ p ∈ es, p.1 < p.2 ∧ p.2 < many) ∧ es.length ≤ 15 + i ∧ (∀ P, ClosedE es P → ∀ x y, x < many → y < many → P x → P y) ∧ KeepX a H H' ∧ ∃ t', t' ≤ t + 36 + 2 * i ∧ StAt H' a c t')
      ⟨es, _, _, _, _, rfl, kx89 _ _ hes8 Lna, end8, elt8, by omega, econ, kx8.trans kx89, t9, by omega, S9⟩ ?_ ?_
    · rintro i σ H' hi ⟨es, x8, x9, x10, x11, rfl, hes, end_, elt, elen, econ, kx, t', lt', S'⟩
      refine ⟨_, rfl, _, rfl, a, c, t', many, rfl, S', by omega, by omega, by omega, fun p H1 hp D1 => ?_⟩
      obtain ⟨kx1, u1, lu1, U1⟩ := D1
      refine ⟨_, rfl, _, rfl, a, c, u1, many, rfl, U1, by omega, by omega, by omega, fun q H2 hq D2 => ?_⟩
      obtain ⟨kx2, u2, lu2, U2⟩ := D2
      have kx12 := kx1.trans kx2
      have hes2 := kx12 _ _ hes Lna
      refine ⟨_, _, rfl, ?_⟩
      refine ⟨_, rfl, _, rfl, rfl, _, rfl, ?_⟩
      refine ite2 (fun c => ?_) (fun c => ?_)
      · have ne : p ≠ q := fun e => by subst e; simp at c
        refine ⟨_, rfl, _, rfl, _, rfl, _, _, rfl, _, rfl, _, rfl, _, _, rfl, two_ok, fun b2 hb2 => ?_⟩
        have s10 := same_new (o := .tup [V.int (if (q : Int) < (p : Int) then (q : Int) else (p : Int)), V.int (if (q : Int) > (p : Int) then (q : Int) else (p : Int))]) hb2
        have U10 := U2.same s10
        have kx10 := kx12.trans (KeepX.same s10)
        refine ⟨Ln, _, rfl, .t (k := kPair (mn p q, mx p q)) (s10 _ _ hes2) (by rw [upd_same, mn_int, mx_int]; rfl) (by unfold kvE; rw [List.length_map]; exact small1000 (by omega)), ?_⟩
        obtain ⟨es', e1, e2, e3, e4⟩ := kvE_put es (mn p q, mx p q)
        rw [e1]
        refine ⟨es', _, _, _, _, rfl, upd_same, e3 end_, fun p' hp' => ?_, by omega, fun P cl x y hx hy px => econ P (closed_edge e2 cl).1 x y hx hy px, (kx.trans kx10).mut hLn0, u2, by omega, U10.other Lna Lnc⟩
        rcases (e2 p').mp hp' with z | z
        · exact elt p' z
        · subst z; exact mn_lt ne hp hq
      · exact ⟨es, _, _, _, _, rfl, hes2, end_, elt, by omega, econ, kx.trans kx12, u2, by omega, U2⟩
    rintro σ H10 ⟨es, x8, x9, x10, x11, rfl, hes, end_, elt, elen, econ, kx, u10, lu10, U10⟩
    refine ⟨_, rfl, _, rfl, a, c, u10, many, rfl, U10, by omega, m16, fun na on nl H11 hpl nlen nnd npos hna0 hna D11 => ?_⟩
    obtain ⟨kx11, u11, lu11, U11⟩ := D11
    have hes11 := kx11 _ _ hes Lna
    refine ⟨_, rfl, Ln, kvE es, es, rfl, hes11, by unfold kvE; rw [List.map_map, ]; rfl, by omega, fun p hp => by have := elt p hp; omega, fun ts L p2 pmL pr hp2 => ?_⟩
    have s12 := same_new (o := .lst (ts.map V.ref)) hp2
    refine ⟨p2, _, rfl, .inl ⟨SqL.of upd_same, fun li hli => ?_⟩⟩
    have s13 := same_upd (o := .tup (ts.map V.ref)) s12 (s12.free hli)
    refine ⟨two_ok, fun wb hwb => ?_⟩
    have s14 := same_upd (o := .tup [.ref na, .ref li]) s13 (s13.free hwb)
    have wn : ∀ {b o}, (upd (upd H11 p2 (.lst (ts.map V.ref))) li (.tup (ts.map V.ref))) b = some o → b ≠ wb := fun h => ne_of_none h hwb
    refine k wb na li nl L _ ⟨ts.map V.ref, on, upd_same, hpl, s14 _ _ hna, ?_, ?_⟩ ⟨⟨fun p hp => ?_, pmL.symm.nodup end_, by have := pmL.length_eq; omega, fun P cl x y hx hy px => ?_⟩, by omega, by omega, nnd⟩ ⟨(kx.trans kx11).trans (KeepX.same s14), u11, by omega, U11.same s14⟩
    · rw [upd_ne (wn upd_same), upd_same]
    · exact paired_mapL (f := V.ref) (paired_imp pr fun b p e => ⟨b, rfl, s14 _ _ e⟩)
    · rw [nlen]; exact elt p (pmL.mem_iff.mp hp)
    · rw [nlen] at hx hy
      exact econ P (fun x y m => cl x y (pmL.mem_iff.mpr m)) x y hx hy px
end
end Rc
set_option Elab.async false
set_option linter.all false
set_option maxRecDepth 100000
set_option maxHeartbeats 4000000
/-! trees, plainly -/
namespace Rc
open PySem PySem.Spec PyProof.Rows L2 RcN
theorem pig {α : Type} [DecidableEq α] : ∀ (l D : List α), l.Nodup → (∀ x ∈ l, x ∈ D) → l.length ≤ D.length
  | [], _, _, _ => Nat.zero_le _
  | x :: l, D, h, s => by
    obtain ⟨h1, h2⟩ := List.nodup_cons.mp h
    have := pig l (D.erase x) h2 fun y hy => (List.mem_erase_of_ne (fun e => h1 (by rw [← e]; exact hy))).mpr (s y (List.mem_cons_of_mem _ hy))
    have hx := s x List.mem_cons_self
    have e := List.length_erase_of_mem hx
    have := List.length_pos_of_mem hx
    simp only [List.length_cons]
    omega
def homeF (u : Nat → Option Nat) (r : Nat) : Nat → Nat → Bool
  | 0, _ => false
  | f + 1, h => if h = r then true else homeF u r f ((u h).getD 0)
def okH (n : Nat) (L : List (Nat × Nat)) (r : Nat) (u : Nat → Option Nat) (h : Nat) : Bool := if h = r then (u h).isNone else match u h with
  | none => false
  | some p => decide (p < n) && decide (p ∈ nbs L h)
def showsB (n : Nat) (L : List (Nat × Nat)) (r : Nat) (u : Nat → Option Nat) : Bool := (List.range n).all (okH n L r u) && (List.range n).all (homeF u r n)
/-- a tree with root r, depths below n -/
structure Tree (n : Nat) (L : List (Nat × Nat)) (r : Nat) (u : Nat → Option Nat) (d : Nat → Nat) : Prop where
  rn : r < n
  root : u r = none
  up : ∀ k, k < n → k ≠ r → ∃ p, u k = some p ∧ p < n ∧ p ∈ nbs L k ∧ d p < d k
  low : ∀ k, k < n → d k < n
theorem tree_of {n : Nat} {L : List (Nat × Nat)} {r : Nat} {u : Nat → Option Nat} (rn : r < n) (root : u r = none) {d : Nat → Nat} (h : ∀ k, k < n → k ≠ r → ∃ p, u k = some p ∧ p < n ∧ p ∈ nbs L k ∧ d p < d k) : ∃ d', Tree n L r u d' := by
  refine ⟨fun y => ((List.range n).filter fun x => decide (d x < d y)).length, rn, root, fun k hk hr => ?_, fun k hk => ?_⟩
  · obtain ⟨p, h1, h2, h3, h4⟩ := h k hk hr
    refine ⟨p, h1, h2, h3, fl_lt (y := p) (decide_eq_false (Nat.lt_irrefl _)) (decide_eq_true h4) (fun x _ q => ?_) (List.mem_range.mpr h2)⟩
    have := of_decide_eq_true q
    exact decide_eq_true (by omega)
  · have := fl_lt (p := fun x => decide (d x < d k)) (q := fun _ => true) (y := k) (decide_eq_false (Nat.lt_irrefl _)) rfl (l := List.range n) (fun _ _ _ => rfl) (List.mem_range.mpr hk)
    have e : (List.range n).filter (fun _ => true) = List.range n := List.filter_eq_self.mpr fun _ _ => rfl
    rw [e, List.length_range] at this
    exact this
section
variable {n : Nat} {L : List (Nat × Nat)} {r : Nat} {u : Nat → Option Nat} {d : Nat → Nat}
theorem home_good (t : Tree n L r u d) : ∀ f h, h < n → d h < f → homeF u r f h = true
  | 0, _, _, h => by omega
  | f + 1, h, hh, hd => by
    unfold homeF
    by_cases c : h = r
    · rw [if_pos c]
    · rw [if_neg c]
      obtain ⟨p, e, hp, _, dp⟩ := t.up h hh c
      rw [e]
      exact home_good t f p hp (by omega)
theorem okH_good (t : Tree n L r u d) {h : Nat} (hh : h < n) : okH n L r u h = true := by
  unfold okH
  by_cases c : h = r
  · rw [if_pos c, c, t.root]; rfl
  · rw [if_neg c]
    obtain ⟨p, e, hp, hm, _⟩ := t.up h hh c
    rw [e]
    simp [hp, hm]
theorem shows_good (t : Tree n L r u d) : showsB n L r u = true := by
  unfold showsB
  rw [Bool.and_eq_true, List.all_eq_true, List.all_eq_true]
  exact ⟨fun h hh => okH_good t (List.mem_range.mp hh), fun h hh => home_good t n h (List.mem_range.mp hh) (t.low h (List.mem_range.mp hh))⟩
theorem shows_bad {h : Nat} (hh : h < n) (e : okH n L r u h = false) : showsB n L r u = false := by
  unfold showsB
  have : (List.range n).all (okH n L r u) = false := List.all_eq_false.mpr ⟨h, List.mem_range.mpr hh, by rw [e]; simp⟩
  rw [this]; rfl
/-- another root -/
theorem shows_other (t : Tree n L r u d) {s : Nat} (hs : s < n) (ne : s ≠ r) : showsB n L s u = false := by
  refine shows_bad hs ?_
  obtain ⟨p, e, _⟩ := t.up s hs ne
  unfold okH
  rw [if_pos rfl, e]; rfl
def fput (u : Nat → Option Nat) (at_ : Nat) (x : Option Nat) : Nat → Option Nat := fun k => if k = at_ then x else u k
theorem shows_own {W : WebL n L} (t : Tree n L r u d) {a : Nat} (ha : a < n) : showsB n L r (fput u a (some a)) = false := by
  refine shows_bad ha ?_
  unfold okH fput
  rw [if_pos rfl]
  by_cases c : a = r
  · rw [if_pos c]; rfl
  · rw [if_neg c]
    have : a ∉ nbs L a := fun m => by
      rcases mem_nbs.mp m with q | q
      · have := (W.lt _ q).1; simp only at this; omega
      · have := (W.lt _ q).1; simp only at this; omega
    simp [this]
theorem shows_lost (t : Tree n L r u d) {a : Nat} (ha : a < n) : showsB n L r (fput u a none) = decide (a = r) := by
  by_cases c : a = r
  · have e : fput u a none = u := by
      funext k
      unfold fput
      by_cases q : k = a
      · rw [if_pos q, q, c, t.root]
      · rw [if_neg q]
    rw [e, shows_good t, decide_eq_true c]
  · rw [decide_eq_false c]
    refine shows_bad ha ?_
    unfold okH fput
    rw [if_neg c, if_pos rfl]
theorem lost_same (t : Tree n L r u d) {a : Nat} (ha : a < n) : (fput u a none a = u a) ↔ a = r := by
  unfold fput
  rw [if_pos rfl]
  constructor
  · intro e
    by_cases c : a = r
    · exact c
    · obtain ⟨p, q, _⟩ := t.up a ha c
      rw [q] at e; cases e
  · intro c; rw [c, t.root]
/-- one round of the walk from the root -/
def newMet (n : Nat) (u : Nat → Option Nat) (met : List Nat) : List Nat := (List.range n).filter fun k => !decide (k ∈ met) && (match u k with | none => false | some p => decide (p ∈ met))
structure Met (n : Nat) (r : Nat) (d : Nat → Nat) (i : Nat) (met : List Nat) : Prop where
  hd : ∃ l, met = r :: l
  nd : met.Nodup
  lt : ∀ x ∈ met, x < n
  all : ∀ y, y < n → d y ≤ i → y ∈ met
theorem met0 (t : Tree n L r u d) : Met n r d 0 [r] where
  hd := ⟨[], rfl⟩
  nd := by simp
  lt := fun x hx => by simp at hx; subst hx; exact t.rn
  all := fun y hy h => by
    by_cases c : y = r
    · simp [c]
    · obtain ⟨p, _, _, _, q⟩ := t.up y hy c
      omega
theorem met_more (t : Tree n L r u d) {i : Nat} {met : List Nat} (M : Met n r d i met) : Met n r d (i + 1) (met ++ newMet n u met) where
  hd := by obtain ⟨l, e⟩ := M.hd; exact ⟨l ++ newMet n u met, by rw [e]; rfl⟩
  nd := by
    rw [List.nodup_append]
    refine ⟨M.nd, List.nodup_range.filter _, fun x hx y hy e => ?_⟩
    have := (List.mem_filter.mp hy).2
    rw [← e] at this
    simp [hx] at this
  lt := fun x hx => by
    rcases List.mem_append.mp hx with q | q
    · exact M.lt x q
    · exact List.mem_range.mp (List.mem_filter.mp q).1
  all := fun y hy h => by
    by_cases c : y ∈ met
    · exact List.mem_append_left _ c
    · refine List.mem_append_right _ (List.mem_filter.mpr ⟨List.mem_range.mpr hy, ?_⟩)
      have hr : y ≠ r := fun e => c (M.all y hy (by
        by_cases z : d y = 0
        · omega
        · obtain ⟨l, el⟩ := M.hd
          exact absurd (by rw [el, e]; exact List.mem_cons_self) c))
      obtain ⟨p, e, hp, _, dp⟩ := t.up y hy hr
      have := M.all p hp (by omega)
      simp [c, e, this]
theorem met_len (t : Tree n L r u d) {met : List Nat} (M : Met n r d n met) : met.length = n := by
  have h1 := pig met (List.range n) M.nd fun x hx => List.mem_range.mpr (M.lt x hx)
  have h2 := pig (List.range n) met List.nodup_range fun x hx => M.all x (List.mem_range.mp hx) (Nat.le_of_lt (t.low x (List.mem_range.mp hx)))
  rw [List.length_range] at h1 h2
  omega
end
end Rc
set_option Elab.async false
set_option linter.all false
set_option maxRecDepth 100000
set_option maxHeartbeats 4000000
namespace Rc
open PySem PySem.Spec PyProof.Rows L2 RcN RZ
open C8 (pe_c pe_mk pe_mt pe_mt0)
/-- a tuple of parents -/
def Thing (H : Hp) (a : Addr) (n : Nat) (u : Nat → Option Nat) : Prop := H a = some (.tup ((List.range n).map fun k => oN (u k)))
theorem th_len {n : Nat} {u : Nat → Option Nat} : ((List.range n).map fun k => oN (u k)).length = n := by rw [List.length_map, List.length_range]
def spHome (K : PySem.W.Frag) : Sp := fun vs H Q _ => ∃ (a : Addr) (n h r : Nat) (u : Nat → Option Nat), vs = [.ref a, .int (h : Int), .int (r : Int)] ∧ Thing H a n u ∧ n ≤ 16 ∧ h < n ∧ (∀ k, k < n → k ≠ r → ∃ p, u k = some p ∧ p < n) ∧ Q (.bl (homeF u r n h)) H
def spSame0 : Sp := fun vs H Q _ => ∃ o : Option Int, vs = [oV o, oV o] ∧ Q (.bl true) H
def spSame : Sp := fun vs H Q _ => ∃ (a b : Addr) (os : List (Option Int)), vs = [.ref a, .ref b] ∧ H a = some (.tup (os.map oV)) ∧ H b = some (.tup (os.map oV)) ∧ os.length ≤ 100 ∧ ∀ H', Same H H' → Q (.bl true) H'
def spNear (K : PySem.W.Frag) : Sp := fun vs H Q _ => ∃ (wb na li : Addr) (nl : List Int) (L : List (Nat × Nat)) (h : Nat), vs = [.ref wb, .int (h : Int)] ∧ WebAt H wb na li nl L ∧ L.length ≤ 39 ∧ (∀ p ∈ L, p.1 < p.2) ∧
  ∀ (l : List Nat) (p : Addr) (H' : Hp), (∀ y, y ∈ l ↔ y ∈ nbs L h) → Same H H' → H' p = some (.lst (vI l)) → Q (.ref p) H'
theorem WebAt.same {H H' : Hp} {p na li : Addr} {nl : List Int} {L : List (Nat × Nat)} (w : WebAt H p na li nl L) (s : Tups H H') : WebAt H' p na li nl L := by
  obtain ⟨xs, o, h1, hp, h2, h3, h4⟩ := w
  exact ⟨xs, o, s _ _ rfl h1, hp, s _ _ rfl h2, s _ _ rfl h3, pairs_tups s h4⟩
def nearL (L : List (Nat × Nat)) (h : Nat) : List Nat := L.flatMap fun p => if p.1 = h then [p.2] else if p.2 = h then [p.1] else []
theorem near_mem {L : List (Nat × Nat)} {h y : Nat} (W : ∀ p ∈ L, p.1 < p.2) : y ∈ nearL L h ↔ y ∈ nbs L h := by
  rw [mem_nbs]
  unfold nearL
  rw [List.mem_flatMap]
  constructor
  · rintro ⟨⟨a, b⟩, hm, hy⟩
    simp only at hy
    by_cases c : a = h
    · rw [if_pos c] at hy; simp at hy; subst hy; subst c; exact .inl hm
    · rw [if_neg c] at hy
      by_cases e : b = h
      · rw [if_pos e] at hy; simp at hy; subst hy; subst e; exact .inr hm
      · rw [if_neg e] at hy; cases hy
  · rintro (m | m)
    · exact ⟨_, m, by simp⟩
    · refine ⟨_, m, ?_⟩
      have := W _ m
      simp only at this
      simp only
      simp [show ¬ y = h by omega]
theorem near_len (L : List (Nat × Nat)) (h : Nat) : (nearL L h).length ≤ L.length := by
  unfold nearL
  induction L with
  | nil => simp
  | cons p L ih =>
    rw [List.flatMap_cons, List.length_append, List.length_cons]
    have : (if p.1 = h then [p.2] else if p.2 = h then [p.1] else []).length ≤ 1 := by
      split
      · simp
      · split <;> simp
    omega
theorem near_take {L : List (Nat × Nat)} {h i : Nat} {p : Nat × Nat} (e : L[i]? = some p) : nearL (L.take (i + 1)) h = nearL (L.take i) h ++ (if p.1 = h then [p.2] else if p.2 = h then [p.1] else []) := by
  unfold nearL
  rw [take_more e, List.flatMap_append]
  simp
theorem oN_isN (o : Option Nat) : decide (oN o = V.non) = o.isNone := by cases o <;> rfl
section
variable {P : Program} {w : World} {K : PySem.W.Frag} {mg : Str → Option Value} {base : Heap} {C CB CL f : Addr} {fd : FuncData}
theorem ok_comes_home (F : DefAt K "comes_home" "comes_home" s_comes_home f fd) (T : Txt K mg C CB CL) : FnOk P w K mg base CX0 1 f fd ["thing", "house", "root"] (spHome K) := by
  refine okN F sc_comes_home (fun vs H Q E h => ?_) (fun cdv A outer s H vs Q E hr h => ?_)
  · obtain ⟨a, n, h, r, u, rfl, _⟩ := h
    rfl
  · obtain ⟨a, n, h, r, u, rfl, ht, n16, hh, up, k⟩ := h
    refine ⟨_, (pss_cons (ps_for PassesOwn.never rfl (pi_range1 (by rfl) T.b_range (pa_cons (pe_callB call_len_seq (by rfl) T.b_len (by decide +kernel) (pa_cons (pv 0) pa_nil)) pa_nil)) (pg_name (i := 3) sc_comes_home.nd rfl (Or.inl rfl)) (pss_cons (ps_if (pt_cmpR op_eq (pv 1) (pv 2) (nomark _)) (pss_one (ps_ret pe_bl)) pss_nil)
    (pss_one (ps_set (i := 1) sc_comes_home.nd rfl (Or.inl rfl) (pe_ix ix_tup (pv 0) (pv 1) (fun _ _ => rfl))))))
    (pss_one (ps_ret pe_bl))), ?_⟩
    refine ⟨_, rfl, _, _, rfl, .inr (SqT.of ht), _, rfl, by rw [th_len]; omega, by rw [th_len]; omega, ?_⟩
    rw [th_len, Int.toNat_natCast]
    refine for_range (fun i σ H' => H' = H ∧ ∃ (h' : Nat) (x3 : Option V), σ = [some (.ref a), some (.int (h' : Int)), some (.int (r : Int)), x3] ∧ h' < n ∧ homeF u r n h = homeF u r (n - i) h') ⟨rfl, h, _, rfl, hh, rfl⟩ ?_ ?_
    · rintro i σ H' hi ⟨rfl, h', x3, rfl, hh', e⟩
      obtain ⟨g, eg⟩ : ∃ g, n - i = g + 1 := ⟨n - i - 1, by omega⟩
      rw [eg] at e
      refine ⟨_, rfl, _, rfl, rfl, _, rfl, ?_⟩
      refine ite2 (fun c => ?_) (fun c => ?_)
      · have c' : h' = r := by
          have q := of_decide_eq_true c
          injection q with q
          omega
        have e2 : homeF u r (g + 1) h' = true := by unfold homeF; rw [if_pos c']
        rw [e, e2] at k
        exact k
      · have c' : ¬ h' = r := fun q => c (by subst q; simp)
        obtain ⟨p, ep, hp⟩ := up h' hh' c'
        refine ⟨_, rfl, _, rfl, _, _, _, _, rfl, rfl, SqT.of ht, at_nat (v := .int (p : Int)) (by rw [rg_get hh', ep]; rfl), ?_⟩
        refine ⟨rfl, p, _, rfl, hp, ?_⟩
        rw [e, show n - (i + 1) = g by omega]
        show (if h' = r then true else homeF u r g ((u h').getD 0)) = _
        rw [if_neg c', ep]; rfl
    · rintro σ H' ⟨rfl, h', x3, rfl, hh', e⟩
      rw [Nat.sub_self] at e
      rw [e] at k
      exact k
theorem ok_l_same0 (F : DefAt K "_law_same" "_law_same" s_l_same f fd) (T : Txt K mg C CB CL) : FnOk P w K mg base CX0 1 f fd ["_law_found", "_law_due"] spSame0 := by
  refine okN F sc_l_same (fun vs H Q E h => ?_) (fun cdv A outer s H vs Q E hr h => ?_)
  · obtain ⟨o, rfl, _⟩ := h
    rfl
  · obtain ⟨o, rfl, k⟩ := h
    refine ⟨_, (pss_cons (ps_if (pt_val (pe_callB call_isi (by rfl) T.b_isinstance (by decide +kernel) (pa_cons (pv 1) (pa_cons (pe_bltn (v := .ty "tuple") (by rfl) T.b_tuple (by decide +kernel) rfl) pa_nil)))) pss_never pss_nil)
    (pss_cons (ps_if (pt_cmpR op_isN (pv 1) pe_non (nomark _)) (pss_one (ps_ret (pe_cmpR op_isN (pv 0) pe_non (nomark _)))) pss_nil)
    (pss_cons (ps_if (pt_val (pe_callB call_isi (by rfl) T.b_isinstance (by decide +kernel) (pa_cons (pv 1) (pa_cons (pe_bltn (v := .ty "str") (by rfl) T.b_str (by decide +kernel) rfl) pa_nil)))) (pss_one (ps_ret (pe_and (pe_callB call_isi (by rfl) T.b_isinstance (by decide +kernel) (pa_cons (pv 0) (pa_cons (pe_bltn (v := .ty "str") (by rfl) T.b_str (by decide +kernel) rfl) pa_nil))) (pe_one (pe_cmpR op_eq (pv 0) (pv 1) (nomark _)))))) pss_nil)
    (pss_one (ps_ret (pe_and (pe_callB call_isi (by rfl) T.b_isinstance (by decide +kernel) (pa_cons (pv 0) (pa_cons (pe_bltn (v := .ty "int") (by rfl) T.b_int (by decide +kernel) rfl) pa_nil))) (pe_and (pe_not (pe_callB call_isi (by rfl) T.b_isinstance (by decide +kernel) (pa_cons (pv 0) (pa_cons (pe_bltn (v := .ty "bool") (by rfl) T.b_bool (by decide +kernel) rfl) pa_nil)))) (pe_one (pe_cmpR op_eq (pv 0) (pv 1) (nomark _)))))))))), ?_⟩
    refine ⟨_, rfl, _, _, _, _, _, rfl, .ty _, tyx_o, kit_o_tuple, _, rfl, iteF ?_⟩
    refine ⟨_, rfl, rfl, _, rfl, ?_⟩
    cases o with
    | none => exact ⟨_, rfl, rfl, k⟩
    | some i =>
      refine ⟨_, rfl, _, _, _, _, _, rfl, .ty _, tyx_o (o := some i), kit_o_str, _, rfl, iteF ?_⟩
      refine ⟨_, rfl, _, _, _, _, _, rfl, .ty _, tyx_o (o := some i), kit_o_int, _, rfl, iteT ?_⟩
      refine ⟨_, rfl, _, _, _, _, _, rfl, .ty _, tyx_o (o := some i), kit_o_bool, _, rfl, _, rfl, iteT ?_⟩
      refine ⟨_, rfl, _, rfl, rfl, ?_⟩
      rw [decide_eq_true rfl]
      exact k
theorem ok_l_same (F : DefAt K "_law_same" "_law_same" s_l_same f fd) (T : Txt K mg C CB CL) (c_l_same : C8.Cal P w K mg base 1 "_law_same" spSame0 []) : FnOk P w K mg base CX0 2 f fd ["_law_found", "_law_due"] spSame := by
  refine okN F sc_l_same (fun vs H Q E h => ?_) (fun cdv A outer s H vs Q E hr h => ?_)
  · obtain ⟨a, b, os, rfl, _⟩ := h
    rfl
  · obtain ⟨a, b, os, rfl, ha, hb, hl, k⟩ := h
    refine ⟨_, (pss_cons (ps_if (pt_val (pe_callB call_isi (by rfl) T.b_isinstance (by decide +kernel) (pa_cons (pv 1) (pa_cons (pe_bltn (v := .ty "tuple") (by rfl) T.b_tuple (by decide +kernel) rfl) pa_nil)))) (pss_cons (ps_if (PW.pt (pw_or (pt_not (pt_val (pe_callB call_isi (by rfl) T.b_isinstance (by decide +kernel) (pa_cons (pv 0) (pa_cons (pe_bltn (v := .ty "tuple") (by rfl) T.b_tuple (by decide +kernel) rfl) pa_nil))))) (pw_or1 (pt_cmpR op_ne (pe_callB call_len_seq (by rfl) T.b_len (by decide +kernel) (pa_cons (pv 0) pa_nil)) (pe_callB call_len_seq (by rfl) T.b_len (by decide +kernel) (pa_cons (pv 1) pa_nil)) (nomark _))))) (pss_one (ps_ret pe_bl)) pss_nil)
    (pss_one (ps_ret (pe_callB (cr_all rfl) (by rfl) T.b_all (by decide +kernel) (pa_cons (pe_lc (own := [("_law_one", 2), ("_law_other", 3)]) (g := gTup K 2 (gCons (gName 2) (gCons (gName 3) gNil))) (tt := tYes) rfl sc_l_same.nd (pi_zipA (by rfl) T.b_zip (pa_cons (pv 0) (pa_cons (pv 1) pa_nil))) (blkOk_by (own := [("_law_one", 2), ("_law_other", 3)]) (N := ["_law_found", "_law_due", "_law_one", "_law_other"]) (sc := defScope s_l_same) (by decide +kernel)) (fun _ _ _ _ _ => (pg_tup rfl (pgs_cons (pg_name (i := 2) sc_l_same.nd rfl (Or.inl rfl)) (pgs_cons (pg_name (i := 3) sc_l_same.nd rfl (Or.inl rfl)) pgs_nil)))) (fun _ _ _ _ _ => pts_nil) (fun _ _ _ _ _ => (pe_c c_l_same hr (by decide) (by rfl) (pa_cons (pv 2) (pa_cons (pv 3) pa_nil))))) pa_nil))))) pss_nil)
    (pss_cons (ps_if (pt_cmpR op_isN (pv 1) pe_non (nomark _)) (pss_one (ps_ret (pe_cmpR op_isN (pv 0) pe_non (nomark _)))) pss_nil)
    (pss_cons (ps_if (pt_val (pe_callB call_isi (by rfl) T.b_isinstance (by decide +kernel) (pa_cons (pv 1) (pa_cons (pe_bltn (v := .ty "str") (by rfl) T.b_str (by decide +kernel) rfl) pa_nil)))) (pss_one (ps_ret (pe_and (pe_callB call_isi (by rfl) T.b_isinstance (by decide +kernel) (pa_cons (pv 0) (pa_cons (pe_bltn (v := .ty "str") (by rfl) T.b_str (by decide +kernel) rfl) pa_nil))) (pe_one (pe_cmpR op_eq (pv 0) (pv 1) (nomark _)))))) pss_nil)
    (pss_one (ps_ret (pe_and (pe_callB call_isi (by rfl) T.b_isinstance (by decide +kernel) (pa_cons (pv 0) (pa_cons (pe_bltn (v := .ty "int") (by rfl) T.b_int (by decide +kernel) rfl) pa_nil))) (pe_and (pe_not (pe_callB call_isi (by rfl) T.b_isinstance (by decide +kernel) (pa_cons (pv 0) (pa_cons (pe_bltn (v := .ty "bool") (by rfl) T.b_bool (by decide +kernel) rfl) pa_nil)))) (pe_one (pe_cmpR op_eq (pv 0) (pv 1) (nomark _)))))))))), ?_⟩
    refine ⟨_, rfl, _, _, _, _, _, rfl, .ty _, tyx_t hb, kit_t, _, rfl, iteT ?_⟩
    refine ⟨_, rfl, _, _, _, _, _, rfl, .ty _, tyx_t ha, kit_t, _, rfl, ?_⟩
    refine iteF ?_
    refine ⟨_, rfl, _, _, rfl, .inr (SqT.of ha), _, rfl, _, _, rfl, .inr (SqT.of hb), rfl, _, rfl, ?_⟩
    rw [decide_eq_true rfl]
    refine iteF ?_
    refine ⟨_, rfl, _, rfl, a, b, _, _, rfl, .inr ⟨SqT.of ha, SqT.of hb, fun D hD => ?_⟩⟩
    refine lc_it (walk_zipT (a := a) (b := b) (xs := os.map oV) (ys := os.map oV) (n := os.length) (by rw [List.length_map, Nat.min_self])) (fun i H' => Same H H' ∧ H' D = some (.lst ((List.replicate i true).map V.bl))) ⟨same_new hD, upd_same⟩
      (fun i H' _ ⟨s, _⟩ => ⟨SqT.of (s _ _ ha), SqT.of (s _ _ hb)⟩) ?_ ?_
    · rintro i x H' H2 hi ⟨s, hD'⟩ ⟨t, x1, x2, rfl, ht, e, g1, g2⟩
      subst e
      have e12 : x1 = x2 := by rw [g1] at g2; exact Option.some.inj g2
      subst e12
      have g1' : (os.map oV)[i]? = some x1 := g1
      rw [List.getElem?_map] at g1'
      obtain ⟨o, _, rfl⟩ := Option.map_eq_some_iff.mp g1'
      have s2 := same_upd (o := .tup [oV o, oV o]) s (s.free ht)
      refine ⟨t, _, rfl, SqT.of upd_same, rfl, _, _, rfl, _, _, rfl, rfl, rfl, ?_⟩
      unfold tYes
      refine iteT ?_
      refine ⟨_, rfl, _, rfl, o, rfl, ?_⟩
      refine ⟨_, by rw [upd_ne (ne_of_none hD' ht)]; exact hD', by rw [List.length_map, List.length_replicate]; exact small1000 (by omega), same_upd s2 hD, ?_⟩
      rw [upd_same, List.replicate_succ', List.map_append]; rfl
    rintro H1 ⟨s1, h1⟩
    refine ⟨D, _, rfl, SqL.of h1, ?_⟩
    have : (List.replicate os.length true).all id = true := List.all_eq_true.mpr fun x hx => by rw [List.eq_of_mem_replicate hx]; rfl
    rw [this]
    exact k _ s1
theorem ok_l_near (F : DefAt K "_law_near" "_law_near" s_l_near f fd) (T : Txt K mg C CB CL) : FnOk P w K mg base CX0 1 f fd ["_law_web_here", "_law_house"] (spNear K) := by
  refine okN F sc_l_near (fun vs H Q E h => ?_) (fun cdv A outer s H vs Q E hr h => ?_)
  · obtain ⟨wb, na, li, nl, L, h, rfl, _⟩ := h
    rfl
  · obtain ⟨wb, na, li, nl, L, h, rfl, ⟨xs, on, hw, hpl, hna, hli, hP⟩, hL, hlt, k⟩ := h
    refine ⟨_, (pss_cons (ps_set (i := 2) sc_l_near.nd rfl (Or.inl rfl) (pe_lst pa_nil))
    (pss_cons (ps_for PassesOwn.never rfl (pi_tup (pe_ix ix_tup (pv 0) pe_int (fun _ _ => rfl))) (pg_tup rfl (pgs_cons (pg_name (i := 3) sc_l_near.nd rfl (Or.inl rfl)) (pgs_cons (pg_name (i := 4) sc_l_near.nd rfl (Or.inl rfl)) pgs_nil))) (pss_one (ps_if (pt_cmpR op_eq (pv 3) (pv 1) (nomark _)) (pss_one (ps_expr (pe_bm PySem.F.plainAttrs_list PySem.F.slot_list_append PySem.F.type_list_append mt_append (pv 2) (pa_cons (pv 4) pa_nil)))) (pss_one (ps_if (pt_cmpR op_eq (pv 4) (pv 1) (nomark _)) (pss_one (ps_expr (pe_bm PySem.F.plainAttrs_list PySem.F.slot_list_append PySem.F.type_list_append mt_append (pv 2) (pa_cons (pv 3) pa_nil)))) pss_nil)))))
    (pss_one (ps_ret (pe_callB cr_sorted (by rfl) T.b_sorted (by decide +kernel) (pa_cons (pv 2) pa_nil)))))), ?_⟩
    refine ⟨nil_ok, fun D hD => ?_⟩
    have s0 := same_new (o := .lst []) hD
    refine ⟨_, rfl, _, _, _, _, rfl, rfl, SqT.of (s0 _ _ hw), rfl, _, rfl, ⟨_, SqT.of (s0 _ _ hli)⟩, ?_⟩
    refine for_tup (xs := xs) (fun i σ H' => (∃ x3 x4, σ = [some (.ref wb), some (.int (h : Int)), some (.ref D), x3, x4]) ∧ Same H H' ∧ H' D = some (.lst (vI (nearL (L.take i) h)))) ⟨⟨_, _, rfl⟩, s0, upd_same⟩
      (fun i σ H' _ ⟨_, s, _⟩ => SqT.of (s _ _ hli)) ?_ ?_
    · rintro i x σ H' hi ⟨⟨x3, x4, rfl⟩, s, hD'⟩
      obtain ⟨⟨p, q⟩, hp, t, rfl, ht⟩ := paired_get hP hi
      have hil : i < L.length := (List.getElem?_eq_some_iff.mp hp).1
      have nt := near_take (h := h) hp
      have nlen := near_len (L.take i) h
      rw [List.length_take] at nlen
      refine ⟨t, _, rfl, SqT.of (s _ _ ht), rfl, _, _, rfl, _, _, rfl, rfl, ?_⟩
      refine ⟨_, rfl, _, rfl, rfl, _, rfl, ?_⟩
      refine ite2 (fun c => ?_) (fun c => ?_)
      · have c' : p = h := by have q := of_decide_eq_true c; injection q with q; omega
        refine ⟨_, rfl, .inl ⟨rfl, _, SqL.of hD'⟩, _, rfl, _, _, _, rfl, rfl, hD', by rw [vI_len]; exact small1000 (by omega), ⟨_, _, rfl⟩, same_upd s hD, ?_⟩
        rw [upd_same, nt, vI_app]; simp [c', vI]
      · have c' : ¬ p = h := fun q => c (by subst q; simp)
        refine ⟨_, rfl, _, rfl, rfl, _, rfl, ?_⟩
        refine ite2 (fun d => ?_) (fun d => ?_)
        · have d' : q = h := by have q := of_decide_eq_true d; injection q with q; omega
          refine ⟨_, rfl, .inl ⟨rfl, _, SqL.of hD'⟩, _, rfl, _, _, _, rfl, rfl, hD', by rw [vI_len]; exact small1000 (by omega), ⟨_, _, rfl⟩, same_upd s hD, ?_⟩
          rw [upd_same, nt, vI_app]; simp [c', d', vI]
        · have d' : ¬ q = h := fun q => d (by subst q; simp)
          refine ⟨⟨_, _, rfl⟩, s, ?_⟩
          rw [hD', nt]; simp [c', d']
    · rintro σ H' ⟨⟨x3, x4, rfl⟩, s, hD'⟩
      rw [paired_len hP, List.take_length] at hD'
      have nlen := near_len L h
      refine ⟨_, rfl, D, (nearL L h).map fun k : Nat => (k : Int), rfl, SqL.of (by rw [vI_ints]; exact hD'), by rw [List.length_map]; omega, fun ns' p pm _ hp => ?_⟩
      obtain ⟨l, e, pl⟩ := perm_nat pm
      rw [e, vI_ints]
      exact k l p _ (fun y => pl.mem_iff.trans (near_mem hlt)) (same_upd s (s.free hp)) upd_same
end
end Rc
set_option Elab.async false
set_option linter.all false
set_option maxRecDepth 100000
set_option maxHeartbeats 4000000
namespace Rc
open PySem PySem.Spec PyProof.Rows L2 RcN RZ
open C8 (pe_c pe_mk pe_mt pe_mt0)
theorem idx_first {nl : List Int} (nd : nl.Nodup) {r : Nat} {v : Int} (h : nl[r]? = some v) : ∀ m, m < r → nl[m]? ≠ some v := fun m hm e => by
  obtain ⟨h1, e1⟩ := List.getElem?_eq_some_iff.mp h
  obtain ⟨h2, e2⟩ := List.getElem?_eq_some_iff.mp e
  have := (List.getElem_inj nd).mp (e2.trans e1.symm)
  omega
theorem non_in (l : List Nat) : inV .non (vI l) = false := by
  unfold inV vI
  rw [List.any_map, List.any_eq_false]
  intro x _
  show ¬ (eqV (.int (x : Int)) .non = true)
  intro h; cases h
theorem oN_in (o : Option Nat) (l : List Nat) : inV (oN o) (vI l) = (match o with | none => false | some p => decide (p ∈ l)) := by
  cases o with
  | none => exact non_in l
  | some p => exact vI_in l p
theorem oN_flat (o : Option Nat) : flatV (oN o) = true := by cases o <;> rfl
def spShowsT (K : PySem.W.Frag) : Sp := fun vs H Q _ => ∃ (wb na li a : Addr) (nl : List Int) (L : List (Nat × Nat)) (v : Int) (r : Nat) (u : Nat → Option Nat), vs = [.ref wb, .int v, .ref a] ∧ WebAt H wb na li nl L ∧ WebGood nl L ∧ nl[r]? = some v ∧ Thing H a nl.length u ∧
  ∀ H', Same H H' → Q (.bl (showsB nl.length L r u)) H'
def spShowsL (K : PySem.W.Frag) : Sp := fun vs H Q _ => ∃ (wb na li a : Addr) (nl : List Int) (L : List (Nat × Nat)) (v : Int) (r : Nat) (u : Nat → Option Nat) (d : Nat → Nat), vs = [.ref wb, .int v, .ref a] ∧ WebAt H wb na li nl L ∧ WebGood nl L ∧ nl[r]? = some v ∧ Thing H a nl.length u ∧ Tree nl.length L r u d ∧
  ∀ H', Same H H' → Q (.bl true) H'
section
variable {P : Program} {w : World} {K : PySem.W.Frag} {mg : Str → Option Value} {base : Heap} {C CB CL f : Addr} {fd : FuncData}
theorem ok_shows_tree (F : DefAt K "shows_tree" "shows_tree" s_shows_tree f fd) (T : Txt K mg C CB CL) (c_is_number : C8.Cal P w K mg base 1 "is_number" spNum []) (c_neighbours : C8.Cal P w K mg base 1 "neighbours" (spNb K) []) (c_comes_home : C8.Cal P w K mg base 1 "comes_home" (spHome K) []) :
    FnOk P w K mg base CX0 2 f fd ["web", "name", "thing"] (spShowsT K) := by
  refine okN F sc_shows_tree (fun vs H Q E h => ?_) (fun cdv A outer s H vs Q E hr h => ?_)
  · obtain ⟨wb, na, li, a, nl, L, v, r, u, rfl, _⟩ := h
    rfl
  · obtain ⟨wb, na, li, a, nl, L, v, r, u, rfl, ⟨xs, on, hw, hpl, hna, hli, hP⟩, WG, hv, ht, k⟩ := h
    have rn : r < nl.length := (List.getElem?_eq_some_iff.mp hv).1
    have vin : v ∈ nl := List.mem_of_getElem? hv
    have n16 := WG.n16
    refine ⟨_, (pss_cons (ps_asg (pv 0) (pg_tup rfl (pgs_cons (pg_name (i := 3) sc_shows_tree.nd rfl (Or.inl rfl)) (pgs_cons (pg_name (i := 4) sc_shows_tree.nd rfl (Or.inl rfl)) pgs_nil))))
    (pss_cons (ps_if (PW.pt (pw_or (pt_not (pt_val (pe_callB call_isi (by rfl) T.b_isinstance (by decide +kernel) (pa_cons (pv 1) (pa_cons (pe_bltn (v := .ty "int") (by rfl) T.b_int (by decide +kernel) rfl) pa_nil))))) (pw_or (pt_val (pe_callB call_isi (by rfl) T.b_isinstance (by decide +kernel) (pa_cons (pv 1) (pa_cons (pe_bltn (v := .ty "bool") (by rfl) T.b_bool (by decide +kernel) rfl) pa_nil)))) (pw_or1 (pt_cmpR op_notIn_seq (pv 1) (pv 3) (by rfl)))))) (pss_one (ps_ret pe_bl)) pss_nil)
    (pss_cons (ps_if (PW.pt (pw_or (pt_not (pt_val (pe_callB call_isi (by rfl) T.b_isinstance (by decide +kernel) (pa_cons (pv 2) (pa_cons (pe_bltn (v := .ty "tuple") (by rfl) T.b_tuple (by decide +kernel) rfl) pa_nil))))) (pw_or1 (pt_cmpR op_ne (pe_callB call_len_seq (by rfl) T.b_len (by decide +kernel) (pa_cons (pv 2) pa_nil)) (pe_callB call_len_seq (by rfl) T.b_len (by decide +kernel) (pa_cons (pv 3) pa_nil)) (nomark _))))) (pss_one (ps_ret pe_bl)) pss_nil)
    (pss_cons (ps_set (i := 5) sc_shows_tree.nd rfl (Or.inr rfl) (pe_bmt PySem.F.plainAttrs_tuple PySem.F.slot_tuple_index PySem.F.type_tuple_index mt_tup_indexI (pv 3) (pa_cons (pv 1) pa_nil)))
    (pss_cons (ps_for PassesOwn.never rfl (pi_enumT (by rfl) T.b_enumerate (pa_cons (pv 2) pa_nil)) (pg_tup rfl (pgs_cons (pg_name (i := 6) sc_shows_tree.nd rfl (Or.inl rfl)) (pgs_cons (pg_name (i := 7) sc_shows_tree.nd rfl (Or.inl rfl)) pgs_nil))) (pss_one (ps_if (pt_cmpR op_eq (pv 6) (pv 5) (nomark _)) (pss_one (ps_if (pt_cmpR op_notN (pv 7) pe_non (nomark _)) (pss_one (ps_ret pe_bl)) pss_nil)) (pss_one (ps_if (PW.pt (pw_or (pt_not (pt_val (pe_c c_is_number hr (by decide) (by rfl) (pa_cons (pv 7) (pa_cons (pe_op op_sub (pe_callB call_len_seq (by rfl) T.b_len (by decide +kernel) (pa_cons (pv 3) pa_nil)) pe_int) pa_nil))))) (pw_or1 (pt_cmpR op_notIn_seq (pv 7) (pe_c c_neighbours hr (by decide) (by rfl) (pa_cons (pv 4) (pa_cons (pv 6) pa_nil))) (by rfl))))) (pss_one (ps_ret pe_bl)) pss_nil)))))
    (pss_one (ps_ret (pe_callB (cr_all rfl) (by rfl) T.b_all (by decide +kernel) (pa_cons (pe_lc (own := [("house", 6)]) (g := gName 6) (tt := tYes) rfl sc_shows_tree.nd (pi_range1 (by rfl) T.b_range (pa_cons (pe_callB call_len_seq (by rfl) T.b_len (by decide +kernel) (pa_cons (pv 3) pa_nil)) pa_nil)) (blkOk_by (own := [("house", 6)]) (N := ["web", "name", "thing", "names", "lines", "root", "house", "parent"]) (sc := defScope s_shows_tree) (by decide +kernel)) (fun _ _ _ _ _ => (pg_name (i := 6) sc_shows_tree.nd rfl (Or.inl rfl))) (fun _ _ _ _ _ => pts_nil) (fun _ _ _ _ _ => (pe_c c_comes_home hr (by decide) (by rfl) (pa_cons (pv 2) (pa_cons (pv 6) (pa_cons (pv 5) pa_nil)))))) pa_nil))))))))), ?_⟩
    refine ⟨_, rfl, wb, _, rfl, SqT.of hw, rfl, _, _, rfl, _, _, rfl, rfl, ?_⟩
    refine ⟨_, rfl, _, _, _, _, _, rfl, .ty _, tyx_o (o := some v), kit_o_int, _, rfl, ?_⟩
    refine iteF ?_
    refine ⟨_, rfl, _, _, _, _, _, rfl, .ty _, tyx_o (o := some v), kit_o_bool, _, rfl, ?_⟩
    refine iteF ?_
    refine ⟨_, rfl, _, rfl, na, _, rfl, .inr (.inl (.inr ⟨on, hna⟩)), rfl, int_flat _, _, rfl, ?_⟩
    rw [if_pos rfl, int_in, decide_eq_true vin]
    refine iteF ?_
    refine ⟨_, rfl, _, _, _, _, _, rfl, .ty _, tyx_t ht, kit_t, _, rfl, ?_⟩
    refine iteF ?_
    refine ⟨_, rfl, _, _, rfl, .inr (SqT.of ht), _, rfl, _, _, rfl, .inr (.inl (.inr ⟨on, hna⟩)), rfl, _, rfl, ?_⟩
    rw [th_len, List.length_map, decide_eq_true rfl]
    refine iteF ?_
    refine ⟨_, rfl, ⟨_, _, _, rfl, hna, hpl⟩, _, rfl, na, nl, v, r, rfl, rfl, .inl (.inr ⟨on, hna⟩), hv, idx_first WG.nd hv, ?_⟩
    refine ⟨_, rfl, a, _, rfl, SqT.of ht, ?_⟩
    refine for_it (walk_enumT (a := a) (xs := (List.range nl.length).map fun k => oN (u k))) (fun i σ H' => (∃ x6 x7 : Option V, σ = [some (.ref wb), some (.int v), some (.ref a), some (.ref na), some (.ref li), some (.int (r : Int)), x6, x7]) ∧ Same H H' ∧ ∀ h, h < i → okH nl.length L r u h = true)
      ⟨⟨_, _, rfl⟩, Same.refl _, fun h hh => by omega⟩ (fun i σ H' _ ⟨_, s, _⟩ => SqT.of (s _ _ ht)) ?_ ?_
    · rintro i x σ H1 H2 hi ⟨⟨x6, x7, rfl⟩, s1, all⟩ ⟨t, x1, x2, rfl, htn, e, g1, g2⟩
      subst e
      rw [th_len] at hi
      have g1' : some (V.int ((i : Nat) : Int)) = some x1 := g1
      have g2' : ((List.range nl.length).map fun k => oN (u k))[i]? = some x2 := g2
      rw [rg_get hi] at g2'
      obtain rfl := Option.some.inj g1'
      obtain rfl := Option.some.inj g2'
      have s2 : Same H (upd H1 t (.tup [.int (i : Int), oN (u i)])) := same_upd s1 (s1.free htn)
      have more : okH nl.length L r u i = true → ∀ h, h < i + 1 → okH nl.length L r u h = true := fun q h hh => by
        by_cases c : h = i
        · rw [c]; exact q
        · exact all h (by omega)
      refine ⟨t, _, rfl, SqT.of upd_same, rfl, _, _, rfl, _, _, rfl, rfl, ?_⟩
      refine ⟨_, rfl, _, rfl, rfl, _, rfl, ?_⟩
      refine ite2 (fun c => ?_) (fun c => ?_)
      · have c' : i = r := by have q := of_decide_eq_true c; injection q with q; omega
        refine ⟨_, rfl, rfl, _, rfl, ?_⟩
        cases hu : u i with
        | none => rw [hu] at s2; exact ⟨⟨_, _, rfl⟩, s2, more (by unfold okH; rw [if_pos c', hu]; rfl)⟩
        | some p =>
          rw [hu] at s2
          have q := k _ s2
          rw [shows_bad hi (by unfold okH; rw [if_pos c', hu]; rfl)] at q
          exact q
      · have c' : ¬ i = r := fun q => c (by subst q; simp)
        refine ⟨_, rfl, _, rfl, _, _, rfl, .inr (.inl (.inr ⟨on, s2 _ _ hna⟩)), _, _, rfl, rfl, oI (u i), _, by rw [← oN_oV]; rfl, _, rfl, ?_⟩
        rw [List.length_map]
        cases hu : u i with
        | none =>
          rw [hu] at s2
          have q := k _ s2
          rw [shows_bad hi (by unfold okH; rw [if_neg c', hu])] at q
          exact q
        | some p =>
          rw [hu] at s2
          have en : isNum (oI (some p)) ((nl.length : Int) - 1) = decide (p < nl.length) := by
            show (decide (0 ≤ (p : Int)) && decide ((p : Int) ≤ (nl.length : Int) - 1)) = _
            by_cases z : p < nl.length
            · rw [decide_eq_true z, decide_eq_true (by omega), decide_eq_true (by omega)]; rfl
            · rw [decide_eq_false z, decide_eq_false (p := (p : Int) ≤ (nl.length : Int) - 1) (by omega), Bool.and_false]
          rw [en]
          have eo : okH nl.length L r u i = (decide (p < nl.length) && decide (p ∈ nbs L i)) := by unfold okH; rw [if_neg c', hu]
          by_cases z : p < nl.length
          · rw [decide_eq_true z] at eo ⊢
            refine iteF ?_
            refine ⟨_, rfl, _, rfl, _, rfl, li, xs, L, i, rfl, SqT.of (s2 _ _ hli), pairs_same s2 hP, by have := WG.w.len; omega, by have := nbs_len WG.w rfl WG.nd hi; omega, fun l q H3 pm s3 hq hq2 => ?_⟩
            refine ⟨q, _, rfl, .inl (SqL.of hq2), rfl, vI_flat l, _, rfl, ?_⟩
            rw [if_pos rfl]
            show if (!inV (V.int (p : Int)) (vI l)) = true then _ else _
            rw [vI_in]
            by_cases m : p ∈ nbs L i
            · rw [decide_eq_true (pm.mem_iff.mpr m)]
              rw [decide_eq_true m] at eo
              exact ⟨⟨_, _, rfl⟩, s2.trans s3, more eo⟩
            · rw [decide_eq_false (fun z => m (pm.mem_iff.mp z))]
              rw [decide_eq_false m] at eo
              have q := k _ (s2.trans s3)
              rw [shows_bad hi eo] at q
              exact q
          · rw [decide_eq_false z] at eo ⊢
            have q := k _ s2
            rw [shows_bad hi eo] at q
            exact q
    · rintro σ H1 ⟨⟨x6, x7, rfl⟩, s1, all⟩
      rw [th_len] at all
      have ht1 : Thing H1 a nl.length u := s1 _ _ ht
      have up : ∀ k, k < nl.length → k ≠ r → ∃ p, u k = some p ∧ p < nl.length := fun k hk hr => by
        have := all k hk
        unfold okH at this
        rw [if_neg hr] at this
        cases hu : u k with
        | none => rw [hu] at this; cases this
        | some p =>
          rw [hu] at this
          simp only [Bool.and_eq_true, decide_eq_true_eq] at this
          exact ⟨p, rfl, this.1⟩
      refine ⟨_, rfl, _, _, rfl, .inr (.inl (.inr ⟨on, s1 _ _ hna⟩)), _, rfl, by rw [List.length_map]; omega, by rw [List.length_map]; omega, fun D hD => ?_⟩
      rw [List.length_map, Int.toNat_natCast]
      refine lc_range (fun i H' => Same H1 H' ∧ H' D = some (.lst (((List.range i).map (homeF u r nl.length)).map V.bl))) ⟨same_new hD, upd_same⟩ ?_ ?_
      · rintro i H' hi ⟨s, hD'⟩
        refine ⟨rfl, ?_⟩
        unfold tYes
        refine iteT ?_
        refine ⟨_, rfl, _, rfl, _, rfl, a, nl.length, i, r, u, by rw [Int.zero_add]; rfl, s _ _ ht1, n16, hi, up, ?_⟩
        refine ⟨_, hD', by rw [List.length_map, List.length_map, List.length_range]; exact small1000 (by omega), same_upd s hD, ?_⟩
        rw [upd_same, List.range_succ, List.map_append, List.map_append]; rfl
      rintro H2 ⟨s2, h2⟩
      refine ⟨D, _, rfl, SqL.of h2, ?_⟩
      have e : showsB nl.length L r u = ((List.range nl.length).map (homeF u r nl.length)).all id := by
        unfold showsB
        rw [List.all_map, (List.all_eq_true.mpr fun x hx => all x (List.mem_range.mp hx) : (List.range nl.length).all (okH nl.length L r u) = true), Bool.true_and]
        rfl
      rw [← e]
      exact k _ (s1.trans s2)
end
end Rc
set_option Elab.async false
set_option linter.all false
set_option maxRecDepth 100000
set_option maxHeartbeats 4000000
namespace Rc
open PySem PySem.Spec PyProof.Rows L2 RcN RZ
open C8 (pe_c pe_mk pe_mt pe_mt0)
def cnd (u : Nat → Option Nat) (met : List Nat) (k : Nat) : Bool := !decide (k ∈ met) && (match u k with | none => false | some p => decide (p ∈ met))
theorem newMet_eq {n : Nat} {u : Nat → Option Nat} {met : List Nat} : newMet n u met = (List.range n).filter (cnd u met) := rfl
section
variable {P : Program} {w : World} {K : PySem.W.Frag} {mg : Str → Option Value} {base : Heap} {C CB CL f : Addr} {fd : FuncData}
theorem ok_l_shows (F : DefAt K "_law_shows" "_law_shows" s_l_shows f fd) (T : Txt K mg C CB CL) (c_l_near : C8.Cal P w K mg base 1 "_law_near" (spNear K) []) :
    FnOk P w K mg base CX0 2 f fd ["_law_web_here", "_law_name_here", "_law_thing"] (spShowsL K) := by
  refine okN F sc_l_shows (fun vs H Q E h => ?_) (fun cdv A outer s H vs Q E hr h => ?_)
  · obtain ⟨wb, na, li, a, nl, L, v, r, u, d, rfl, _⟩ := h
    rfl
  · obtain ⟨wb, na, li, a, nl, L, v, r, u, d, rfl, W, WG, hv, ht, tr, k⟩ := h
    have W0 := W
    obtain ⟨xs, on, hw, hpl, hna, hli, hP⟩ := W0
    have rn := tr.rn
    have vin : v ∈ nl := List.mem_of_getElem? hv
    have n16 := WG.n16
    refine ⟨_, (pss_cons (ps_set (i := 3) sc_l_shows.nd rfl (Or.inl rfl) (pe_ix ix_tup (pv 0) pe_int (fun _ _ => rfl)))
    (pss_cons (ps_if (PW.pt (pw_or (pt_val (pe_callB call_isi (by rfl) T.b_isinstance (by decide +kernel) (pa_cons (pv 1) (pa_cons (pe_bltn (v := .ty "bool") (by rfl) T.b_bool (by decide +kernel) rfl) pa_nil)))) (pw_or (pt_not (pt_val (pe_callB call_isi (by rfl) T.b_isinstance (by decide +kernel) (pa_cons (pv 1) (pa_cons (pe_bltn (v := .ty "int") (by rfl) T.b_int (by decide +kernel) rfl) pa_nil))))) (pw_or (pt_cmpR op_notIn_seq (pv 1) (pv 3) (by rfl)) (pw_or1 (pt_not (pt_val (pe_callB call_isi (by rfl) T.b_isinstance (by decide +kernel) (pa_cons (pv 2) (pa_cons (pe_bltn (v := .ty "tuple") (by rfl) T.b_tuple (by decide +kernel) rfl) pa_nil)))))))))) (pss_one (ps_ret pe_bl)) pss_nil)
    (pss_cons (ps_if (PW.pt (pw_or (pt_cmpR op_ne (pe_callB call_len_seq (by rfl) T.b_len (by decide +kernel) (pa_cons (pv 2) pa_nil)) (pe_callB call_len_seq (by rfl) T.b_len (by decide +kernel) (pa_cons (pv 3) pa_nil)) (nomark _)) (pw_or1 (pt_cmpR op_notN (pe_ix ix_tup (pv 2) (pe_bmt PySem.F.plainAttrs_tuple PySem.F.slot_tuple_index PySem.F.type_tuple_index mt_tup_indexI (pv 3) (pa_cons (pv 1) pa_nil)) (fun _ _ => rfl)) pe_non (nomark _))))) (pss_one (ps_ret pe_bl)) pss_nil)
    (pss_cons (ps_set (i := 4) sc_l_shows.nd rfl (Or.inr rfl) (pe_lst (pa_cons (pe_bmt PySem.F.plainAttrs_tuple PySem.F.slot_tuple_index PySem.F.type_tuple_index mt_tup_indexI (pv 3) (pa_cons (pv 1) pa_nil)) pa_nil)))
    (pss_cons (ps_for PassesOwn.never rfl (pi_enumT (by rfl) T.b_enumerate (pa_cons (pv 2) pa_nil)) (pg_tup rfl (pgs_cons (pg_name (i := 5) sc_l_shows.nd rfl (Or.inl rfl)) (pgs_cons (pg_name (i := 6) sc_l_shows.nd rfl (Or.inl rfl)) pgs_nil))) (pss_one (ps_if (pt_cmpR op_ne (pv 5) (pe_ix ix_list (pv 4) pe_int (fun _ _ => rfl)) (nomark _)) (pss_one (ps_if (PW.pt (pw_or (pt_val (pe_callB call_isi (by rfl) T.b_isinstance (by decide +kernel) (pa_cons (pv 6) (pa_cons (pe_bltn (v := .ty "bool") (by rfl) T.b_bool (by decide +kernel) rfl) pa_nil)))) (pw_or (pt_not (pt_val (pe_callB call_isi (by rfl) T.b_isinstance (by decide +kernel) (pa_cons (pv 6) (pa_cons (pe_bltn (v := .ty "int") (by rfl) T.b_int (by decide +kernel) rfl) pa_nil))))) (pw_or1 (pt_cmpR op_notIn_seq (pv 6) (pe_c c_l_near hr (by decide) (by rfl) (pa_cons (pv 0) (pa_cons (pv 5) pa_nil))) (by rfl)))))) (pss_one (ps_ret pe_bl)) pss_nil)) pss_nil)))
    (pss_cons (ps_for PassesOwn.never rfl (pi_range1 (by rfl) T.b_range (pa_cons (pe_callB call_len_seq (by rfl) T.b_len (by decide +kernel) (pa_cons (pv 3) pa_nil)) pa_nil)) (pg_name (i := 7) sc_l_shows.nd rfl (Or.inl rfl)) (pss_one (ps_expr (pe_bm PySem.F.plainAttrs_list PySem.F.slot_list_extend PySem.F.type_list_extend mt_extend (pv 4) (pa_cons (pe_lc (own := [("_law_k", 5), ("_law_up", 6)]) (g := gTup K 2 (gCons (gName 5) (gCons (gName 6) gNil))) (tt := tAnd (tTest (tOp (rIn K true) (tVar 5) (tVar 4))) (tTest (tOp (rIn K false) (tVar 6) (tVar 4)))) rfl sc_l_shows.nd (pi_enumT (by rfl) T.b_enumerate (pa_cons (pv 2) pa_nil)) (blkOk_by (own := [("_law_k", 5), ("_law_up", 6)]) (N := ["_law_web_here", "_law_name_here", "_law_thing", "_law_names_here", "_law_met", "_law_k", "_law_up", "_law_turn"]) (sc := defScope s_l_shows) (by decide +kernel)) (fun _ _ _ _ _ => (pg_tup rfl (pgs_cons (pg_name (i := 5) sc_l_shows.nd rfl (Or.inl rfl)) (pgs_cons (pg_name (i := 6) sc_l_shows.nd rfl (Or.inl rfl)) pgs_nil)))) (fun _ _ _ _ _ => (pts_one (PW.pt (pw_and (pt_cmpR op_notIn_seq (pv 5) (pv 4) (by rfl)) (pw_and1 (pt_cmpR op_in_seq (pv 6) (pv 4) (by rfl))))))) (fun _ _ _ _ _ => (pv 5))) pa_nil)))))
    (pss_one (ps_ret (pe_cmpR op_eq (pe_callB call_len_seq (by rfl) T.b_len (by decide +kernel) (pa_cons (pv 4) pa_nil)) (pe_callB call_len_seq (by rfl) T.b_len (by decide +kernel) (pa_cons (pv 3) pa_nil)) (nomark _)))))))))), ?_⟩
    refine ⟨_, rfl, _, _, _, _, rfl, rfl, SqT.of hw, rfl, ?_⟩
    refine ⟨_, rfl, _, _, _, _, _, rfl, .ty _, tyx_o (o := some v), kit_o_bool, _, rfl, ?_⟩
    refine iteF ?_
    refine ⟨_, rfl, _, _, _, _, _, rfl, .ty _, tyx_o (o := some v), kit_o_int, _, rfl, ?_⟩
    refine iteF ?_
    refine ⟨_, rfl, _, rfl, na, _, rfl, .inr (.inl (.inr ⟨on, hna⟩)), rfl, int_flat _, _, rfl, ?_⟩
    rw [if_pos rfl, int_in, decide_eq_true vin]
    refine iteF ?_
    refine ⟨_, rfl, _, _, _, _, _, rfl, .ty _, tyx_t ht, kit_t, _, rfl, ?_⟩
    refine iteF ?_
    refine ⟨_, rfl, _, _, rfl, .inr (SqT.of ht), _, rfl, _, _, rfl, .inr (.inl (.inr ⟨on, hna⟩)), rfl, _, rfl, ?_⟩
    rw [th_len, List.length_map, decide_eq_true rfl]
    refine iteF ?_
    refine ⟨_, rfl, _, rfl, ⟨_, _, _, rfl, hna, hpl⟩, _, rfl, na, nl, v, r, rfl, rfl, .inl (.inr ⟨on, hna⟩), hv, idx_first WG.nd hv, ?_⟩
    refine ⟨_, _, _, .non, rfl, rfl, SqT.of ht, at_nat (by rw [rg_get rn, tr.root]; rfl), rfl, _, rfl, ?_⟩
    refine iteF ?_
    refine ⟨_, rfl, ⟨_, _, _, rfl, hna, hpl⟩, _, rfl, na, nl, v, r, rfl, rfl, .inl (.inr ⟨on, hna⟩), hv, idx_first WG.nd hv, one_ok, fun M hM => ?_⟩
    have s0 : Same H (upd H M (.lst [.int (r : Int)])) := same_new hM
    -- the first loop
    refine ⟨_, rfl, a, _, rfl, SqT.of (s0 _ _ ht), ?_⟩
    refine for_it (walk_enumT (a := a) (xs := (List.range nl.length).map fun k => oN (u k))) (fun i σ H' => (∃ x5 x6 x7 : Option V, σ = [some (.ref wb), some (.int v), some (.ref a), some (.ref na), some (.ref M), x5, x6, x7]) ∧ Same (upd H M (.lst [.int (r : Int)])) H')
      ⟨⟨_, _, _, rfl⟩, Same.refl _⟩ (fun i σ H' _ ⟨_, s⟩ => SqT.of (s _ _ (s0 _ _ ht))) ?_ ?_
    · rintro i x σ H1 H2 hi ⟨⟨x5, x6, x7, rfl⟩, s1⟩ ⟨t, x1, x2, rfl, htn, e, g1, g2⟩
      subst e
      rw [th_len] at hi
      have g1' : some (V.int ((i : Nat) : Int)) = some x1 := g1
      have g2' : ((List.range nl.length).map fun k => oN (u k))[i]? = some x2 := g2
      rw [rg_get hi] at g2'
      obtain rfl := Option.some.inj g1'
      obtain rfl := Option.some.inj g2'
      have s2 : Same (upd H M (.lst [.int (r : Int)])) (upd H1 t (.tup [.int (i : Int), oN (u i)])) := same_upd s1 (s1.free htn)
      refine ⟨t, _, rfl, SqT.of upd_same, rfl, _, _, rfl, _, _, rfl, rfl, ?_⟩
      refine ⟨_, rfl, _, rfl, _, _, _, _, rfl, rfl, SqL.of (s2 _ _ upd_same), rfl, rfl, _, rfl, ?_⟩
      refine ite2 (fun c => ?_) (fun c => ⟨⟨_, _, _, rfl⟩, s2⟩)
      have c' : ¬ i = r := fun q => by subst q; simp at c
      obtain ⟨p, hu, hp, hm, _⟩ := tr.up i hi c'
      rw [hu] at s2 ⊢
      refine ⟨_, rfl, _, _, _, _, _, rfl, .ty _, tyx_o (o := some (p : Int)), kit_o_bool, _, rfl, ?_⟩
      refine iteF ?_
      refine ⟨_, rfl, _, _, _, _, _, rfl, .ty _, tyx_o (o := some (p : Int)), kit_o_int, _, rfl, ?_⟩
      refine iteF ?_
      refine ⟨_, rfl, _, rfl, _, rfl, wb, na, li, nl, L, i, rfl, W.same (fun b o _ e => s2 _ _ (s0 _ _ e)), WG.w.len, fun q hq => (WG.w.lt q hq).1, fun l q H3 pm s3 hq2 => ?_⟩
      refine ⟨q, _, rfl, .inl (SqL.of hq2), rfl, vI_flat l, _, rfl, ?_⟩
      rw [if_pos rfl]
      show if (!inV (V.int (p : Int)) (vI l)) = true then _ else _
      rw [vI_in, decide_eq_true ((pm p).mpr hm)]
      exact ⟨⟨_, _, _, rfl⟩, s2.trans s3⟩
    rintro σ H1 ⟨⟨x5, x6, x7, rfl⟩, s1⟩
    have hM1 := s1 _ _ (upd_same (H := H) (a := M) (o := .lst [.int (r : Int)]))
    have s01 := s0.trans s1
    -- the second
    refine ⟨_, rfl, _, _, rfl, .inr (.inl (.inr ⟨on, s01 _ _ hna⟩)), _, rfl, by rw [List.length_map]; omega, by rw [List.length_map]; omega, ?_⟩
    rw [List.length_map, Int.toNat_natCast]
    refine for_range (fun i σ H' => (∃ x5 x6 x7 : Option V, σ = [some (.ref wb), some (.int v), some (.ref a), some (.ref na), some (.ref M), x5, x6, x7]) ∧ Same H H' ∧ ∃ met, H' M = some (.lst (vI met)) ∧ Met nl.length r d i met) ⟨⟨_, _, _, rfl⟩, s01, [r], hM1, met0 tr⟩ ?_ ?_
    · rintro i σ H2 hi ⟨⟨x5, x6, x7, rfl⟩, s2, met, hM2, ME⟩
      have ml : met.length ≤ nl.length := by
        have := pig met (List.range nl.length) ME.nd fun x hx => List.mem_range.mpr (ME.lt x hx)
        rwa [List.length_range] at this
      refine ⟨_, rfl, .inl ⟨rfl, _, SqL.of hM2⟩, _, rfl, a, _, rfl, SqT.of (s2 _ _ ht), fun D hD => ?_⟩
      have DM : M ≠ D := ne_of_none hM2 hD
      refine lc_it (walk_enumT (a := a) (xs := (List.range nl.length).map fun k => oN (u k))) (fun j H' => Same H2 H' ∧ H' D = some (.lst (vI ((List.range j).filter (cnd u met))))) ⟨same_new hD, upd_same⟩
        (fun j H' _ ⟨s, _⟩ => SqT.of (s _ _ (s2 _ _ ht))) ?_ ?_
      · rintro j x H3 H4 hj ⟨s3, hD3⟩ ⟨t, x1, x2, rfl, htn, e, g1, g2⟩
        subst e
        rw [th_len] at hj
        have g1' : some (V.int ((j : Nat) : Int)) = some x1 := g1
        have g2' : ((List.range nl.length).map fun k => oN (u k))[j]? = some x2 := g2
        rw [rg_get hj] at g2'
        obtain rfl := Option.some.inj g1'
        obtain rfl := Option.some.inj g2'
        have s4 : Same H2 (upd H3 t (.tup [.int (j : Int), oN (u j)])) := same_upd s3 (s3.free htn)
        have hD4 : (upd H3 t (.tup [.int (j : Int), oN (u j)])) D = some (.lst (vI ((List.range j).filter (cnd u met)))) := by rw [upd_ne (ne_of_none hD3 htn)]; exact hD3
        have fl : ((List.range j).filter (cnd u met)).length ≤ j := by
          have := List.length_filter_le (cnd u met) (List.range j)
          rwa [List.length_range] at this
        refine ⟨t, _, rfl, SqT.of upd_same, rfl, _, _, rfl, _, _, rfl, rfl, rfl, ?_⟩
        refine ⟨_, rfl, _, rfl, M, _, rfl, .inl (SqL.of (s4 _ _ hM2)), rfl, vI_flat met, _, rfl, ?_⟩
        rw [if_pos rfl, vI_in]
        by_cases c1 : j ∈ met
        · rw [decide_eq_true c1]
          refine iteF (iteF ?_)
          refine ⟨s4, ?_⟩
          have ec : cnd u met j = false := by unfold cnd; rw [decide_eq_true c1]; rfl
          rw [hD4, List.range_succ, List.filter_append, List.filter_cons_of_neg (by rw [ec]; simp), List.filter_nil, List.append_nil]
        · rw [decide_eq_false c1]
          refine iteT ?_
          refine ⟨_, rfl, _, rfl, M, _, rfl, .inl (SqL.of (s4 _ _ hM2)), oN_flat _, vI_flat met, _, rfl, ?_⟩
          have ec : inV (oN (u j)) (vI met) = cnd u met j := by rw [oN_in]; unfold cnd; rw [decide_eq_false c1]; rfl
          rw [if_neg (by decide), ec]
          refine ite2 (fun c2 => ?_) (fun c2 => ?_)
          · refine ⟨_, rfl, _, hD4, by rw [vI_len]; exact small1000 (by omega), same_upd s4 hD, ?_⟩
            rw [upd_same, List.range_succ, List.filter_append, List.filter_cons_of_pos c2, List.filter_nil, vI_app]; rfl
          · refine ⟨s4, ?_⟩
            rw [hD4, List.range_succ, List.filter_append, List.filter_cons_of_neg c2, List.filter_nil, List.append_nil]
      rintro H3 ⟨s3, hD3⟩
      rw [th_len, ← newMet_eq] at hD3
      have nlen : (newMet nl.length u met).length ≤ nl.length := by
        have := List.length_filter_le (cnd u met) (List.range nl.length)
        rw [List.length_range] at this
        exact this
      refine ⟨M, D, _, _, rfl, rfl, s3 _ _ hM2, hD3, by rw [vI_len, vI_len]; exact Nat.le_of_lt (small1000 (by omega)), ?_⟩
      refine ⟨⟨_, _, _, rfl⟩, same_upd (s2.trans s3) hM, _, by rw [upd_same, ← vI_app], met_more tr ME⟩
    · rintro σ H2 ⟨⟨x5, x6, x7, rfl⟩, s2, met, hM2, ME⟩
      refine ⟨_, rfl, _, _, rfl, .inl (SqL.of hM2), _, rfl, _, _, rfl, .inr (.inl (.inr ⟨on, s2 _ _ hna⟩)), rfl, ?_⟩
      rw [vI_len, List.length_map, met_len tr ME, decide_eq_true rfl]
      exact k _ s2
end
end Rc
set_option Elab.async false
set_option linter.all false
set_option maxRecDepth 100000
set_option maxHeartbeats 4000000
namespace Rm
section
variable {n : Nat} {nb : Nat → List Nat} {nm : Nat → Int} {m : M}
theorem tell_beg (os : List Nat) (m : M) (h : Nat) (l : Let) : (tellTo m h os l).beg = m.beg := (tellTo_fields os m h l).2.2.2.2.1
theorem learn_beg (h : Nat) (o : Option Nat) (c : Int) : (learn nb m h o c).beg = m.beg := by
  unfold learn
  cases m.chief h with
  | some _ => rfl
  | none => exact tell_beg _ _ _ _
theorem end_beg (h : Nat) : (endWave nb m h).beg = m.beg := by
  unfold endWave
  split
  · rfl
  · split
    · exact tell_beg _ _ _ _
    · exact learn_beg _ _ _
theorem take_beg (h : Nat) (p : Option Nat) (v : Int) : (takeWave nb m h p v).beg = m.beg := by
  unfold takeWave
  rw [end_beg]
  exact tell_beg _ _ _ _
theorem begin_beg (h : Nat) : (begin1 nb nm m h).beg = m.beg ++ [h] := take_beg _ _ _
theorem come_beg (h o : Nat) : (come nb m h o).beg = m.beg := by
  unfold come
  split
  · rfl
  · split
    · exact learn_beg _ _ _
    · split
      · exact take_beg _ _ _
      · split
        · exact take_beg _ _ _
        · split
          · exact end_beg _
          · rfl
structure Sys (n : Nat) (nb : Nat → List Nat) (nm : Nat → Int) (m : M) : Prop where
  ok : ∃ g, Ok n nb nm m g none
  pot : pot n nb nm m + m.told + m.beg.length ≤ 4880
  pend : pend n m ≤ m.told
def phi (n : Nat) (nb : Nat → List Nat) (nm : Nat → Int) (m : M) : Nat := pot n nb nm m + pend n m
theorem sys_init (W : Web n nb nm) (h16 : n ≤ 16) : Sys n nb nm init := ⟨⟨_, ok_init⟩, by
  have := pot_init W h16
  show _ + 0 + 0 ≤ 4880
  omega, by rw [pend_zero fun _ _ => rfl]; exact Nat.zero_le _⟩
theorem sys_begin (W : Web n nb nm) (S : Sys n nb nm m) {h : Nat} (hh : h < n) (hw : m.wave h = none) : Sys n nb nm (begin1 nb nm m h) ∧ phi n nb nm (begin1 nb nm m h) + 1 ≤ phi n nb nm m := by
  obtain ⟨g, O⟩ := S.ok
  have C := begin_cost W hh hw
  have b : (begin1 nb nm m h).beg.length = m.beg.length + 1 := by rw [begin_beg, List.length_append]; rfl
  have h1 := C.more
  have h2 := C.pay
  have h3 := C.wait
  have h4 := S.pot
  have h5 := S.pend
  refine ⟨⟨begin_ok W O hh hw, by omega, by omega⟩, ?_⟩
  unfold phi
  omega
theorem sys_come (W : Web n nb nm) (S : Sys n nb nm m) {h o : Nat} (hr : m.rd h o ≠ []) : Sys n nb nm (come nb m h o) ∧ phi n nb nm (come nb m h o) + 1 ≤ phi n nb nm m := by
  obtain ⟨g, O⟩ := S.ok
  obtain ⟨h1, h2, h3⟩ := come_cost W O hr
  have b : (come nb m h o).beg.length = m.beg.length := by rw [come_beg]
  have h4 := S.pot
  have h5 := S.pend
  refine ⟨⟨come_ok W O h o, by omega, by omega⟩, ?_⟩
  unfold phi
  omega
theorem Sys.phi_le (S : Sys n nb nm m) : phi n nb nm m ≤ 4880 := by
  have := S.pot
  have := S.pend
  unfold phi
  omega
end
end Rm
namespace Rc
open PySem PySem.Spec PyProof.Rows L2 RcN
theorem KeepX.tups {a : Addr} {H H' : Hp} {u : HO} (k : KeepX a H H') (h : H a = some u) (i : IsT u = false) : Tups H H' := fun b o j e => k b o e (ne_t j e h i)
theorem StAt.tups {H H' : Hp} {a c : Addr} {t : Nat} (S : StAt H a c t) (k : KeepX a H H') : Tups H H' := by
  obtain ⟨z, cs, _, ha, _⟩ := S
  exact k.tups ha rfl
/-- draws and deeds of one run -/
structure Act (a c : Addr) (t k : Nat) (r r' : RA) (H H' : Hp) : Prop where
  p : r'.p = r.p
  keep : ∀ b o, H b = some o → b ≠ a → ¬ Own r b → H' b = some o
  own : ∀ b, Own r' b → Own r b ∨ H b = none
  st : ∃ t', t' ≤ t + k ∧ StAt H' a c t'
section
variable {a c : Addr} {t k : Nat} {r r1 r2 : RA} {H H1 H2 : Hp}
theorem Act.refl (S : StAt H a c t) : Act a c t 0 r r H H := ⟨rfl, fun _ _ h _ _ => h, fun _ h => .inl h, t, Nat.le_refl _, S⟩
theorem Act.more {j : Nat} (A : Act a c t k r r1 H H1) (h : k ≤ j) : Act a c t j r r1 H H1 := ⟨A.p, A.keep, A.own, let ⟨t', l, s⟩ := A.st; ⟨t', by omega, s⟩⟩
theorem Act.not_own (A : Act a c t k r r1 H H1) {b : Addr} {o : HO} (h : H b = some o) (n : ¬ Own r b) : ¬ Own r1 b := fun z => by
  rcases A.own b z with y | y
  · exact n y
  · rw [h] at y; cases y
theorem Act.stp (A : Act a c t k r r1 H H1) (S : StAt H a c t) (na : ¬ Own r a) (nc : ¬ Own r c) (B : Stp r1 r2 H1 H2) : Act a c t k r r2 H H2 := by
  obtain ⟨oa, ha⟩ := S.at_a
  obtain ⟨oc, hc⟩ := S.at_c
  have na1 := A.not_own ha na
  have nc1 := A.not_own hc nc
  refine ⟨B.p.trans A.p, fun b o h ne nb => B.keep b o (A.keep b o h ne nb) (A.not_own h nb), fun b z => ?_, ?_⟩
  · rcases B.own b z with y | y
    · exact A.own b y
    · by_cases e : b = a
      · subst e
        obtain ⟨t', _, S'⟩ := A.st
        obtain ⟨o, ho⟩ := S'.at_a
        rw [ho] at y; cases y
      · by_cases q : Own r b
        · exact .inl q
        · right
          cases ho : H b with
          | none => rfl
          | some o => rw [A.keep b o ho e q] at y; cases y
  · obtain ⟨t', l, z, cs, h0, h1, h2, h3⟩ := A.st
    exact ⟨t', l, z, cs, h0, B.keep _ _ h1 na1, B.keep _ _ h2 nc1, h3⟩
theorem Act.same (A : Act a c t k r r1 H H1) (S : StAt H a c t) (na : ¬ Own r a) (nc : ¬ Own r c) (s : Same H1 H2) : Act a c t k r r1 H H2 := A.stp S na nc (Stp.same s)
theorem Act.dr {j : Nat} (A : Act a c t k r r1 H H1) (B : ∀ t', t' ≤ t + k → StAt H1 a c t' → Dr a c t' j H1 H2) : Act a c t (k + j) r r1 H H2 := by
  obtain ⟨t', l, S'⟩ := A.st
  obtain ⟨kx, t2, l2, S2⟩ := B t' l S'
  exact ⟨A.p, fun b o h ne nb => kx b o (A.keep b o h ne nb) ne, A.own, t2, by omega, S2⟩
theorem Act.tups {C : Addr} {n : Nat} {nb : Nat → List Nat} {nl : List Int} {m : Rm.M} (A : Act a c t k r r1 H H1) (S : StAt H a c t) (R : RunAt C H r n nb nl m) : Tups H H1 := by
  obtain ⟨z, cs, _, ha, _⟩ := S
  exact fun b o i e => A.keep b o e (ne_t i e ha rfl) (R.not_tup i e)
theorem RunAt.keepx {C : Addr} {n : Nat} {nb : Nat → List Nat} {nl : List Int} {m : Rm.M} (R : RunAt C H r n nb nl m) {t : Nat} (S : StAt H a c t) (na : ¬ Own r a) (k : KeepX a H H1) : RunAt C H1 r n nb nl m :=
  R.frame (fun b o h w => k b o h fun e => na (e ▸ w)) (S.tups k)
/-- another run, its things apart -/
theorem RunAt.act {C : Addr} {n : Nat} {nb : Nat → List Nat} {nl : List Int} {m : Rm.M} {q : RA} {C' : Addr} {n' : Nat} {nb' : Nat → List Nat} {nl' : List Int} {m' : Rm.M} (R : RunAt C H q n nb nl m) (S : StAt H a c t) (na : ¬ Own q a) (R' : RunAt C' H r n' nb' nl' m') (A : Act a c t k r r1 H H1) (ap : ∀ b, Own q b → ¬ Own r b) : RunAt C H1 q n nb nl m :=
  R.frame (fun b o h w => A.keep b o h (fun e => na (e ▸ w)) (ap b w)) (A.tups S R')
end
theorem for_range_fin {lo : Int} {n : Nat} {g : TG} {tb : TS} {D : Ends} {σ : L2.St} {H : Hp} (R : L2.St → Hp → Prop) (Pv : Nat → L2.St → Hp → Prop) (h0 : Pv 0 σ H) (fin : ∀ σ H, R σ H → D.nx σ H)
    (hs : (∀ σ H, R σ H → D.nx σ H) → ∀ i σ H, i < n → Pv i σ H → g (.int (lo + i)) σ H fun σ2 H2 => tb { D with nx := Pv (i + 1), ct := Pv (i + 1), bk := D.nx } σ2 H2) (hd : ∀ σ H, Pv n σ H → R σ H) :
    ∃ W : Nat → Nat → L2.St → Hp → Prop, (∃ m, W 0 m σ H) ∧ ∀ i m σ H, W i m σ H →
      ((Itr lo n).stop i H ∧ D.nx σ H) ∨ ((Itr lo n).go i H ∧ ∃ N : L2.St → Hp → Prop, (∀ σ' H', N σ' H' → ∃ m', m' < m ∧ W (i + 1) m' σ' H') ∧ ∀ x H', (Itr lo n).yld i H x H' → g x σ H' fun σ2 H2 => tb { D with nx := N, ct := N, bk := D.nx } σ2 H2) :=
  for_range Pv h0 (hs fin) fun σ H p => fin σ H (hd σ H p)
end Rc
set_option Elab.async false
set_option linter.all false
set_option maxRecDepth 100000
set_option maxHeartbeats 4000000
namespace Rc
open PySem PySem.Spec PyProof.Rows L2 RcN RZ
open C8 (pe_c pe_mk pe_mt pe_mt0)
abbrev WebN (n : Nat) (nb : Nat → List Nat) (nl : List Int) : Prop := Rm.Web n nb (nmOf nl)
abbrev SysN (n : Nat) (nb : Nat → List Nat) (nl : List Int) (m : Rm.M) : Prop := Rm.Sys n nb (nmOf nl) m
abbrev phiN (n : Nat) (nb : Nat → List Nat) (nl : List Int) (m : Rm.M) : Nat := Rm.phi n nb (nmOf nl) m
theorem small_of {n : Nat} {nb : Nat → List Nat} {nl : List Int} (W : WebN n nb nl) (h16 : n ≤ 16) : Small n nb := fun h hh => Nat.le_trans (Rm.nb_len W hh) h16
theorem passL {X : Cx} : Passes (L2.CX X.prog X.w) X C8.E0 := fun _ _ _ _ _ _ _ ⟨_, _, _, _, _, _, _, _, _, _, _, _, h⟩ => h.elim
def spTries (C : Addr) : Sp := fun vs H Q _ => ∃ (r : RA) (n : Nat) (nb : Nat → List Nat) (nl : List Int) (m : Rm.M) (h : Nat), vs = [.ref r.p, .int (h : Int)] ∧ RunAt C H r n nb nl m ∧ h < n ∧ n ≤ 16 ∧ WebN n nb nl ∧ SysN n nb nl m ∧
  ∀ H' r' m' b, RunAt C H' r' n nb nl m' → SysN n nb nl m' → Stp r r' H H' → phiN n nb nl m' ≤ phiN n nb nl m → (m.beg ≠ [] → m'.beg ≠ []) → Q (.bl b) H'
def spBegins (C : Addr) : Sp := fun vs H Q _ => ∃ (a c : Addr) (t : Nat) (r : RA) (n : Nat) (nb : Nat → List Nat) (nl : List Int), vs = [.ref a, .ref r.p, .int (n : Int)] ∧ StAt H a c t ∧ t < 2 ^ 57 ∧ ¬ Own r a ∧ ¬ Own r c ∧ RunAt C H r n nb nl Rm.init ∧ 1 ≤ n ∧ n ≤ 16 ∧ WebN n nb nl ∧
  ∀ H' r' m', RunAt C H' r' n nb nl m' → SysN n nb nl m' → Act a c t 40 r r' H H' → m'.beg ≠ [] → Q .non H'
theorem Act.of_dr {a c : Addr} {t k : Nat} {r : RA} {H H1 : Hp} (D : Dr a c t k H H1) : Act a c t k r r H H1 := ⟨rfl, fun b o h ne _ => D.1 b o h ne, fun _ h => .inl h, D.2⟩
theorem Act.drT {a c : Addr} {t k j t1 : Nat} {r r1 : RA} {H H1 H2 : Hp} (A : Act a c t k r r1 H H1) (l : t1 ≤ t + k) (D : Dr a c t1 j H1 H2) : Act a c t (k + j) r r1 H H2 := by
  obtain ⟨kx, t2, l2, S2⟩ := D
  exact ⟨A.p, fun b o h ne nb => kx b o (A.keep b o h ne nb) ne, A.own, t2, by omega, S2⟩
section
variable {P : Program} {w : World} {K : PySem.W.Frag} {mg : Str → Option Value} {base : Heap} {C CB CL f fB : Addr} {fd fdB : FuncData}
theorem ok_l_tries (F : DefAt K "_law_tries" "_law_tries" s_l_tries f fd) (T : Txt K mg C CB CL) (m_begin : Meth K C "begin" fB) (G_begin : FnOk P w K mg base (L2.CX P w) 5 fB fdB ["self", "house"] (spBegin C CB CL)) (b_begin : L2.Binds K fdB ["self", "house"] []) :
    FnOk P w K mg base CX0 6 f fd ["_law_run", "_law_house"] (spTries C) := by
  refine okN F sc_l_tries (fun vs H Q E h => ?_) (fun cdv A outer s H vs Q E hr h => ?_)
  · obtain ⟨r, n, nb, nl, m, h, rfl, _⟩ := h
    rfl
  · obtain ⟨r, n, nb, nl, m, h, rfl, R, hh, n16, W, S, k⟩ := h
    obtain ⟨dx, ob⟩ := R.ob
    have pot := S.pot
    refine ⟨_, (pss_cons (ps_set (i := 2) sc_l_tries.nd rfl (Or.inl rfl) pe_bl)
      (pss_cons (ps_try_tup (tb := fun W => tDrop (tMethS C "begin" (spBegin C CB CL) (WE W) (tVar 0) (tCons (tVar 1) tNil))) (ts := fun _ _ _ => tAsg (tC (.bl true)) (gName 2)) (Wout := fun _ _ _ _ => False) rfl rfl ⟨rfl, T.gB, by decide⟩ ⟨rfl, T.gL, by decide⟩
        (fun W pn xe tk _ => pss_one (ps_expr (pe_methS (pv 0) T.cl m_begin G_begin (hr.mono (by decide)) b_begin (fun σ => passAt tk σ) (by exact (pa_cons (pv 1) pa_nil)))))
        (fun _ _ _ _ _ _ _ => pss_one (ps_set (i := 2) sc_l_tries.nd rfl (Or.inl rfl) pe_bl)))
      (pss_one (ps_ret (pv 2))))), ?_⟩
    refine ⟨_, rfl, _, _, _, rfl, ob, f_no _ _ (by decide +kernel), _, rfl, r, n, nb, nl, m, h, rfl, R, hh, small_of W n16, by omega, by omega, fun _ => ⟨any2 T.eBB T.eBL rfl, fun a ha => ⟨_, rfl, k H r m true R S (Stp.refl _ _) (Nat.le_refl _) id⟩⟩,
      fun _ _ => ⟨any2 T.eLB T.eLL rfl, fun a ha => ⟨_, rfl, k H r m true R S (Stp.refl _ _) (Nat.le_refl _) id⟩⟩, fun hb hw H' r' R' S' => ⟨_, rfl, ?_⟩⟩
    obtain ⟨sy, ph⟩ := Rm.sys_begin W S hh hw
    exact k H' r' _ false R' sy S' (by unfold phiN; omega) (fun _ => by rw [Rm.begin_beg]; simp)
theorem ok_l_begins (F : DefAt K "_law_begins" "_law_begins" s_l_begins f fd) (T : Txt K mg C CB CL) (m_begin : Meth K C "begin" fB) (G_begin : FnOk P w K mg base (L2.CX P w) 5 fB fdB ["self", "house"] (spBegin C CB CL)) (b_begin : L2.Binds K fdB ["self", "house"] [])
    (c_l_next : C8.Cal P w K mg base 2 "_law_next" spNext []) (c_l_of : C8.Cal P w K mg base 3 "_law_of" spOf []) (c_l_tries : C8.Cal P w K mg base 6 "_law_tries" (spTries C) []) : FnOk P w K mg base CX0 7 f fd ["_law_state", "_law_run", "_law_many"] (spBegins C) := by
  refine okN F sc_l_begins (fun vs H Q E h => ?_) (fun cdv A outer s H vs Q E hr h => ?_)
  · obtain ⟨a, c, t, r, n, nb, nl, rfl, _⟩ := h
    rfl
  · obtain ⟨a, c, t, r, n, nb, nl, rfl, S, ht, na, nc, R, n1, n16, W, k⟩ := h
    obtain ⟨dx, ob⟩ := R.ob
    obtain ⟨oa, hoa⟩ := S.at_a
    refine ⟨_, (pss_cons (ps_expr (pe_meth (pv 1) T.cl m_begin G_begin (hr.mono (by decide)) b_begin .nil passL (pa_cons (pe_c c_l_next hr (by decide) (by rfl) (pa_cons (pv 0) (pa_cons (pv 2) pa_nil))) pa_nil)))
    (pss_one (ps_for PassesOwn.never rfl (pi_range1 (by rfl) T.b_range (pa_cons (pe_c c_l_of hr (by decide) (by rfl) (pa_cons (pv 0) (pa_cons (pe_lst (pa_cons pe_int (pa_cons pe_int (pa_cons pe_int (pa_cons (pv 2) pa_nil))))) pa_nil))) pa_nil)) (pg_name (i := 3) sc_l_begins.nd rfl (Or.inl rfl)) (pss_one (ps_expr (pe_c c_l_tries hr (by decide) (by rfl) (pa_cons (pv 1) (pa_cons (pe_c c_l_next hr (by decide) (by rfl) (pa_cons (pv 0) (pa_cons (pv 2) pa_nil))) pa_nil)))))))), ?_⟩
    refine ⟨_, rfl, _, _, _, rfl, ob, f_no _ _ (by decide +kernel), _, rfl, _, rfl, a, c, t, n, rfl, S, by omega, by omega, by omega, fun h H1 hh D1 => ?_⟩
    obtain ⟨kx1, t1, l1, S1⟩ := D1
    have R1 := R.keepx S na kx1
    refine ⟨r, n, nb, nl, Rm.init, h, rfl, R1, hh, small_of W n16, by decide, by decide, fun z => (nomatch z), fun _ z => absurd rfl z, fun _ _ H2 r2 R2 P2 => ?_⟩
    obtain ⟨sy2, _⟩ := Rm.sys_begin W (Rm.sys_init W n16) hh (m := Rm.init) rfl
    have A2 : Act a c t 1 r r2 H H2 := (Act.of_dr ⟨kx1, t1, l1, S1⟩).stp S na nc P2
    have bg2 : (Rm.begin1 nb (nmOf nl) Rm.init h).beg ≠ [] := by rw [Rm.begin_beg]; simp
    obtain ⟨t2, l2, S2⟩ := A2.st
    refine ⟨_, rfl, _, rfl, four_ok, fun b hb => ?_⟩
    have s3 := same_new (o := .lst ([0, 1, 3, (n : Int)].map V.int)) hb
    refine ⟨a, c, b, t2, [0, 1, 3, (n : Int)], rfl, S2.same s3, by omega, upd_same, (S2.fresh hb).1, by show (0 : Nat) < 4; decide, by show (4 : Nat) < 1000; decide, fun x H3 hx D3 => ?_⟩
    have A3 : Act a c t 2 r r2 H H3 := (A2.same S na nc s3).drT l2 D3
    have R3 : RunAt C H3 r2 n nb nl (Rm.begin1 nb (nmOf nl) Rm.init h) := (R2.same s3).keepx (S2.same s3) (A2.not_own hoa na) D3.1
    have hx' : x = 0 ∨ x = 1 ∨ x = 3 ∨ x = (n : Int) := by simpa using hx
    refine ⟨x, rfl, by omega, by omega, ?_⟩
    refine for_range (fun i σ H' => (∃ x3, σ = [some (.ref a), some (.ref r.p), some (.int (n : Int)), x3]) ∧ ∃ r' m', RunAt C H' r' n nb nl m' ∧ SysN n nb nl m' ∧ m'.beg ≠ [] ∧ Act a c t (2 + i) r r' H H') ⟨⟨_, rfl⟩, r2, _, R3, sy2, bg2, A3⟩ ?_ ?_
    · rintro i σ H4 hi ⟨⟨x3, rfl⟩, r4, m4, R4, sy4, bg4, A4⟩
      obtain ⟨t4, l4, S4⟩ := A4.st
      refine ⟨_, rfl, _, rfl, _, rfl, a, c, t4, n, rfl, S4, by omega, by omega, by omega, fun h5 H5 hh5 D5 => ?_⟩
      have A5 := A4.drT l4 D5
      have R5 := R4.keepx S4 (A4.not_own hoa na) D5.1
      refine ⟨r4, n, nb, nl, m4, h5, by rw [A4.p]; rfl, R5, hh5, n16, W, sy4, fun H6 r6 m6 b6 R6 sy6 P6 _ bg6 => ?_⟩
      exact ⟨⟨_, rfl⟩, r6, m6, R6, sy6, bg6 bg4, A5.stp S na nc P6⟩
    · rintro σ H4 ⟨⟨x3, rfl⟩, r4, m4, R4, sy4, bg4, A4⟩
      exact k H4 r4 m4 R4 sy4 (A4.more (by omega)) bg4
end
end Rc
set_option Elab.async false
set_option linter.all false
set_option maxRecDepth 100000
set_option maxHeartbeats 8000000
namespace Rc
open PySem PySem.Spec PyProof.Rows L2 RcN RZ
open C8 (pe_c pe_mk pe_mt pe_mt0)
theorem idx_all {N : Nat} (first : Nat) {s : Int} (hs : s = 1 ∨ s = -1) {x : Nat} (hx : x < N) : ∃ i : Nat, i < N ∧ ((first : Int) + (i : Int) * s) % (N : Int) = (x : Int) := by
  have N0 : (N : Int) ≠ 0 := by omega
  have Np : (0 : Int) < (N : Int) := by omega
  have xe : (x : Int) % (N : Int) = (x : Int) := Int.emod_eq_of_lt (by omega) (by omega)
  rcases hs with rfl | rfl
  · have h0 := Int.emod_nonneg ((x : Int) - (first : Int)) N0
    have h1 := Int.emod_lt_of_pos ((x : Int) - (first : Int)) Np
    refine ⟨(((x : Int) - (first : Int)) % (N : Int)).toNat, by omega, ?_⟩
    rw [Int.toNat_of_nonneg h0, Int.mul_one, Int.add_emod_emod, show (first : Int) + ((x : Int) - (first : Int)) = (x : Int) by omega, xe]
  · have h0 := Int.emod_nonneg ((first : Int) - (x : Int)) N0
    have h1 := Int.emod_lt_of_pos ((first : Int) - (x : Int)) Np
    refine ⟨(((first : Int) - (x : Int)) % (N : Int)).toNat, by omega, ?_⟩
    rw [Int.toNat_of_nonneg h0, show (first : Int) + ((first : Int) - (x : Int)) % (N : Int) * -1 = (first : Int) - ((first : Int) - (x : Int)) % (N : Int) by omega, Int.sub_emod_emod, show (first : Int) - ((first : Int) - (x : Int)) = (x : Int) by omega, xe]
def swp (p : Nat × Nat) : Nat × Nat := (p.2, p.1)
abbrev roadsOf (L : List (Nat × Nat)) : List (Nat × Nat) := L ++ L.map swp
theorem mem_roads {L : List (Nat × Nat)} {h o : Nat} : (h, o) ∈ roadsOf L ↔ o ∈ nbs L h := by
  rw [mem_nbs]
  unfold roadsOf swp
  rw [List.mem_append, List.mem_map]
  constructor
  · rintro (m | ⟨⟨x, y⟩, m, e⟩)
    · exact .inl m
    · injection e with e1 e2
      simp only at e1 e2
      subst e1; subst e2
      exact .inr m
  · rintro (m | m)
    · exact .inl m
    · exact .inr ⟨_, m, rfl⟩
def LedW (C a c : Addr) (t : Nat) (r : RA) (Hr : Hp) (n : Nat) (nb : Nat → List Nat) (nl : List Int) (wb Rl : Addr) (p0 kk : Nat) (σ : L2.St) (H' : Hp) : Prop :=
  (∃ x5 x6 x7 x8 x9 x10 x11 x12 : Option V, σ = [some (.ref a), some (.ref r.p), some (.ref wb), some (.int (n : Int)), some (.ref Rl), x5, x6, x7, x8, x9, x10, x11, x12]) ∧
  ∃ r' m' j, RunAt C H' r' n nb nl m' ∧ SysN n nb nl m' ∧ m'.beg ≠ [] ∧ phiN n nb nl m' = kk ∧ j + 400 * kk ≤ 400 * p0 ∧ Act a c t j r r' Hr H'
def spLed (C : Addr) : Sp := fun vs H Q _ => ∃ (a c wb na li : Addr) (t : Nat) (r : RA) (nb : Nat → List Nat) (nl : List Int) (L : List (Nat × Nat)) (m : Rm.M), vs = [.ref a, .ref r.p, .ref wb] ∧ StAt H a c t ∧ t < 2 ^ 50 ∧ ¬ Own r a ∧ ¬ Own r c ∧ WebAt H wb na li nl L ∧ WebGood nl L ∧
  (∀ h, h < nl.length → (nb h).Perm (nbs L h)) ∧ RunAt C H r nl.length nb nl m ∧ SysN nl.length nb nl m ∧ m.beg ≠ [] ∧
  ∀ H' r' m', RunAt C H' r' nl.length nb nl m' → SysN nl.length nb nl m' → m'.beg ≠ [] → (∀ x y, m'.rd x y = []) → Act a c t 2000000 r r' H H' → Q .non H'
section
variable {P : Program} {w : World} {K : PySem.W.Frag} {mg : Str → Option Value} {base : Heap} {C CB CL f : Addr} {fd : FuncData}
theorem ok_l_led (F : DefAt K "_law_led" "_law_led" s_l_led f fd) (T : Txt K mg C CB CL) (c_l_next : C8.Cal P w K mg base 2 "_law_next" spNext []) (c_is_still : C8.Met P w K mg base 1 C "is_still" (spStill C) []) (c_waiting : C8.Met P w K mg base 4 C "waiting" (spWait C) [])
    (c_come : C8.Met P w K mg base 5 C "come" (spCome C) []) (c_l_tries : C8.Cal P w K mg base 6 "_law_tries" (spTries C) []) : FnOk P w K mg base CX0 7 f fd ["_law_state", "_law_run", "_law_web_here"] (spLed C) := by
  refine okN F sc_l_led (fun vs H Q E h => ?_) (fun cdv A outer s H vs Q E hr h => ?_)
  · obtain ⟨a, c, wb, na, li, t, r, nb, nl, L, m, rfl, _⟩ := h
    rfl
  · obtain ⟨a, c, wb, na, li, t, r, nb, nl, L, m, rfl, S, ht, na_, nc_, WB, WG, hnb, R, sy, bg, k⟩ := h
    obtain ⟨oa, hoa⟩ := S.at_a
    obtain ⟨oc, hoc⟩ := S.at_c
    have W : WebN nl.length nb nl := web_of WG.w rfl WG.nd hnb
    have n16 := WG.n16
    have n1 := WG.n1
    have L39 := WG.w.len
    obtain ⟨xs, on, hw, hpl, hna, hli, hP⟩ := WB
    have xl := paired_len hP
    refine ⟨_, (pss_cons (ps_set (i := 3) sc_l_led.nd rfl (Or.inl rfl) (pe_callB call_len_seq (by rfl) T.b_len (by decide +kernel) (pa_cons (pe_ix ix_tup (pv 2) pe_int (fun _ _ => rfl)) pa_nil)))
    (pss_cons (ps_set (i := 4) sc_l_led.nd rfl (Or.inl rfl) (pe_op op_cat (pe_lc (own := [("_law_one", 12), ("_law_other", 10)]) (g := gTup K 2 (gCons (gName 12) (gCons (gName 10) gNil))) (tt := tYes) rfl sc_l_led.nd (pi_tup (pe_ix ix_tup (pv 2) pe_int (fun _ _ => rfl))) (blkOk_by (own := [("_law_one", 12), ("_law_other", 10)]) (N := ["_law_state", "_law_run", "_law_web_here", "_law_many", "_law_roads", "_law_first", "_law_few", "_law_come_by", "_law_k", "_law_house", "_law_other", "_law_turn", "_law_one"]) (sc := defScope s_l_led) (by decide +kernel)) (fun _ _ _ _ _ => (pg_tup rfl (pgs_cons (pg_name (i := 12) sc_l_led.nd rfl (Or.inl rfl)) (pgs_cons (pg_name (i := 10) sc_l_led.nd rfl (Or.inl rfl)) pgs_nil)))) (fun _ _ _ _ _ => pts_nil) (fun _ _ _ _ _ => (pe_tup (pa_cons (pv 12) (pa_cons (pv 10) pa_nil))))) (pe_lc (own := [("_law_one", 12), ("_law_other", 10)]) (g := gTup K 2 (gCons (gName 12) (gCons (gName 10) gNil))) (tt := tYes) rfl sc_l_led.nd (pi_tup (pe_ix ix_tup (pv 2) pe_int (fun _ _ => rfl))) (blkOk_by (own := [("_law_one", 12), ("_law_other", 10)]) (N := ["_law_state", "_law_run", "_law_web_here", "_law_many", "_law_roads", "_law_first", "_law_few", "_law_come_by", "_law_k", "_law_house", "_law_other", "_law_turn", "_law_one"]) (sc := defScope s_l_led) (by decide +kernel)) (fun _ _ _ _ _ => (pg_tup rfl (pgs_cons (pg_name (i := 12) sc_l_led.nd rfl (Or.inl rfl)) (pgs_cons (pg_name (i := 10) sc_l_led.nd rfl (Or.inl rfl)) pgs_nil)))) (fun _ _ _ _ _ => pts_nil) (fun _ _ _ _ _ => (pe_tup (pa_cons (pv 10) (pa_cons (pv 12) pa_nil)))))))
    (pss_one (ps_while PassesOwn.never (pt_not (pt_val (pe_mt0 c_is_still hr (by decide) (pv 1)))) (pss_cons (ps_set (i := 5) sc_l_led.nd rfl (Or.inl rfl) (pe_c c_l_next hr (by decide) (by rfl) (pa_cons (pv 0) (pa_cons (pe_callB call_len_seq (by rfl) T.b_len (by decide +kernel) (pa_cons (pv 4) pa_nil)) pa_nil))))
    (pss_cons (ps_set (i := 6) sc_l_led.nd rfl (Or.inl rfl) (pe_op op_add pe_int (pe_c c_l_next hr (by decide) (by rfl) (pa_cons (pv 0) (pa_cons pe_int pa_nil)))))
    (pss_cons (ps_set (i := 7) sc_l_led.nd rfl (Or.inl rfl) pe_int)
    (pss_cons (ps_for PassesOwn.never rfl (pi_range1 (by rfl) T.b_range (pa_cons (pe_callB call_len_seq (by rfl) T.b_len (by decide +kernel) (pa_cons (pv 4) pa_nil)) pa_nil)) (pg_name (i := 8) sc_l_led.nd rfl (Or.inl rfl)) (pss_cons (ps_asg (pe_ix ix_list (pv 4) (pe_op op_mod (pe_op op_add (pv 5) (pe_op op_mul (pv 8) (pe_ix ix_list (pe_lst (pa_cons pe_int (pa_cons (pe_un un_neg pe_int) pa_nil))) (pe_op op_mod (pv 6) pe_int) (fun _ _ => rfl)))) (pe_callB call_len_seq (by rfl) T.b_len (by decide +kernel) (pa_cons (pv 4) pa_nil))) (fun _ _ => rfl)) (pg_tup rfl (pgs_cons (pg_name (i := 9) sc_l_led.nd rfl (Or.inl rfl)) (pgs_cons (pg_name (i := 10) sc_l_led.nd rfl (Or.inl rfl)) pgs_nil))))
    (pss_cons (ps_for PassesOwn.never rfl (pi_range1 (by rfl) T.b_range (pa_cons (pv 6) pa_nil)) (pg_name (i := 11) sc_l_led.nd rfl (Or.inl rfl)) (pss_one (ps_if (PW.pt (pw_and (pt_cmpR op_gt (pe_callB call_len_seq (by rfl) T.b_len (by decide +kernel) (pa_cons (pe_mt c_waiting hr (by decide) (pv 1) (pa_cons (pv 9) (pa_cons (pv 10) pa_nil))) pa_nil)) pe_int (nomark _)) (pw_and1 (PW.pt (pw_or (pt_cmpR op_eq (pv 7) pe_int (nomark _)) (pw_or1 (pt_cmpR op_gt (pe_c c_l_next hr (by decide) (by rfl) (pa_cons (pv 0) (pa_cons pe_int pa_nil))) pe_int (nomark _)))))))) (pss_cons (ps_expr (pe_mt c_come hr (by decide) (pv 1) (pa_cons (pv 9) (pa_cons (pv 10) pa_nil))))
    (pss_one (ps_set (i := 7) sc_l_led.nd rfl (Or.inl rfl) (pe_op op_add (pv 7) pe_int)))) pss_nil)))
    (pss_one (ps_if (PW.pt (pw_and (pt_cmpR op_gt (pv 7) pe_int (nomark _)) (pw_and1 (pt_cmpR op_eq (pe_c c_l_next hr (by decide) (by rfl) (pa_cons (pv 0) (pa_cons pe_int pa_nil))) pe_int (nomark _))))) (pss_one ps_break) pss_nil)))))
    (pss_one (ps_if (pt_cmpR op_eq (pe_c c_l_next hr (by decide) (by rfl) (pa_cons (pv 0) (pa_cons pe_int pa_nil))) pe_int (nomark _)) (pss_one (ps_expr (pe_c c_l_tries hr (by decide) (by rfl) (pa_cons (pv 1) (pa_cons (pe_c c_l_next hr (by decide) (by rfl) (pa_cons (pv 0) (pa_cons (pv 3) pa_nil))) pa_nil))))) pss_nil)))))))))), ?_⟩
    refine ⟨_, rfl, _, _, _, _, rfl, rfl, SqT.of hw, rfl, _, _, rfl, .inr (.inl (.inr ⟨on, hna⟩)), ?_⟩
    rw [List.length_map]
    -- the roads
    refine ⟨_, rfl, _, _, _, _, rfl, rfl, SqT.of hw, rfl, li, rfl, ⟨_, SqT.of hli⟩, fun D1 hD1 => ?_⟩
    refine lc_tup (xs := xs) (fun i H' => Same H H' ∧ ∃ ys, H' D1 = some (.lst ys) ∧ PairsAt H' ys (L.take i)) ⟨same_new hD1, [], upd_same, .nil⟩ (fun i H' _ ⟨s, _⟩ => SqT.of (s _ _ hli)) ?_ ?_
    · rintro i x H' hi ⟨s, ys, hD, hy⟩
      obtain ⟨⟨p, q⟩, hp, t1, rfl, ht1⟩ := paired_get hP hi
      have hil : i < L.length := (List.getElem?_eq_some_iff.mp hp).1
      refine ⟨t1, _, rfl, SqT.of (s _ _ ht1), rfl, _, _, rfl, _, _, rfl, rfl, rfl, ?_⟩
      unfold tYes
      refine iteT ?_
      refine ⟨_, rfl, _, rfl, two_ok, fun T1 hT1 => ?_⟩
      have s2 := same_new (o := .tup [.int (p : Int), .int (q : Int)]) hT1
      refine ⟨ys, s2 _ _ hD, ?_, same_upd (s.trans s2) hD1, ys ++ [.ref T1], upd_same, ?_⟩
      · rw [paired_len hy, List.length_take]; exact small1000 (by omega)
      · have TD : T1 ≠ D1 := (ne_of_none hD hT1).symm
        rw [take_more hp]
        refine paired_app (paired_imp hy fun _ z ⟨b, e, h⟩ => ⟨b, e, ?_⟩) (.cons ⟨T1, rfl, by rw [upd_ne TD, upd_same]⟩ .nil)
        rw [upd_ne (ne_of (s2 _ _ h) (s2 _ _ hD) (fun z => nomatch z))]
        exact s2 _ _ h
    rintro H1 ⟨s1, ys1, hY1, hP1⟩
    rw [xl, List.take_length] at hP1
    refine ⟨_, rfl, _, _, _, _, rfl, rfl, SqT.of (s1 _ _ hw), rfl, li, rfl, ⟨_, SqT.of (s1 _ _ hli)⟩, fun D2 hD2 => ?_⟩
    refine lc_tup (xs := xs) (fun i H' => Same H1 H' ∧ ∃ ys, H' D2 = some (.lst ys) ∧ PairsAt H' ys ((L.take i).map swp)) ⟨same_new hD2, [], upd_same, .nil⟩ (fun i H' _ ⟨s, _⟩ => SqT.of (s _ _ (s1 _ _ hli))) ?_ ?_
    · rintro i x H' hi ⟨s, ys, hD, hy⟩
      obtain ⟨⟨p, q⟩, hp, t1, rfl, ht1⟩ := paired_get hP hi
      have hil : i < L.length := (List.getElem?_eq_some_iff.mp hp).1
      refine ⟨t1, _, rfl, SqT.of (s _ _ (s1 _ _ ht1)), rfl, _, _, rfl, _, _, rfl, rfl, rfl, ?_⟩
      unfold tYes
      refine iteT ?_
      refine ⟨_, rfl, _, rfl, two_ok, fun T1 hT1 => ?_⟩
      have s2 := same_new (o := .tup [.int (q : Int), .int (p : Int)]) hT1
      refine ⟨ys, s2 _ _ hD, ?_, same_upd (s.trans s2) hD2, ys ++ [.ref T1], upd_same, ?_⟩
      · rw [paired_len hy, List.length_map, List.length_take]; exact small1000 (by omega)
      · have TD : T1 ≠ D2 := (ne_of_none hD hT1).symm
        rw [take_more hp, List.map_append]
        refine paired_app (paired_imp hy fun _ z ⟨b, e, h⟩ => ⟨b, e, ?_⟩) (.cons ⟨T1, rfl, by rw [upd_ne TD, upd_same]; rfl⟩ .nil)
        rw [upd_ne (ne_of (s2 _ _ h) (s2 _ _ hD) (fun z => nomatch z))]
        exact s2 _ _ h
    rintro H2 ⟨s2, ys2, hY2, hP2⟩
    rw [xl, List.take_length] at hP2
    have y1l := paired_len hP1
    have y2l := paired_len hP2
    rw [List.length_map] at y2l
    refine ⟨D1, D2, ys1, ys2, rfl, rfl, s2 _ _ hY1, hY2, by have := small1000 (n := ys1.length + ys2.length) (by omega); omega, fun Rl hRl => ?_⟩
    have s3 := same_new (o := .lst (ys1 ++ ys2)) hRl
    have s03 : Same H (upd H2 Rl (.lst (ys1 ++ ys2))) := (s1.trans s2).trans s3
    have hRl0 : H Rl = none := (s1.trans s2).free hRl
    have PR : PairsAt (upd H2 Rl (.lst (ys1 ++ ys2))) (ys1 ++ ys2) (roadsOf L) := paired_app (pairs_same (s2.trans s3) hP1) (pairs_same s3 hP2)
    obtain ⟨ys, eys⟩ : ∃ ys, ys = ys1 ++ ys2 := ⟨_, rfl⟩
    rw [← eys] at PR s3 s03 ⊢
    obtain ⟨Hr, eHr⟩ : ∃ Hr, Hr = upd H2 Rl (.lst ys) := ⟨_, rfl⟩
    have hRr : Hr Rl = some (.lst ys) := by rw [eHr, upd_same]
    rw [← eHr] at PR s3 s03 ⊢
    have Sr := S.same s03
    have Rr := R.same s03
    have nR : ¬ Own r Rl := R.not_own hRl0
    have Ra : Rl ≠ a := (S.fresh hRl0).1
    have yl : ys.length = 2 * L.length := by rw [eys, List.length_append]; omega
    have A0 : ∀ {j : Nat} {r' : RA} {H' : Hp}, Act a c t j r r' Hr H' → Act a c t j r r' H H' := fun A => ⟨A.p, fun b o h ne nb => A.keep b o (s03 _ _ h) ne nb, fun b z => (A.own b z).imp id fun h => s03.free h, A.st⟩
    have p4880 : phiN nl.length nb nl m ≤ 4880 := sy.phi_le
    -- the while
    refine ⟨LedW C a c t r Hr nl.length nb nl wb Rl (phiN nl.length nb nl m), ⟨_, ⟨_, _, _, _, _, _, _, _, rfl⟩, r, m, 0, Rr, sy, bg, rfl, by omega, Act.refl Sr⟩, ?_⟩
    rintro kk σ H4 ⟨⟨x5, x6, x7, x8, x9, x10, x11, x12, rfl⟩, r4, m4, j, R4, sy4, bg4, ph4, hj, A4⟩
    have told4 : m4.told ≤ 4880 := by have := sy4.pot; omega
    obtain ⟨dx4, ob4⟩ := R4.ob
    rw [A4.p] at ob4
    refine ⟨_, rfl, _, _, _, rfl, ob4, f_no _ _ (by decide +kernel), r4, _, nb, nl, m4, by rw [A4.p]; rfl, R4, by omega, fun b H5 s5 bT bF => ⟨_, rfl, ?_⟩⟩
    have A5 := A4.same Sr na_ nc_ s5
    have R5 := R4.same s5
    cases b with
    | true => exact k H5 r4 m4 R5 sy4 bg4 (bT rfl) ((A0 A5).more (by omega))
    | false =>
      obtain ⟨ha, hb, hne⟩ := bF rfl
      refine ⟨fun σ' H'' => ∃ m', m' < kk ∧ LedW C a c t r Hr nl.length nb nl wb Rl (phiN nl.length nb nl m) m' σ' H'', fun σ' H'' h => h, ?_⟩
      have kk0 : phiN nl.length nb nl m ≤ 4880 := p4880
      have rdm : ∀ x y, m4.rd x y ≠ [] → (x, y) ∈ roadsOf L ∧ x < nl.length := fun x y h => by
        obtain ⟨g, O⟩ := sy4.ok
        obtain ⟨h1, h2⟩ := O.road x y h
        exact ⟨mem_roads.mpr ((hnb x h1).mem_iff.mp h2), h1⟩
      have N0 : 0 < ys.length := by
        have := List.length_pos_of_mem (rdm ha hb hne).1
        rw [paired_len PR]; exact this
      have N78 : ys.length ≤ 78 := by omega
      have keepR : ∀ {j' : Nat} {r' : RA} {H' : Hp}, Act a c t j' r r' Hr H' → H' Rl = some (.lst ys) ∧ PairsAt H' ys (roadsOf L) := fun A => ⟨A.keep _ _ hRr Ra nR, pairs_tups (A.tups Sr Rr) PR⟩
      obtain ⟨t5, l5, S5⟩ := A5.st
      refine ⟨_, rfl, _, rfl, _, _, rfl, .inl (SqL.of (keepR A5).1), a, c, t5, ys.length, rfl, S5, by omega, N0, by omega, fun first H6 hf D6 => ?_⟩
      have A6 := A5.drT l5 D6
      have R6 := R5.keepx S5 (A5.not_own (s03 _ _ hoa) na_) D6.1
      obtain ⟨t6, l6, S6⟩ := A6.st
      refine ⟨_, rfl, a, c, t6, 3, rfl, S6, by omega, by decide, by decide, fun f0 H7 hf0 D7 => ⟨_, _, rfl, rfl, ?_⟩⟩
      have A7 := A6.drT l6 D7
      have R7 := R6.keepx S6 (A6.not_own (s03 _ _ hoa) na_) D7.1
      dsimp only
      rw [show (1 : Int) + (f0 : Int) = ((f0 + 1 : Nat) : Int) by omega]
      obtain ⟨sg, hsg, asg⟩ : ∃ sg : Int, (sg = 1 ∨ sg = -1) ∧ atI [V.int 1, V.int (-1)] (((f0 + 1 : Nat) : Int) % 2) = some (.int sg) := by
        match f0, hf0 with
        | 0, _ => exact ⟨-1, .inr rfl, rfl⟩
        | 1, _ => exact ⟨1, .inl rfl, rfl⟩
        | 2, _ => exact ⟨-1, .inr rfl, rfl⟩
      refine ⟨_, rfl, _, _, rfl, .inl (SqL.of (keepR A7).1), _, rfl, by omega, by omega, ?_⟩
      rw [Int.toNat_natCast]
      refine for_range_fin
        (fun σ H' => (∃ x5 x6 x7 x8 x9 x10 x11 x12 : Option V, σ = [some (.ref a), some (.ref r.p), some (.ref wb), some (.int (nl.length : Int)), some (.ref Rl), x5, x6, x7, x8, x9, x10, x11, x12]) ∧
          ∃ r' m' j', RunAt C H' r' nl.length nb nl m' ∧ SysN nl.length nb nl m' ∧ m'.beg ≠ [] ∧ phiN nl.length nb nl m' < kk ∧ j' ≤ j + 2 + 4 * 78 ∧ Act a c t j' r r' Hr H')
        (fun i σ H' => ∃ (cb : Nat) (x8 x9 x10 x11 x12 : Option V), σ = [some (.ref a), some (.ref r.p), some (.ref wb), some (.int (nl.length : Int)), some (.ref Rl), some (.int (first : Int)), some (.int ((f0 + 1 : Nat) : Int)), some (.int (cb : Int)), x8, x9, x10, x11, x12] ∧
          ∃ r' m' j', RunAt C H' r' nl.length nb nl m' ∧ SysN nl.length nb nl m' ∧ m'.beg ≠ [] ∧ j' ≤ j + 2 + 4 * i ∧ Act a c t j' r r' Hr H' ∧
            (cb = 0 → m' = m4 ∧ ∀ i' p, i' < i → (roadsOf L)[(((first : Int) + (i' : Int) * sg) % (ys.length : Int)).toNat]? = some p → m4.rd p.1 p.2 = []) ∧ (0 < cb → phiN nl.length nb nl m' < kk))
        ⟨0, _, _, _, _, _, rfl, r4, m4, _, R7, sy4, bg4, by omega, A7, fun _ => ⟨rfl, fun i' p h => by omega⟩, fun h => by omega⟩ ?_ (fun fin => ?_) ?_
      · -- behind the pass
        rintro σ H8 ⟨⟨x5, x6, x7, x8, x9, x10, x11, x12, rfl⟩, r8, m8, j8, R8, sy8, bg8, ph8, hj8, A8⟩
        obtain ⟨t8, l8, S8⟩ := A8.st
        refine ⟨_, rfl, a, c, t8, 6, rfl, S8, by omega, by decide, by decide, fun z H9 hz D9 => ⟨rfl, _, rfl, ?_⟩⟩
        have A9 := A8.drT l8 D9
        have R9 := R8.keepx S8 (A8.not_own (s03 _ _ hoa) na_) D9.1
        refine ite2 (fun _ => ?_) (fun _ => ?_)
        · obtain ⟨t9, l9, S9⟩ := A9.st
          refine ⟨_, rfl, _, rfl, _, rfl, a, c, t9, nl.length, rfl, S9, by omega, by omega, by omega, fun h9 H10 hh9 D10 => ?_⟩
          have A10 := A9.drT l9 D10
          have R10 := R9.keepx S9 (A9.not_own (s03 _ _ hoa) na_) D10.1
          refine ⟨r8, _, nb, nl, m8, h9, by rw [A8.p]; rfl, R10, hh9, n16, W, sy8, fun H11 r11 m11 b11 R11 sy11 P11 ph11 bg11 => ?_⟩
          have q1 : phiN nl.length nb nl m11 < kk := Nat.lt_of_le_of_lt ph11 ph8
          exact ⟨phiN nl.length nb nl m11, q1, ⟨_, _, _, _, _, _, _, _, rfl⟩, r11, m11, _, R11, sy11, bg11 bg8, rfl, by omega, A10.stp Sr na_ nc_ P11⟩
        · exact ⟨phiN nl.length nb nl m8, ph8, ⟨_, _, _, _, _, _, _, _, rfl⟩, r8, m8, _, R9, sy8, bg8, rfl, by omega, A9⟩
      · -- one road
        rintro i σ H8 hi ⟨cb, x8, x9, x10, x11, x12, rfl, r8, m8, j8, R8, sy8, bg8, hj8, A8, c0, c1⟩
        rw [Int.zero_add]
        obtain ⟨hR8, hP8⟩ := keepR A8
        refine ⟨_, rfl, _, rfl, _, rfl, _, rfl, two_ok, fun b8 hb8 => ?_⟩
        have s8 := same_new (o := .lst [V.int 1, V.int (-1)]) hb8
        have A8' := A8.same Sr na_ nc_ s8
        obtain ⟨hR8', hP8'⟩ := keepR A8'
        have Np : (0 : Int) < (ys.length : Int) := by omega
        have e0 := Int.emod_nonneg ((first : Int) + (i : Int) * sg) (show (ys.length : Int) ≠ 0 by omega)
        have e1 := Int.emod_lt_of_pos ((first : Int) + (i : Int) * sg) Np
        obtain ⟨ix, eix⟩ : ∃ ix : Nat, ix = (((first : Int) + (i : Int) * sg) % (ys.length : Int)).toNat := ⟨_, rfl⟩
        have eixi : ((first : Int) + (i : Int) * sg) % (ys.length : Int) = (ix : Int) := by rw [eix, Int.toNat_of_nonneg e0]
        have ixl : ix < ys.length := by omega
        obtain ⟨y, hy⟩ : ∃ y, ys[ix]? = some y := ⟨_, List.getElem?_eq_getElem ixl⟩
        obtain ⟨⟨h, o⟩, hp, tt, rfl, htt⟩ := paired_get hP8' hy
        have hmem := List.mem_of_getElem? hp
        have onb : o ∈ nbs L h := mem_roads.mp hmem
        have hlt : h < nl.length ∧ o < nl.length := by
          rcases mem_nbs.mp onb with q | q
          · have := WG.w.lt _ q; simp only at this; omega
          · have := WG.w.lt _ q; simp only at this; omega
        have onb' : o ∈ nb h := (hnb h hlt.1).mem_iff.mpr onb
        refine ⟨_, rfl, _, _, rfl, rfl, by show (0 : Int) < 2; decide, _, _, _, _, rfl, rfl, SqL.of upd_same, asg, _, _, rfl, rfl, .inr ⟨by omega, by omega⟩, _, _, rfl, rfl, _, rfl, _, _, rfl, .inl (SqL.of hR8'), _, _, rfl, rfl, Np, ?_⟩
        refine ⟨_, _, _, .ref tt, rfl, rfl, SqL.of hR8', by rw [eixi]; exact at_nat hy, ?_⟩
        refine ⟨tt, _, rfl, SqT.of htt, rfl, _, _, rfl, _, _, rfl, rfl, ?_⟩
        refine ⟨_, rfl, _, rfl, by omega, by omega, ?_⟩
        rw [Int.toNat_natCast]
        refine for_range (fun q σ H' => ∃ (cb : Nat) (x8 x11 x12 : Option V), σ = [some (.ref a), some (.ref r.p), some (.ref wb), some (.int (nl.length : Int)), some (.ref Rl), some (.int (first : Int)), some (.int ((f0 + 1 : Nat) : Int)), some (.int (cb : Int)), x8, some (.int (h : Int)), some (.int (o : Int)), x11, x12] ∧
          ∃ r' m' j', RunAt C H' r' nl.length nb nl m' ∧ SysN nl.length nb nl m' ∧ m'.beg ≠ [] ∧ j' ≤ j + 2 + 4 * i + q ∧ Act a c t j' r r' Hr H' ∧
            (cb = 0 → m' = m4 ∧ (∀ i' p, i' < i → (roadsOf L)[(((first : Int) + (i' : Int) * sg) % (ys.length : Int)).toNat]? = some p → m4.rd p.1 p.2 = []) ∧ (0 < q → m4.rd h o = [])) ∧ (0 < cb → phiN nl.length nb nl m' < kk))
          ⟨cb, _, _, _, rfl, r8, m8, j8, R8.same s8, sy8, bg8, by omega, A8', fun h0 => ⟨(c0 h0).1, (c0 h0).2, fun z => by omega⟩, c1⟩ ?_ ?_
        · rintro q σ H9 hq ⟨cb, x8, x11, x12, rfl, r9, m9, j9, R9, sy9, bg9, hj9, A9, c0, c1⟩
          have told9 : m9.told ≤ 4880 := by have := sy9.pot; omega
          obtain ⟨dx9, ob9⟩ := R9.ob
          rw [A9.p] at ob9
          refine ⟨_, rfl, _, _, _, rfl, ob9, f_no _ _ (by decide +kernel), _, rfl, _, rfl, r9, _, nb, nl, m9, h, o, by rw [A9.p]; rfl, R9, hlt.1, hlt.2, onb', fun a2 xs2 H10 s10 hx2 hl2 => ?_⟩
          have A10 := A9.same Sr na_ nc_ s10
          have R10 := R9.same s10
          refine ⟨_, _, rfl, .inr (SqT.of hx2), _, _, rfl, rfl, _, rfl, ?_⟩
          rw [hl2]
          by_cases em : m9.rd h o = []
          · rw [em, decide_eq_false (by simp)]
            refine iteF (iteF ?_)
            refine ⟨cb, _, _, _, rfl, r9, m9, j9, R10, sy9, bg9, by omega, A10, fun h0 => ⟨(c0 h0).1, (c0 h0).2.1, fun _ => by rw [← (c0 h0).1]; exact em⟩, c1⟩
          · have lp : 0 < (m9.rd h o).length := List.length_pos_iff.mpr em
            rw [decide_eq_true (by omega)]
            refine iteT ?_
            refine ⟨_, rfl, rfl, _, rfl, ?_⟩
            refine ite2 (fun z0 => ?_) (fun z0 => ?_)
            rotate_left
            have cbp : 0 < cb := by
              by_cases z : cb = 0
              · exact absurd (by subst z; rfl) z0
              · omega
            obtain ⟨t10, l10, S10⟩ := A10.st
            refine ⟨_, rfl, a, c, t10, 3, rfl, S10, by omega, by decide, by decide, fun z H11 hz D11 => ⟨_, _, rfl, rfl, _, rfl, ?_⟩⟩
            have A11 := A10.drT l10 D11
            have R11 := R10.keepx S10 (A10.not_own (s03 _ _ hoa) na_) D11.1
            refine ite2 (fun _ => ?_) (fun _ => ⟨cb, _, _, _, rfl, r9, m9, _, R11, sy9, bg9, by omega, A11, fun h0 => by omega, c1⟩)
            rotate_left
            have A11 : Act a c t (j9 + 1) r r9 Hr H10 := A10.more (by omega)
            have R11 := R10
            all_goals
              obtain ⟨dx11, ob11⟩ := R11.ob
              rw [A11.p] at ob11
              refine ⟨_, rfl, _, _, _, rfl, ob11, f_no _ _ (by decide +kernel), _, rfl, _, rfl, r9, _, nb, nl, m9, h, o, by rw [A11.p]; rfl, R11, hlt.1, hlt.2, onb', small_of W n16, by omega, em, fun H12 r12 R12 P12 => ?_⟩
              obtain ⟨sy12, ph12⟩ := Rm.sys_come W sy9 em
              refine ⟨_, rfl, _, _, rfl, rfl, cb + 1, _, _, _, rfl, r12, _, _, R12, sy12, by rw [Rm.come_beg]; exact bg9, by omega, A11.stp Sr na_ nc_ P12, fun h0 => by omega, fun _ => ?_⟩
              by_cases z : cb = 0
              · have := (c0 z).1
                subst this
                show Rm.phi _ _ _ _ < kk
                unfold phiN at ph4
                omega
              · have := c1 (by omega)
                show Rm.phi _ _ _ _ < kk
                unfold phiN at this
                omega
        · rintro σ H9 ⟨cb, x8, x11, x12, rfl, r9, m9, j9, R9, sy9, bg9, hj9, A9, c0, c1⟩
          have c0' : cb = 0 → m9 = m4 ∧ ∀ i' p, i' < i + 1 → (roadsOf L)[(((first : Int) + (i' : Int) * sg) % (ys.length : Int)).toNat]? = some p → m4.rd p.1 p.2 = [] := fun h0 => by
            obtain ⟨q1, q2, q3⟩ := c0 h0
            refine ⟨q1, fun i' p hi' hp' => ?_⟩
            by_cases z : i' = i
            · subst z
              rw [← eix, hp] at hp'
              cases hp'
              exact q3 (by omega)
            · exact q2 i' p (by omega) hp'
          refine ⟨_, rfl, _, _, rfl, rfl, _, rfl, ?_⟩
          by_cases z : cb = 0
          · rw [decide_eq_false (by omega)]
            refine iteF (iteF ?_)
            exact ⟨cb, _, _, _, _, _, rfl, r9, m9, j9, R9, sy9, bg9, by omega, A9, c0', c1⟩
          · rw [decide_eq_true (by omega)]
            refine iteT ?_
            obtain ⟨t9, l9, S9⟩ := A9.st
            refine ⟨_, rfl, a, c, t9, 4, rfl, S9, by omega, by decide, by decide, fun y9 H10 hy9 D10 => ⟨rfl, _, rfl, ?_⟩⟩
            have A10 := A9.drT l9 D10
            have R10 := R9.keepx S9 (A9.not_own (s03 _ _ hoa) na_) D10.1
            refine ite2 (fun _ => ?_) (fun _ => ?_)
            · exact fin _ _ ⟨⟨_, _, _, _, _, _, _, _, rfl⟩, r9, m9, _, R10, sy9, bg9, c1 (by omega), by omega, A10⟩
            · exact ⟨cb, _, _, _, _, _, rfl, r9, m9, _, R10, sy9, bg9, by omega, A10, c0', c1⟩
      · rintro σ H8 ⟨cb, x8, x9, x10, x11, x12, rfl, r8, m8, j8, R8, sy8, bg8, hj8, A8, c0, c1⟩
        refine ⟨⟨_, _, _, _, _, _, _, _, rfl⟩, r8, m8, j8, R8, sy8, bg8, c1 ?_, by omega, A8⟩
        by_cases z : cb = 0
        · exfalso
          obtain ⟨_, q2⟩ := c0 z
          obtain ⟨m1, m2⟩ := rdm ha hb hne
          obtain ⟨x, hx⟩ := List.getElem?_of_mem m1
          have xlt : x < ys.length := by rw [paired_len PR]; exact (List.getElem?_eq_some_iff.mp hx).1
          obtain ⟨i', hi', ei'⟩ := idx_all first hsg xlt
          exact hne (q2 i' (ha, hb) hi' (by rw [ei', Int.toNat_natCast]; exact hx))
        · omega
end
end Rc
set_option Elab.async false
set_option linter.all false
set_option maxRecDepth 100000
set_option maxHeartbeats 8000000
namespace Rc
open PySem PySem.Spec PyProof.Rows L2 RcN RZ
open C8 (pe_c pe_mk pe_mt pe_mt0)
section
variable {K : PySem.W.Frag} {H : Hp} {a b : Addr} {xs ys : List V} {Q : VK}
theorem slA_t {lo hi : Option Int} (hx : H a = some (.tup xs)) (k : ∀ p H', Same H H' → H' p = some (.tup (cutV xs lo hi)) → Q (.ref p) H') : rSlA K (.ref a) lo hi H Q := by
  refine ⟨a, xs, rfl, SqT.of hx, fun w => ?_, fun _ p hp => k p _ (same_new hp) upd_same⟩
  refine k a H (Same.refl _) ?_
  rw [hx]
  unfold cutV
  rw [w.1, w.2, List.drop_zero, Nat.sub_zero, List.take_length]
theorem catA_t (hx : H a = some (.tup xs)) (hy : H b = some (.tup ys)) (hl : xs.length + ys.length ≤ 1000) (k : ∀ p H', Same H H' → H' p = some (.tup (xs ++ ys)) → Q (.ref p) H') : rCatA K (.ref a) (.ref b) H Q := by
  refine ⟨a, b, xs, ys, rfl, rfl, SqT.of hx, SqT.of hy, Nat.le_of_lt (small1000 hl), fun e => ?_, fun _ e => ?_, fun _ _ p hp => k p _ (same_new hp) upd_same⟩
  · subst e; exact k b H (Same.refl _) hy
  · subst e; refine k a H (Same.refl _) ?_; rw [List.append_nil]; exact hx
end
theorem cut_lo {xs : List V} {n : Nat} : cutV xs none (some (n : Int)) = xs.take n := by
  unfold cutV
  rw [HT.sIx_none, HT.sIx_nat, List.drop_zero, Nat.sub_zero, List.take_eq_take_iff]
  omega
theorem cut_hi {xs : List V} {n : Nat} : cutV xs (some (n : Int)) none = xs.drop n := by
  unfold cutV
  rw [HT.sIx_none, HT.sIx_nat]
  by_cases h : n ≤ xs.length
  · rw [Nat.min_eq_left h, List.take_of_length_le (by rw [List.length_drop]; omega)]
  · rw [Nat.min_eq_right (by omega), List.drop_of_length_le (Nat.le_refl _), List.drop_of_length_le (by omega)]; simp
theorem th_put {n : Nat} {u : Nat → Option Nat} {at_ : Nat} {x : Option Nat} (h : at_ < n) : cutV ((List.range n).map fun k => oN (u k)) none (some (at_ : Int)) ++ [oN x] ++ cutV ((List.range n).map fun k => oN (u k)) (some ((at_ : Int) + 1)) none = (List.range n).map fun k => oN (fput u at_ x k) := by
  rw [show ((at_ : Int) + 1) = ((at_ + 1 : Nat) : Int) by omega, cut_lo, cut_hi]
  have e := rg_set (f := u) (F := oN) (x := x) h
  have e2 : (Rm.fset u at_ x) = fput u at_ x := rfl
  rw [e2] at e
  rw [← e, List.set_eq_take_append_cons_drop, if_pos (by rw [th_len]; exact h), List.append_assoc]
  rfl
def osOf (n : Nat) (u : Nat → Option Nat) : List (Option Int) := (List.range n).map fun k => oI (u k)
theorem os_map (n : Nat) (u : Nat → Option Nat) : (osOf n u).map oV = (List.range n).map fun k => oN (u k) := by
  unfold osOf
  rw [List.map_map]
  exact List.map_congr_left fun x _ => (oN_oV _).symm
theorem dp_thing {K : PySem.W.Frag} {H : Hp} {a : Addr} {n : Nat} {u : Nat → Option Nat} (h : Thing H a n u) : Dp K H (.ref a) (.tuple ((osOf n u).map oD)) := .tup (SqT.of (by rw [os_map]; exact h)) (dpAll_o _)
theorem oI_inj {a b : Option Nat} (h : oI a = oI b) : a = b := by
  cases a <;> cases b <;> simp [oI] at h ⊢
  omega
theorem os_eq {n : Nat} {u : Nat → Option Nat} {at_ : Nat} {x : Option Nat} (h : at_ < n) : (osOf n (fput u at_ x) = osOf n u) ↔ fput u at_ x at_ = u at_ := by
  constructor
  · intro e
    have e2 := congrArg (fun l => l[at_]?) e
    simp only [osOf, List.getElem?_map, List.getElem?_range h, Option.map_some] at e2
    exact oI_inj (Option.some.inj e2)
  · intro e
    unfold osOf
    refine List.map_congr_left fun k hk => ?_
    by_cases c : k = at_
    · rw [c, e]
    · unfold fput; rw [if_neg c]
def spRight (C : Addr) : Sp := fun vs H Q _ => ∃ (a c wb na li : Addr) (t : Nat) (r : RA) (nb : Nat → List Nat) (nl : List Int) (L : List (Nat × Nat)) (m : Rm.M), vs = [.ref a, .ref wb, .ref r.p] ∧ StAt H a c t ∧ t < 2 ^ 50 ∧ ¬ Own r a ∧ WebAt H wb na li nl L ∧ WebGood nl L ∧
  (∀ h, h < nl.length → (nb h).Perm (nbs L h)) ∧ RunAt C H r nl.length nb nl m ∧ SysN nl.length nb nl m ∧ m.beg ≠ [] ∧ (∀ x y, m.rd x y = []) ∧ ∀ H', Dr a c t 1 H H' → Q (.bl true) H'
section
variable {P : Program} {w : World} {K : PySem.W.Frag} {mg : Str → Option Value} {base : Heap} {C CB CL f : Addr} {fd : FuncData}
theorem ok_l_right (F : DefAt K "_law_right" "_law_right" s_l_right f fd) (T : Txt K mg C CB CL) (c_l_next : C8.Cal P w K mg base 2 "_law_next" spNext []) (c_tree : C8.Cal P w K mg base 1 "tree" (spTree C) []) (c_knows : C8.Met P w K mg base 3 C "knows" (spKnows C) [])
    (c_l_same : C8.Cal P w K mg base 2 "_law_same" spSame []) (c_l_shows : C8.Cal P w K mg base 2 "_law_shows" (spShowsL K) []) (c_shows_tree : C8.Cal P w K mg base 2 "shows_tree" (spShowsT K) []) : FnOk P w K mg base CX0 4 f fd ["_law_state", "_law_web_here", "_law_run"] (spRight C) := by
  refine okN F sc_l_right (fun vs H Q E h => ?_) (fun cdv A outer s H vs Q E hr h => ?_)
  · obtain ⟨a, c, wb, na, li, t, r, nb, nl, L, m, rfl, _⟩ := h
    rfl
  · obtain ⟨a, c, wb, na, li, t, r, nb, nl, L, m, rfl, S, ht, na_, WB, WG, hnb, R, sy, bg, still, k⟩ := h
    have W : WebN nl.length nb nl := web_of WG.w rfl WG.nd hnb
    have n16 := WG.n16
    have n1 := WG.n1
    have WB0 := WB
    obtain ⟨xs, on, hw, hpl, hna, hli, hP⟩ := WB0
    have hu := hu_of hr
    -- the plain facts
    obtain ⟨g, O⟩ := sy.ok
    obtain ⟨r0, hr0, ch, root, d, up⟩ := Rm.still_tree W O bg still
    obtain ⟨d', tr⟩ := tree_of (L := L) hr0 root fun k hk hkr => by
      obtain ⟨p, e1, e2, e3, e4⟩ := up k hk hkr
      exact ⟨p, e1, e2, (hnb k hk).mem_iff.mp e3, e4⟩
    have hv : nl[r0]? = some (nmOf nl r0) := by
      show nl[r0]? = some (nl.getD r0 0)
      rw [List.getD_eq_getElem?_getD, List.getElem?_eq_getElem hr0]; rfl
    have hc0 : m.chief 0 = some (nmOf nl r0) := ch 0 (by omega)
    obtain ⟨v, ev⟩ : ∃ v, v = nmOf nl r0 := ⟨_, rfl⟩
    rw [← ev] at hv hc0
    obtain ⟨dx, ob⟩ := R.ob
    refine ⟨_, (pss_cons (ps_set (i := 3) sc_l_right.nd rfl (Or.inl rfl) (pe_callB call_len_seq (by rfl) T.b_len (by decide +kernel) (pa_cons (pe_ix ix_tup (pv 1) pe_int (fun _ _ => rfl)) pa_nil)))
    (pss_cons (ps_set (i := 4) sc_l_right.nd rfl (Or.inl rfl) (pe_c c_tree hr (by decide) (by rfl) (pa_cons (pv 2) pa_nil)))
    (pss_cons (ps_set (i := 5) sc_l_right.nd rfl (Or.inl rfl) (pe_mt c_knows hr (by decide) (pv 2) (pa_cons pe_int pa_nil)))
    (pss_cons (ps_if (PW.pt (pw_or (pt_not (pt_val (pe_c c_l_same hr (by decide) (by rfl) (pa_cons (pv 4) (pa_cons (pe_callTy call_tuple_of (by rfl) T.b_tuple (by decide +kernel) (pa_cons (pe_lc (own := [("_law_up", 10)]) (g := gName 10) (tt := tYes) rfl sc_l_right.nd (pi_tup (pv 4)) (blkOk_by (own := [("_law_up", 10)]) (N := ["_law_state", "_law_web_here", "_law_run", "_law_many", "_law_found", "_law_name_here", "_law_other", "_law_at", "_law_lost", "_law_own", "_law_up"]) (sc := defScope s_l_right) (by decide +kernel)) (fun _ _ _ _ _ => (pg_name (i := 10) sc_l_right.nd rfl (Or.inl rfl))) (fun _ _ _ _ _ => pts_nil) (fun _ _ _ _ _ => (pv 10))) pa_nil)) pa_nil))))) (pw_or1 (pt_not (pt_val (pe_c c_l_shows hr (by decide) (by rfl) (pa_cons (pv 1) (pa_cons (pv 5) (pa_cons (pv 4) pa_nil))))))))) (pss_one (ps_ret pe_bl)) pss_nil)
    (pss_cons (ps_if (PW.pt (pw_or (pt_cmpR op_notBl (pe_c c_shows_tree hr (by decide) (by rfl) (pa_cons (pv 1) (pa_cons (pv 5) (pa_cons (pv 4) pa_nil)))) pe_bl (nomark _)) (pw_or1 (pt_cmpR (op_neD hr.units) (pe_c c_tree hr (by decide) (by rfl) (pa_cons (pv 2) pa_nil)) (pv 4) (nomark _))))) (pss_one (ps_ret pe_bl)) pss_nil)
    (pss_cons (ps_for PassesOwn.never rfl (pi_tup (pe_ix ix_tup (pv 1) pe_int (fun _ _ => rfl))) (pg_name (i := 6) sc_l_right.nd rfl (Or.inl rfl)) (pss_one (ps_if (pt_cmpR op_ne (pe_cmpR op_eq (pv 6) (pv 5) (nomark _)) (pe_c c_shows_tree hr (by decide) (by rfl) (pa_cons (pv 1) (pa_cons (pv 6) (pa_cons (pv 4) pa_nil)))) (nomark _)) (pss_one (ps_ret pe_bl)) pss_nil)))
    (pss_cons (ps_set (i := 7) sc_l_right.nd rfl (Or.inl rfl) (pe_c c_l_next hr (by decide) (by rfl) (pa_cons (pv 0) (pa_cons (pv 3) pa_nil))))
    (pss_cons (ps_set (i := 8) sc_l_right.nd rfl (Or.inl rfl) (pe_op op_catA (pe_op op_catA (pe_slice sl_tupA (pv 4) po_none (po_some (pv 7))) (pe_tup (pa_cons pe_non pa_nil))) (pe_slice sl_tupA (pv 4) (po_some (pe_op op_add (pv 7) pe_int)) po_none)))
    (pss_cons (ps_set (i := 9) sc_l_right.nd rfl (Or.inl rfl) (pe_op op_catA (pe_op op_catA (pe_slice sl_tupA (pv 4) po_none (po_some (pv 7))) (pe_tup (pa_cons (pv 7) pa_nil))) (pe_slice sl_tupA (pv 4) (po_some (pe_op op_add (pv 7) pe_int)) po_none)))
    (pss_cons (ps_if (pt_cmpR op_notBl (pe_c c_shows_tree hr (by decide) (by rfl) (pa_cons (pv 1) (pa_cons (pv 5) (pa_cons (pv 9) pa_nil)))) pe_bl (nomark _)) (pss_one (ps_ret pe_bl)) pss_nil)
    (pss_one (ps_ret (pe_cmpR op_eq (pe_cmpR (op_eqD hr.units) (pv 8) (pv 4) (nomark _)) (pe_c c_shows_tree hr (by decide) (by rfl) (pa_cons (pv 1) (pa_cons (pv 5) (pa_cons (pv 8) pa_nil)))) (nomark _)))))))))))))), ?_⟩
    refine ⟨_, rfl, _, _, _, _, rfl, rfl, SqT.of hw, rfl, _, _, rfl, .inr (.inl (.inr ⟨on, hna⟩)), ?_⟩
    rw [List.length_map]
    refine ⟨_, rfl, r, _, nb, nl, m, rfl, R, fun fa hfa => ?_⟩
    have s1 := same_new (o := .tup (cont nl.length r m 2)) hfa
    obtain ⟨H1, e1⟩ : ∃ H1, H1 = upd H fa (.tup (cont nl.length r m 2)) := ⟨_, rfl⟩
    have th1 : Thing H1 fa nl.length m.par := by rw [e1]; exact upd_same
    rw [← e1] at s1 ⊢
    have R1 := R.same s1
    have thS : ∀ {H'}, Same H1 H' → Thing H' fa nl.length m.par := fun s => s _ _ th1
    have wbS : ∀ {H'}, Same H1 H' → WebAt H' wb na li nl L := fun s => WB.same (fun b o _ e => (s1.trans s) b o e)
    refine ⟨_, rfl, _, _, _, rfl, s1 _ _ ob, f_no _ _ (by decide +kernel), r, _, nb, nl, m, 0, rfl, R1, by omega, ?_⟩
    rw [hc0]
    -- same
    refine ⟨_, rfl, _, rfl, fa, rfl, ⟨_, SqT.of th1⟩, fun D hD => ?_⟩
    refine lc_tup (xs := (List.range nl.length).map fun k => oN (m.par k)) (fun i H' => Same H1 H' ∧ H' D = some (.lst (((List.range nl.length).map fun k => oN (m.par k)).take i))) ⟨same_new hD, upd_same⟩
      (fun i H' _ ⟨s, _⟩ => SqT.of (thS s)) ?_ ?_
    · rintro i x H' hi ⟨s, hD'⟩
      have hil := (List.getElem?_eq_some_iff.mp hi).1
      rw [th_len] at hil
      refine ⟨rfl, ?_⟩
      unfold tYes
      refine iteT ?_
      refine ⟨_, rfl, _, hD', by rw [List.length_take, th_len]; exact small1000 (by omega), same_upd s hD, ?_⟩
      rw [upd_same, take_more hi]
    rintro H2 ⟨s2, hD2⟩
    rw [List.take_length] at hD2
    refine ⟨D, _, rfl, .inl ⟨SqL.of hD2, fun tb htb => ?_⟩⟩
    have s3 := same_upd (o := .tup ((List.range nl.length).map fun k => oN (m.par k))) s2 (s2.free htb)
    refine ⟨fa, tb, osOf nl.length m.par, rfl, by rw [os_map]; exact thS s3, by rw [os_map]; exact upd_same, by unfold osOf; rw [List.length_map, List.length_range]; omega, fun H3 s4 => ⟨_, rfl, ?_⟩⟩
    have s5 := s3.trans s4
    refine iteF ?_
    refine ⟨_, rfl, _, rfl, _, rfl, wb, na, li, fa, nl, L, v, r0, m.par, d', rfl, wbS s5, WG, hv, thS s5, tr, fun H4 s6 => ⟨_, rfl, ?_⟩⟩
    have s7 := s5.trans s6
    refine iteF ?_
    -- shows_tree, tree
    refine ⟨_, rfl, _, rfl, _, rfl, wb, na, li, fa, nl, L, v, r0, m.par, rfl, wbS s7, WG, hv, thS s7, fun H5 s8 => ⟨_, _, rfl, rfl, _, rfl, ?_⟩⟩
    have s9 := s7.trans s8
    rw [shows_good tr]
    refine iteF ?_
    refine ⟨_, rfl, r, _, nb, nl, m, rfl, R1.same s9, fun fa2 hfa2 => ?_⟩
    have s10 := same_upd (o := .tup (cont nl.length r m 2)) s9 (s9.free hfa2)
    refine ⟨_, rfl, _, _, dp_thing (n := nl.length) (u := m.par) upd_same, dp_thing (thS s10), o_shaped _, o_shaped _, _, rfl, ?_⟩
    rw [eqv_tup, decide_eq_true rfl]
    refine iteF ?_
    -- the others
    refine ⟨_, rfl, _, _, _, _, rfl, rfl, SqT.of ((wbS s10).choose_spec.choose_spec.1), rfl, na, rfl, ⟨_, .inl (.inr ⟨on, s10 _ _ (s1 _ _ hna)⟩)⟩, ?_⟩
    refine for_tup (xs := nl.map V.int) (fun i σ H' => (∃ x6 : Option V, σ = [some (.ref a), some (.ref wb), some (.ref r.p), some (.int (nl.length : Int)), some (.ref fa), some (.int v), x6, none, none, none, none]) ∧ Same H1 H') ⟨⟨_, rfl⟩, s10⟩
      (fun i σ H' _ ⟨_, s⟩ => .inl (.inr ⟨on, s _ _ (s1 _ _ hna)⟩)) ?_ ?_
    · rintro i x σ H' hi ⟨⟨x6, rfl⟩, s⟩
      rw [List.getElem?_map] at hi
      obtain ⟨z, hz, rfl⟩ := Option.map_eq_some_iff.mp hi
      have il : i < nl.length := (List.getElem?_eq_some_iff.mp hz).1
      refine ⟨_, rfl, _, rfl, rfl, ?_⟩
      refine ⟨_, rfl, _, rfl, _, rfl, wb, na, li, fa, nl, L, z, i, m.par, rfl, wbS s, WG, hz, thS s, fun H'' s' => ⟨rfl, _, rfl, ?_⟩⟩
      have ez : decide (V.int z = V.int v) = decide (i = r0) := by
        by_cases c : i = r0
        · subst c
          rw [hz] at hv
          rw [Option.some.inj hv, decide_eq_true rfl, decide_eq_true rfl]
        · rw [decide_eq_false c, decide_eq_false]
          intro q
          injection q with q
          subst q
          exact idx_first WG.nd hv
            |> fun first => by
              rcases Nat.lt_or_gt_of_ne c with l | l
              · exact first i l hz
              · exact idx_first WG.nd hz r0 l hv
      have es : showsB nl.length L i m.par = decide (i = r0) := by
        by_cases c : i = r0
        · subst c; rw [shows_good tr, decide_eq_true rfl]
        · rw [shows_other tr il c, decide_eq_false c]
      rw [ez, es, decide_eq_true rfl]
      refine iteF ?_
      exact ⟨⟨_, rfl⟩, s.trans s'⟩
    rintro σ H6 ⟨⟨x6, rfl⟩, s11⟩
    have s011 := s1.trans s11
    have S6 := S.same s011
    refine ⟨_, rfl, _, rfl, a, c, t, nl.length, rfl, S6, by omega, by omega, by omega, fun at_ H7 hat D7 => ?_⟩
    have DD : Dr a c t 1 H H7 := ⟨(KeepX.same s011).trans D7.1, D7.2⟩
    have T7 : Tups H1 H7 := fun b o i e => (S6.tups D7.1) b o i (s11 _ _ e)
    have th7 : Thing H7 fa nl.length m.par := T7 _ _ rfl th1
    have wb7 : WebAt H7 wb na li nl L := (wbS s11).same (S6.tups D7.1)
    have tl : ∀ {lo hi : Option Int}, (cutV ((List.range nl.length).map fun k => oN (m.par k)) lo hi).length ≤ 16 := fun {lo hi} => by
      have := cutV_length ((List.range nl.length).map fun k => oN (m.par k)) lo hi
      rw [th_len] at this
      omega
    -- lost
    refine ⟨_, rfl, _, rfl, _, rfl, slA_t th7 fun p1 G1 q1 hp1 => ⟨one_ok, fun p2 hp2 => catA_t (keepU hp2 hp1) upd_same (by have := tl (lo := none) (hi := some (at_ : Int)); simp only [List.length_cons, List.length_nil]; omega) fun p3 G3 q3 hp3 => ?_⟩⟩
    have q13 : Same H7 G3 := (q1.trans (same_new (o := .tup [.non]) hp2)).trans q3
    refine ⟨_, rfl, _, rfl, _, _, rfl, rfl, _, rfl, ?_⟩
    dsimp only [tNoPart]
    refine slA_t (q13 _ _ th7) fun p4 G4 q4 hp4 => catA_t (q4 _ _ hp3) hp4 (by have := tl (lo := none) (hi := some (at_ : Int)); have := tl (lo := some ((at_ : Int) + 1)) (hi := none); rw [List.length_append]; simp only [List.length_cons, List.length_nil]; omega) fun p5 G5 q5 hp5 => ?_
    have q15 : Same H7 G5 := (q13.trans q4).trans q5
    have thL : Thing G5 p5 nl.length (fput m.par at_ none) := by
      have := hp5
      rw [show [V.non] = [oN none] from rfl, th_put hat] at this
      exact this
    -- own
    refine ⟨_, rfl, _, rfl, _, rfl, slA_t (q15 _ _ th7) fun p1 J1 q1 hp1 => ⟨_, rfl, one_ok, fun p2 hp2 => catA_t (keepU hp2 hp1) upd_same (by have := tl (lo := none) (hi := some (at_ : Int)); simp only [List.length_cons, List.length_nil]; omega) fun p3 J3 q3 hp3 => ?_⟩⟩
    have r13 : Same G5 J3 := (q1.trans (same_new (o := .tup [.int (at_ : Int)]) hp2)).trans q3
    refine ⟨_, rfl, _, rfl, _, _, rfl, rfl, _, rfl, ?_⟩
    dsimp only [tNoPart]
    refine slA_t (r13 _ _ (q15 _ _ th7)) fun p4 J4 q4 hp4 => catA_t (q4 _ _ hp3) hp4 (by have := tl (lo := none) (hi := some (at_ : Int)); have := tl (lo := some ((at_ : Int) + 1)) (hi := none); rw [List.length_append]; simp only [List.length_cons, List.length_nil]; omega) fun p6 J5 q5 hp6 => ?_
    have r15 : Same G5 J5 := (r13.trans q4).trans q5
    have thO : Thing J5 p6 nl.length (fput m.par at_ (some at_)) := by
      have := hp6
      rw [show [V.int (at_ : Int)] = [oN (some at_)] from rfl, th_put hat] at this
      exact this
    have q75 := q15.trans r15
    refine ⟨_, rfl, _, rfl, _, rfl, wb, na, li, p6, nl, L, v, r0, _, rfl, wb7.same (fun b o _ e => q75 b o e), WG, hv, thO, fun J6 q6 => ⟨_, _, rfl, rfl, _, rfl, ?_⟩⟩
    rw [shows_own (W := WG.w) tr hat]
    refine iteF ?_
    have q76 := q75.trans q6
    have thL6 : Thing J6 p5 nl.length (fput m.par at_ none) := q6 _ _ (r15 _ _ thL)
    refine ⟨_, rfl, _, rfl, _, _, dp_thing thL6, dp_thing (q76 _ _ th7), o_shaped _, o_shaped _, ?_⟩
    refine ⟨_, rfl, _, rfl, _, rfl, wb, na, li, p5, nl, L, v, r0, _, rfl, wb7.same (fun b o _ e => q76 b o e), WG, hv, thL6, fun J7 q7 => ⟨rfl, ?_⟩⟩
    rw [eqv_tup, shows_lost tr hat]
    have eb : decide (osOf nl.length (fput m.par at_ none) = osOf nl.length m.par) = decide (at_ = r0) := by
      rw [Bool.eq_iff_iff, decide_eq_true_eq, decide_eq_true_eq]
      exact (os_eq hat).trans (lost_same tr hat)
    rw [eb, decide_eq_true rfl]
    have q77 := q76.trans q7
    obtain ⟨kd, td, ld, Sd⟩ := DD
    exact k J7 ⟨kd.trans (KeepX.same q77), td, ld, Sd.same q77⟩
end
end Rc
set_option Elab.async false
set_option linter.all false
set_option maxRecDepth 100000
set_option maxHeartbeats 8000000
namespace Rc
open PySem PySem.Spec PyProof.Rows L2 RcN RZ
open C8 (pe_c pe_mk pe_mt pe_mt0)
def spLaw (K : PySem.W.Frag) : Sp := fun vs H Q _ => ∃ (a : Addr) (ns : List Int), vs = [.ref a] ∧ SqL K H a (ns.map V.int) ∧ ∀ H', Q (.bl true) H'
section
variable {P : Program} {w : World} {K : PySem.W.Frag} {mg : Str → Option Value} {base : Heap} {C CB CL f fB : Addr} {fd fdB : FuncData}
/-- a run made: what its maker gives -/
theorem made {C x dx wb na li : Addr} {on : Obj} {nl : List Int} {xs : List V} {L : List (Nat × Nat)} {H : Hp} {Q : VK} {E : XK} (hx : H x = none) (hd : H dx = none) (hne : dx ≠ x) (hw : H wb = some (.tup [.ref na, .ref li])) (hpl : Pl on) (hna : H na = some (.frz on (.tup (nl.map V.int))))
    (hli : H li = some (.tup xs)) (hP : PairsAt H xs L) (WG : WebGood nl L)
    (k : ∀ (H' : Hp) (r : RA) (nb : Nat → List Nat), (∀ h, h < nl.length → (nb h).Perm (nbs L h)) → r.p = x → RunAt C H' r nl.length nb nl Rm.init → Same H H' → (∀ b, Own r b → H b = none) → Q .non H') :
    spInit K C [.ref x, .ref wb] (upd (upd H dx (.own x)) x (.ins C dx [])) Q E := by
  have s1 : Same H (upd (upd H dx (.own x)) x (.ins C dx [])) := same_upd (same_new hd) hx
  refine ⟨x, wb, na, li, dx, on, nl, xs, L, rfl, upd_same, s1 _ _ hw, hpl, s1 _ _ hna, s1 _ _ hli, pairs_same s1 hP, by have := WG.w.len; omega, WG.n16, fun h hh => by have := nbs_len WG.w rfl WG.nd hh; have := WG.n16; omega, fun H' r nb hnb hp R kx ow => ?_⟩
  refine k H' r nb hnb hp R (fun b o e => kx b o (s1 b o e) (ne_of_none e hx)) (fun b hb => ?_)
  rcases ow b hb with z | z
  · rw [z]; exact hx
  · exact s1.free z
theorem ok_law (F : DefAt K "law" "law" s_law f fd) (T : Txt K mg C CB CL) (c_l_drawn : C8.Cal P w K mg base 1 "_law_drawn" (spDrawn K) []) (c_l_web : C8.Cal P w K mg base 6 "_law_web" spWeb []) (c_WebRun : C8.Mak P w K mg base 2 "WebRun" C (spInit K C) [])
    (c_l_begins : C8.Cal P w K mg base 7 "_law_begins" (spBegins C) []) (c_l_led : C8.Cal P w K mg base 7 "_law_led" (spLed C) []) (c_l_right : C8.Cal P w K mg base 4 "_law_right" (spRight C) []) (c_sent : C8.Met P w K mg base 1 C "sent" (spSent C) []) (c_begun : C8.Met P w K mg base 1 C "begun" (spBegun C) [])
    (c_knows : C8.Met P w K mg base 3 C "knows" (spKnows C) []) (c_l_next : C8.Cal P w K mg base 2 "_law_next" spNext []) (m_begin : Meth K C "begin" fB) (G_begin : FnOk P w K mg base (L2.CX P w) 5 fB fdB ["self", "house"] (spBegin C CB CL)) (b_begin : L2.Binds K fdB ["self", "house"] []) :
    FnOk P w K mg base CX0 8 f fd ["_law_script"] (spLaw K) := by
  refine okN F sc_law (fun vs H Q E h => ?_) (fun cdv A outer s H vs Q E hr h => ?_)
  · obtain ⟨a, ns, rfl, _⟩ := h
    rfl
  · obtain ⟨sc, ns, rfl, hS, k⟩ := h
    refine ⟨_, (pss_cons (ps_set (i := 1) sc_law.nd rfl (Or.inl rfl) (pe_c c_l_drawn hr (by decide) (by rfl) (pa_cons (pv 0) pa_nil)))
    (pss_cons (ps_for PassesOwn.never rfl (pi_range1 (by rfl) T.b_range (pa_cons pe_int pa_nil)) (pg_name (i := 2) sc_law.nd rfl (Or.inl rfl)) (pss_cons (ps_set (i := 3) sc_law.nd rfl (Or.inl rfl) (pe_c c_l_web hr (by decide) (by rfl) (pa_cons (pv 1) (pa_cons pe_int (pa_cons pe_int pa_nil)))))
    (pss_cons (ps_set (i := 4) sc_law.nd rfl (Or.inl rfl) (pe_callB call_len_seq (by rfl) T.b_len (by decide +kernel) (pa_cons (pe_ix ix_tup (pv 3) pe_int (fun _ _ => rfl)) pa_nil)))
    (pss_cons (ps_set (i := 5) sc_law.nd rfl (Or.inl rfl) (pe_mk c_WebRun hr (by decide) (by rfl) (pa_cons (pv 3) pa_nil)))
    (pss_cons (ps_set (i := 6) sc_law.nd rfl (Or.inl rfl) (pe_mk c_WebRun hr (by decide) (by rfl) (pa_cons (pv 3) pa_nil)))
    (pss_cons (ps_expr (pe_c c_l_begins hr (by decide) (by rfl) (pa_cons (pv 1) (pa_cons (pv 5) (pa_cons (pv 4) pa_nil)))))
    (pss_cons (ps_expr (pe_c c_l_led hr (by decide) (by rfl) (pa_cons (pv 1) (pa_cons (pv 5) (pa_cons (pv 3) pa_nil)))))
    (pss_cons (ps_if (PW.pt (pw_or (pt_not (pt_val (pe_c c_l_right hr (by decide) (by rfl) (pa_cons (pv 1) (pa_cons (pv 3) (pa_cons (pv 5) pa_nil)))))) (pw_or1 (pt_cmpR op_ne (pe_mt0 c_sent hr (by decide) (pv 6)) pe_int (nomark _))))) (pss_one (ps_ret pe_bl)) pss_nil)
    (pss_cons (ps_if (PW.pt (pw_or (pt_cmpR (op_neD hr.units) (pe_mt0 c_begun hr (by decide) (pv 6)) (pe_tup pa_nil) (nomark _)) (pw_or1 (pt_cmpR op_notN (pe_mt c_knows hr (by decide) (pv 6) (pa_cons pe_int pa_nil)) pe_non (nomark _))))) (pss_one (ps_ret pe_bl)) pss_nil)
    (pss_cons (ps_expr (pe_meth (pv 6) T.cl m_begin G_begin (hr.mono (by decide)) b_begin .nil passL (pa_cons (pe_c c_l_next hr (by decide) (by rfl) (pa_cons (pv 1) (pa_cons (pv 4) pa_nil))) pa_nil)))
    (pss_cons (ps_expr (pe_c c_l_led hr (by decide) (by rfl) (pa_cons (pv 1) (pa_cons (pv 6) (pa_cons (pv 3) pa_nil)))))
    (pss_one (ps_if (PW.pt (pw_or (pt_not (pt_val (pe_c c_l_right hr (by decide) (by rfl) (pa_cons (pv 1) (pa_cons (pv 3) (pa_cons (pv 6) pa_nil)))))) (pw_or1 (pt_not (pt_val (pe_c c_l_right hr (by decide) (by rfl) (pa_cons (pv 1) (pa_cons (pv 3) (pa_cons (pv 5) pa_nil))))))))) (pss_one (ps_ret pe_bl)) pss_nil)))))))))))))
    (pss_one (ps_ret pe_bl)))), ?_⟩
    refine ⟨_, rfl, sc, ns, rfl, hS, fun a c H1 s01 ha0 hc0 S1 => ?_⟩
    refine ⟨2, rfl, by decide, by decide, ?_⟩
    refine for_range (fun i σ H' => (∃ x2 x3 x4 x5 x6 : Option V, σ = [some (.ref sc), some (.ref a), x2, x3, x4, x5, x6]) ∧ ∃ t, t ≤ 10000000 * i ∧ StAt H' a c t) ⟨⟨_, _, _, _, _, rfl⟩, 0, by omega, S1⟩ ?_ ?_
    · rintro i σ H2 hi ⟨⟨x2, x3, x4, x5, x6, rfl⟩, t, ht, S2⟩
      have hi2 : i < 2 := hi
      -- the web
      refine ⟨_, rfl, a, c, t, rfl, S2, by omega, fun wb na li nl L H3 WB WG D3 => ?_⟩
      obtain ⟨kx3, t3, l3, S3⟩ := D3
      have WB0 := WB
      obtain ⟨xs, on, hw, hpl, hna, hli, hP⟩ := WB0
      have n16 := WG.n16
      have n1 := WG.n1
      refine ⟨_, rfl, _, _, _, _, rfl, rfl, SqT.of hw, rfl, _, _, rfl, .inr (.inl (.inr ⟨on, hna⟩)), ?_⟩
      rw [List.length_map]
      -- two runs
      refine ⟨_, rfl, fun x dx hx hdx hne => made hx hdx hne hw hpl hna hli hP WG fun H4 r nb hnb erp R4 s34 ow4 => ⟨rfl, ?_⟩⟩
      refine ⟨_, rfl, fun y dy hy hdy hne => made hy hdy hne (s34 _ _ hw) hpl (s34 _ _ hna) (s34 _ _ hli) (pairs_same s34 hP) WG fun H5 q nb2 hnb2 eqp Q5 s45 ow5 => ⟨rfl, ?_⟩⟩
      have s35 := s34.trans s45
      have S5 := S3.same s35
      have R5 := R4.same s45
      obtain ⟨oa3, hoa3⟩ := S3.at_a
      obtain ⟨oc3, hoc3⟩ := S3.at_c
      have na4 : ¬ Own r a := fun z => by have := ow4 a z; rw [hoa3] at this; cases this
      have nc4 : ¬ Own r c := fun z => by have := ow4 c z; rw [hoc3] at this; cases this
      have na5 : ¬ Own q a := fun z => by have := ow5 a z; rw [s34 _ _ hoa3] at this; cases this
      have nc5 : ¬ Own q c := fun z => by have := ow5 c z; rw [s34 _ _ hoc3] at this; cases this
      have ap5 : ∀ b, Own q b → ¬ Own r b := fun b z1 z2 => by
        obtain ⟨o, ho, _⟩ := R4.some_own z2
        have := ow5 b z1
        rw [ho] at this; cases this
      have WB5 := WB.same (fun b o _ e => s35 b o e)
      have W : WebN nl.length nb nl := web_of WG.w rfl WG.nd hnb
      have W2 : WebN nl.length nb2 nl := web_of WG.w rfl WG.nd hnb2
      -- run: begins, led
      refine ⟨_, rfl, _, rfl, _, rfl, a, c, t3, r, nl.length, nb, nl, by rw [erp]; rfl, S5, by omega, na4, nc4, R5, n1, n16, W, fun H6 r6 m6 R6 sy6 A6 bg6 => ?_⟩
      obtain ⟨t6, l6, S6⟩ := A6.st
      have WB6 := WB5.same (A6.tups S5 R5)
      have Q6 := Q5.act S5 na5 R5 A6 ap5
      have na6 := A6.not_own (s35 _ _ hoa3) na4
      have nc6 := A6.not_own (s35 _ _ hoc3) nc4
      have ap6 : ∀ b, Own q b → ¬ Own r6 b := fun b z1 z2 => by
        obtain ⟨o, ho, _⟩ := Q5.some_own z1
        rcases A6.own b z2 with z | z
        · exact ap5 b z1 z
        · rw [ho] at z; cases z
      refine ⟨_, rfl, _, rfl, _, rfl, a, c, wb, na, li, t6, r6, nb, nl, L, m6, by rw [A6.p, erp]; rfl, S6, by omega, na6, nc6, WB6, WG, hnb, R6, sy6, bg6, fun H7 r7 m7 R7 sy7 bg7 st7 A7 => ?_⟩
      obtain ⟨t7, l7, S7⟩ := A7.st
      have WB7 := WB6.same (A7.tups S6 R6)
      have Q7 := Q6.act S6 na5 R6 A7 ap6
      have na7 := A7.not_own (show H6 a = some _ from S6.at_a.choose_spec) na6
      have nc7 := A7.not_own (show H6 c = some _ from S6.at_c.choose_spec) nc6
      have ap7 : ∀ b, Own q b → ¬ Own r7 b := fun b z1 z2 => by
        obtain ⟨o, ho, _⟩ := Q6.some_own z1
        rcases A7.own b z2 with z | z
        · exact ap6 b z1 z
        · rw [ho] at z; cases z
      have p7 : r7.p = x := by rw [A7.p, A6.p, erp]
      -- right
      refine ⟨_, rfl, _, rfl, _, rfl, a, c, wb, na, li, t7, r7, nb, nl, L, m7, by rw [p7]; rfl, S7, by omega, na7, WB7, WG, hnb, R7, sy7, bg7, st7, fun H8 D8 => ⟨_, rfl, ?_⟩⟩
      refine iteF ?_
      obtain ⟨kx8, t8, l8, S8⟩ := D8
      have R8 := R7.keepx S7 na7 kx8
      have Q8 := Q7.keepx S7 na5 kx8
      have WB8 := WB7.same (S7.tups kx8)
      -- the other is untouched
      obtain ⟨dx8, ob8⟩ := Q8.ob
      rw [eqp] at ob8
      refine ⟨_, rfl, _, _, _, rfl, ob8, f_no _ _ (by decide +kernel), q, _, nb2, nl, Rm.init, by rw [eqp]; rfl, Q8, rfl, _, rfl, ?_⟩
      refine iteF ?_
      refine ⟨_, rfl, _, _, _, rfl, ob8, f_no _ _ (by decide +kernel), q, _, nb2, nl, Rm.init, by rw [eqp]; rfl, Q8, by decide, fun a9 l9 H9 pm9 s89 ha9 => ⟨nil_ok, fun p hp => ?_⟩⟩
      have l0 : l9 = [] := List.Perm.eq_nil pm9
      subst l0
      have s8t := same_upd (o := .tup []) s89 (s89.free hp)
      refine ⟨_, _, .tup (SqT.of (keepU hp ha9)) (dpAll_o []), .tup (SqT.of upd_same) (dpAll_o []), o_shaped [], o_shaped [], _, rfl, ?_⟩
      rw [eqv_tup, decide_eq_true rfl]
      refine iteF ?_
      refine ⟨_, rfl, _, _, _, rfl, s8t _ _ ob8, f_no _ _ (by decide +kernel), q, _, nb2, nl, Rm.init, 0, by rw [eqp]; rfl, Q8.same s8t, by omega, rfl, _, rfl, ?_⟩
      refine iteF ?_
      have S9 := S8.same s8t
      have R9 := R8.same s8t
      have Q9 := Q8.same s8t
      have WB9 := WB8.same (fun b o _ e => s8t b o e)
      -- the other begins
      refine ⟨_, rfl, _, _, _, rfl, s8t _ _ ob8, f_no _ _ (by decide +kernel), _, rfl, _, rfl, a, c, t8, nl.length, rfl, S9, by omega, by omega, by omega, fun h10 H10 hh10 D10 => ?_⟩
      obtain ⟨kx10, t10, l10, S10⟩ := D10
      have R10 := R9.keepx S9 na7 kx10
      have Q10 := Q9.keepx S9 na5 kx10
      have WB10 := WB9.same (S9.tups kx10)
      refine ⟨q, _, nb2, nl, Rm.init, h10, by rw [eqp]; rfl, Q10, hh10, small_of W2 n16, by decide, by decide, fun z => (nomatch z), fun _ z => absurd rfl z, fun _ _ H11 q11 Q11 P11 => ?_⟩
      obtain ⟨sy11, _⟩ := Rm.sys_begin W2 (Rm.sys_init W2 n16) hh10 (m := Rm.init) rfl
      have bg11 : (Rm.begin1 nb2 (nmOf nl) Rm.init h10).beg ≠ [] := by rw [Rm.begin_beg]; simp
      have A11 : Act a c t10 0 q q11 H10 H11 := (Act.refl S10).stp S10 na5 nc5 P11
      obtain ⟨t11, l11, S11⟩ := A11.st
      have WB11 := WB10.same (A11.tups S10 Q10)
      have apr : ∀ b, Own r7 b → ¬ Own q b := fun b z1 z2 => ap7 b z2 z1
      have R11 := R10.act S10 na7 Q10 A11 apr
      have naq11 := A11.not_own (show H10 a = some _ from S10.at_a.choose_spec) na5
      have ncq11 := A11.not_own (show H10 c = some _ from S10.at_c.choose_spec) nc5
      have ap11 : ∀ b, Own r7 b → ¬ Own q11 b := fun b z1 z2 => by
        obtain ⟨o, ho, _⟩ := R10.some_own z1
        rcases A11.own b z2 with z | z
        · exact apr b z1 z
        · rw [ho] at z; cases z
      have pq11 : q11.p = y := by rw [A11.p, eqp]
      refine ⟨_, rfl, _, rfl, _, rfl, a, c, wb, na, li, t11, q11, nb2, nl, L, _, by rw [pq11]; rfl, S11, by omega, naq11, ncq11, WB11, WG, hnb2, Q11, sy11, bg11, fun H12 q12 m12 Q12 sy12 bg12 st12 A12 => ?_⟩
      obtain ⟨t12, l12, S12⟩ := A12.st
      have WB12 := WB11.same (A12.tups S11 Q11)
      have R12 := R11.act S11 na7 Q11 A12 ap11
      have naq12 := A12.not_own (show H11 a = some _ from S11.at_a.choose_spec) naq11
      have pq12 : q12.p = y := by rw [A12.p, pq11]
      -- both right
      refine ⟨_, rfl, _, rfl, _, rfl, a, c, wb, na, li, t12, q12, nb2, nl, L, m12, by rw [pq12]; rfl, S12, by omega, naq12, WB12, WG, hnb2, Q12, sy12, bg12, st12, fun H13 D13 => ⟨_, rfl, ?_⟩⟩
      refine iteF ?_
      obtain ⟨kx13, t13, l13, S13⟩ := D13
      have R13 := R12.keepx S12 na7 kx13
      have WB13 := WB12.same (S12.tups kx13)
      refine ⟨_, rfl, _, rfl, _, rfl, a, c, wb, na, li, t13, r7, nb, nl, L, m7, by rw [p7]; rfl, S13, by omega, na7, WB13, WG, hnb, R13, sy7, bg7, st7, fun H14 D14 => ⟨_, rfl, ?_⟩⟩
      refine iteF ?_
      obtain ⟨kx14, t14, l14, S14⟩ := D14
      exact ⟨⟨_, _, _, _, _, rfl⟩, t14, by omega, S14⟩
    · rintro σ H2 ⟨⟨x2, x3, x4, x5, x6, rfl⟩, t, ht, S2⟩
      exact k H2
end
end Rc
set_option Elab.async false
set_option linter.all false
set_option maxRecDepth 100000
set_option maxHeartbeats 0
namespace Rc
open PySem PySem.Spec PyProof.Rows L2
def d_is_number : He.DefD := ⟨("is_number", none), "is_number", "is_number", defArgs s_is_number, defBody s_is_number, defScope s_is_number, [], []⟩
def d_neighbours : He.DefD := ⟨("neighbours", none), "neighbours", "neighbours", defArgs s_neighbours, defBody s_neighbours, defScope s_neighbours, [], []⟩
def d_tree : He.DefD := ⟨("tree", none), "tree", "tree", defArgs s_tree, defBody s_tree, defScope s_tree, [], []⟩
def d_comes_home : He.DefD := ⟨("comes_home", none), "comes_home", "comes_home", defArgs s_comes_home, defBody s_comes_home, defScope s_comes_home, [], []⟩
def d_shows_tree : He.DefD := ⟨("shows_tree", none), "shows_tree", "shows_tree", defArgs s_shows_tree, defBody s_shows_tree, defScope s_shows_tree, [], []⟩
def d_init : He.DefD := ⟨("WebRun", some "__init__"), "__init__", "WebRun.__init__", defArgs s_init, defBody s_init, defScope s_init, [], []⟩
def d_ask_house : He.DefD := ⟨("WebRun", some "ask_house"), "ask_house", "WebRun.ask_house", defArgs s_ask_house, defBody s_ask_house, defScope s_ask_house, [], []⟩
def d_ask_road : He.DefD := ⟨("WebRun", some "ask_road"), "ask_road", "WebRun.ask_road", defArgs s_ask_road, defBody s_ask_road, defScope s_ask_road, [], []⟩
def d_tell_to : He.DefD := ⟨("WebRun", some "tell_to"), "tell_to", "WebRun.tell_to", defArgs s_tell_to, defBody s_tell_to, defScope s_tell_to, [], []⟩
def d_all_but : He.DefD := ⟨("WebRun", some "all_but"), "all_but", "WebRun.all_but", defArgs s_all_but, defBody s_all_but, defScope s_all_but, [], []⟩
def d_begin : He.DefD := ⟨("WebRun", some "begin"), "begin", "WebRun.begin", defArgs s_begin, defBody s_begin, defScope s_begin, [], []⟩
def d_take_wave : He.DefD := ⟨("WebRun", some "take_wave"), "take_wave", "WebRun.take_wave", defArgs s_take_wave, defBody s_take_wave, defScope s_take_wave, [], []⟩
def d_end_wave : He.DefD := ⟨("WebRun", some "end_wave"), "end_wave", "WebRun.end_wave", defArgs s_end_wave, defBody s_end_wave, defScope s_end_wave, [], []⟩
def d_learn : He.DefD := ⟨("WebRun", some "learn"), "learn", "WebRun.learn", defArgs s_learn, defBody s_learn, defScope s_learn, [], []⟩
def d_come : He.DefD := ⟨("WebRun", some "come"), "come", "WebRun.come", defArgs s_come, defBody s_come, defScope s_come, [], []⟩
def d_waiting : He.DefD := ⟨("WebRun", some "waiting"), "waiting", "WebRun.waiting", defArgs s_waiting, defBody s_waiting, defScope s_waiting, [], []⟩
def d_is_still : He.DefD := ⟨("WebRun", some "is_still"), "is_still", "WebRun.is_still", defArgs s_is_still, defBody s_is_still, defScope s_is_still, [], []⟩
def d_begun : He.DefD := ⟨("WebRun", some "begun"), "begun", "WebRun.begun", defArgs s_begun, defBody s_begun, defScope s_begun, [], []⟩
def d_knows : He.DefD := ⟨("WebRun", some "knows"), "knows", "WebRun.knows", defArgs s_knows, defBody s_knows, defScope s_knows, [], []⟩
def d_sent : He.DefD := ⟨("WebRun", some "sent"), "sent", "WebRun.sent", defArgs s_sent, defBody s_sent, defScope s_sent, [], []⟩
def d_l_drawn : He.DefD := ⟨("_law_drawn", none), "_law_drawn", "_law_drawn", defArgs s_l_drawn, defBody s_l_drawn, defScope s_l_drawn, [], []⟩
def d_l_load : He.DefD := ⟨("_law_load", none), "_law_load", "_law_load", defArgs s_l_load, defBody s_l_load, defScope s_l_load, [], []⟩
def d_l_next : He.DefD := ⟨("_law_next", none), "_law_next", "_law_next", defArgs s_l_next, defBody s_l_next, defScope s_l_next, [], []⟩
def d_l_of : He.DefD := ⟨("_law_of", none), "_law_of", "_law_of", defArgs s_l_of, defBody s_l_of, defScope s_l_of, [], []⟩
def d_l_name : He.DefD := ⟨("_law_name", none), "_law_name", "_law_name", defArgs s_l_name, defBody s_l_name, defScope s_l_name, [], []⟩
def d_l_names : He.DefD := ⟨("_law_names", none), "_law_names", "_law_names", defArgs s_l_names, defBody s_l_names, defScope s_l_names, [], []⟩
def d_l_web : He.DefD := ⟨("_law_web", none), "_law_web", "_law_web", defArgs s_l_web, defBody s_l_web, defScope s_l_web, [], []⟩
def d_l_same : He.DefD := ⟨("_law_same", none), "_law_same", "_law_same", defArgs s_l_same, defBody s_l_same, defScope s_l_same, [], []⟩
def d_l_near : He.DefD := ⟨("_law_near", none), "_law_near", "_law_near", defArgs s_l_near, defBody s_l_near, defScope s_l_near, [], []⟩
def d_l_shows : He.DefD := ⟨("_law_shows", none), "_law_shows", "_law_shows", defArgs s_l_shows, defBody s_l_shows, defScope s_l_shows, [], []⟩
def d_l_tries : He.DefD := ⟨("_law_tries", none), "_law_tries", "_law_tries", defArgs s_l_tries, defBody s_l_tries, defScope s_l_tries, [], []⟩
def d_l_led : He.DefD := ⟨("_law_led", none), "_law_led", "_law_led", defArgs s_l_led, defBody s_l_led, defScope s_l_led, [], []⟩
def d_l_begins : He.DefD := ⟨("_law_begins", none), "_law_begins", "_law_begins", defArgs s_l_begins, defBody s_l_begins, defScope s_l_begins, [], []⟩
def d_l_right : He.DefD := ⟨("_law_right", none), "_law_right", "_law_right", defArgs s_l_right, defBody s_l_right, defScope s_l_right, [], []⟩
def d_law : He.DefD := ⟨("law", none), "law", "law", defArgs s_law, defBody s_law, defScope s_law, [], []⟩
def fn : List He.DefD := [d_is_number, d_neighbours, d_tree, d_comes_home, d_shows_tree, d_init, d_ask_house, d_ask_road, d_tell_to, d_all_but, d_begin, d_take_wave, d_end_wave, d_learn, d_come, d_waiting, d_is_still, d_begun, d_knows, d_sent, d_l_drawn, d_l_load, d_l_next, d_l_of, d_l_name, d_l_names, d_l_web, d_l_same, d_l_near, d_l_shows, d_l_tries, d_l_led, d_l_begins, d_l_right, d_law]
def fa : List He.Fa := [.glo "is_number", .glo "neighbours", .glo "tree", .glo "comes_home", .glo "shows_tree", .glo "_law_drawn", .glo "_law_load", .glo "_law_next", .glo "_law_of", .glo "_law_name", .glo "_law_names", .glo "_law_web", .glo "_law_same", .glo "_law_near", .glo "_law_shows", .glo "_law_tries", .glo "_law_led", .glo "_law_begins", .glo "_law_right", .glo "law", .free "isinstance", .free "int", .free "bool", .free "tuple", .free "sorted", .free "len", .free "range", .free "enumerate", .free "all", .free "list", .free "abs", .free "min", .free "max", .free "zip", .free "str", .glo "WebRun", .cls "WebRun", .mkr "WebRun", .noat "WebRun" "web_names", .noat "WebRun" "joined_with", .noat "WebRun" "waves", .noat "WebRun" "parents", .noat "WebRun" "lacking", .noat "WebRun" "chief_known", .noat "WebRun" "beginners", .noat "WebRun" "web_roads", .noat "WebRun" "letters_told", .meth "WebRun" "ask_house", .meth "WebRun" "ask_road", .meth "WebRun" "tell_to", .meth "WebRun" "all_but", .meth "WebRun" "begin", .meth "WebRun" "take_wave", .meth "WebRun" "end_wave", .meth "WebRun" "learn", .meth "WebRun" "come", .meth "WebRun" "waiting", .meth "WebRun" "is_still", .meth "WebRun" "begun", .meth "WebRun" "knows", .meth "WebRun" "sent", .glo "Began", .glo "TooLate", .exc "Began", .exc "TooLate", .exm "Began" "Began" true, .exm "Began" "TooLate" false, .exm "TooLate" "Began" false, .exm "TooLate" "TooLate" true]
abbrev R : PySem.W.OpenRow := PySem.W.OpenLaw.row PySem.Challenge.rw_ringchief_k91_whole_last_waves_tree
abbrev hk : PySem.W.Hook := He.hookD 5 fa fn
def ob (s : PySem.W.SharedT) : He.AlD := He.obsDG 5 fa fn (HandSHeadRun.getT s)
theorem ob_eq (s : PySem.W.SharedT) : ob s = hk.obs s.abs := He.obsDG_eq (HandSHeadRun.getT_eq s)
def loose : List Str := ["is_number", "neighbours", "tree", "comes_home", "shows_tree", "RingError", "NoHouse", "Began", "TooLate", "NoLetter", "WebRun", "_law_drawn", "_law_load", "_law_next", "_law_of", "_law_name", "_law_names", "_law_web", "_law_same", "_law_near", "_law_shows", "_law_tries", "_law_led", "_law_begins", "_law_right"]
theorem run (w : World) : HandSHeadRun.RunEq R (PySem.W.view R.prog [31]) hk ob 4000 loose w := by
  intro os
  kernel_rfl
end Rc
set_option Elab.async false
set_option linter.all false
set_option maxRecDepth 100000
set_option maxHeartbeats 0
namespace Rc
open PySem PySem.Spec PyProof.Rows L2 RcN
theorem txt {K : PySem.W.Frag} {h : Heap} {mg : Str → Option Value} (X : K.In h) (G : h.Ns mainGlobals mg) (c : He.SaysD fa fn K) : Txt K mg (He.ga K "WebRun") (He.ga K "Began") (He.ga K "TooLate") where
  b_isinstance := He.free_ok X G (c.fact 20 (f := .free "isinstance") rfl)
  b_int := He.free_ok X G (c.fact 21 (f := .free "int") rfl)
  b_bool := He.free_ok X G (c.fact 22 (f := .free "bool") rfl)
  b_tuple := He.free_ok X G (c.fact 23 (f := .free "tuple") rfl)
  b_str := He.free_ok X G (c.fact 34 (f := .free "str") rfl)
  b_sorted := He.free_ok X G (c.fact 24 (f := .free "sorted") rfl)
  b_len := He.free_ok X G (c.fact 25 (f := .free "len") rfl)
  b_range := He.free_ok X G (c.fact 26 (f := .free "range") rfl)
  b_enumerate := He.free_ok X G (c.fact 27 (f := .free "enumerate") rfl)
  b_all := He.free_ok X G (c.fact 28 (f := .free "all") rfl)
  b_list := He.free_ok X G (c.fact 29 (f := .free "list") rfl)
  b_abs := He.free_ok X G (c.fact 30 (f := .free "abs") rfl)
  b_min := He.free_ok X G (c.fact 31 (f := .free "min") rfl)
  b_max := He.free_ok X G (c.fact 32 (f := .free "max") rfl)
  b_zip := He.free_ok X G (c.fact 33 (f := .free "zip") rfl)
  gC := He.glo_ok X G (c.fact 35 (f := .glo "WebRun") rfl)
  cl := He.cls_ok (c.fact 36 (f := .cls "WebRun") rfl)
  n_nm := He.noat_ok (c.fact 38 (f := .noat "WebRun" "web_names") rfl)
  n_jn := He.noat_ok (c.fact 39 (f := .noat "WebRun" "joined_with") rfl)
  n_wv := He.noat_ok (c.fact 40 (f := .noat "WebRun" "waves") rfl)
  n_pa := He.noat_ok (c.fact 41 (f := .noat "WebRun" "parents") rfl)
  n_lk := He.noat_ok (c.fact 42 (f := .noat "WebRun" "lacking") rfl)
  n_ch := He.noat_ok (c.fact 43 (f := .noat "WebRun" "chief_known") rfl)
  n_bg := He.noat_ok (c.fact 44 (f := .noat "WebRun" "beginners") rfl)
  n_rd := He.noat_ok (c.fact 45 (f := .noat "WebRun" "web_roads") rfl)
  n_tl := He.noat_ok (c.fact 46 (f := .noat "WebRun" "letters_told") rfl)
  gB := He.glo_ok X G (c.fact 61 (f := .glo "Began") rfl)
  gL := He.glo_ok X G (c.fact 62 (f := .glo "TooLate") rfl)
  xB := He.exc_ok (c.fact 63 (f := .exc "Began") rfl)
  xL := He.exc_ok (c.fact 64 (f := .exc "TooLate") rfl)
  eBB := He.exm_ok (c.fact 65 (f := .exm "Began" "Began" true) rfl)
  eBL := He.exm_ok (c.fact 66 (f := .exm "Began" "TooLate" false) rfl)
  eLB := He.exm_ok (c.fact 67 (f := .exm "TooLate" "Began" false) rfl)
  eLL := He.exm_ok (c.fact 68 (f := .exm "TooLate" "TooLate" true) rfl)
theorem facts {P : Program} {w : World} {K : PySem.W.Frag} {h : Heap} {mg : Str → Option Value} {f : Addr} (X : K.In h) (G : h.Ns mainGlobals mg) (hfa : mg ("law" : Str) = some (.ref f)) (c : He.SaysD fa fn K) :
    ∃ fd : FuncData, (∀ (s : Shared) (v : Value), BindsTo s fd ⟨[v], []⟩ [("_law_script", v)]) ∧ ∀ base : Heap, K.In base → base.Ns mainGlobals mg → FnOk P w K mg base CX0 8 f fd ["_law_script"] (spLaw K) := by
  have T := txt X G c
  have e := hfa.symm.trans (He.glo_ok X G (c.fact 19 (f := .glo "law") rfl))
  cases e
  obtain ⟨fd_is_number, E_is_number⟩ := c.def_ 0 (d := d_is_number) rfl
  have F_is_number : DefAt K "is_number" "is_number" s_is_number _ fd_is_number := E_is_number
  obtain ⟨fd_neighbours, E_neighbours⟩ := c.def_ 1 (d := d_neighbours) rfl
  have F_neighbours : DefAt K "neighbours" "neighbours" s_neighbours _ fd_neighbours := E_neighbours
  obtain ⟨fd_tree, E_tree⟩ := c.def_ 2 (d := d_tree) rfl
  have F_tree : DefAt K "tree" "tree" s_tree _ fd_tree := E_tree
  obtain ⟨fd_comes_home, E_comes_home⟩ := c.def_ 3 (d := d_comes_home) rfl
  have F_comes_home : DefAt K "comes_home" "comes_home" s_comes_home _ fd_comes_home := E_comes_home
  obtain ⟨fd_shows_tree, E_shows_tree⟩ := c.def_ 4 (d := d_shows_tree) rfl
  have F_shows_tree : DefAt K "shows_tree" "shows_tree" s_shows_tree _ fd_shows_tree := E_shows_tree
  obtain ⟨fd_init, E_init⟩ := c.def_ 5 (d := d_init) rfl
  have F_init : DefAt K "__init__" "WebRun.__init__" s_init _ fd_init := E_init
  obtain ⟨fd_ask_house, E_ask_house⟩ := c.def_ 6 (d := d_ask_house) rfl
  have F_ask_house : DefAt K "ask_house" "WebRun.ask_house" s_ask_house _ fd_ask_house := E_ask_house
  obtain ⟨fd_ask_road, E_ask_road⟩ := c.def_ 7 (d := d_ask_road) rfl
  have F_ask_road : DefAt K "ask_road" "WebRun.ask_road" s_ask_road _ fd_ask_road := E_ask_road
  obtain ⟨fd_tell_to, E_tell_to⟩ := c.def_ 8 (d := d_tell_to) rfl
  have F_tell_to : DefAt K "tell_to" "WebRun.tell_to" s_tell_to _ fd_tell_to := E_tell_to
  obtain ⟨fd_all_but, E_all_but⟩ := c.def_ 9 (d := d_all_but) rfl
  have F_all_but : DefAt K "all_but" "WebRun.all_but" s_all_but _ fd_all_but := E_all_but
  obtain ⟨fd_begin, E_begin⟩ := c.def_ 10 (d := d_begin) rfl
  have F_begin : DefAt K "begin" "WebRun.begin" s_begin _ fd_begin := E_begin
  obtain ⟨fd_take_wave, E_take_wave⟩ := c.def_ 11 (d := d_take_wave) rfl
  have F_take_wave : DefAt K "take_wave" "WebRun.take_wave" s_take_wave _ fd_take_wave := E_take_wave
  obtain ⟨fd_end_wave, E_end_wave⟩ := c.def_ 12 (d := d_end_wave) rfl
  have F_end_wave : DefAt K "end_wave" "WebRun.end_wave" s_end_wave _ fd_end_wave := E_end_wave
  obtain ⟨fd_learn, E_learn⟩ := c.def_ 13 (d := d_learn) rfl
  have F_learn : DefAt K "learn" "WebRun.learn" s_learn _ fd_learn := E_learn
  obtain ⟨fd_come, E_come⟩ := c.def_ 14 (d := d_come) rfl
  have F_come : DefAt K "come" "WebRun.come" s_come _ fd_come := E_come
  obtain ⟨fd_waiting, E_waiting⟩ := c.def_ 15 (d := d_waiting) rfl
  have F_waiting : DefAt K "waiting" "WebRun.waiting" s_waiting _ fd_waiting := E_waiting
  obtain ⟨fd_is_still, E_is_still⟩ := c.def_ 16 (d := d_is_still) rfl
  have F_is_still : DefAt K "is_still" "WebRun.is_still" s_is_still _ fd_is_still := E_is_still
  obtain ⟨fd_begun, E_begun⟩ := c.def_ 17 (d := d_begun) rfl
  have F_begun : DefAt K "begun" "WebRun.begun" s_begun _ fd_begun := E_begun
  obtain ⟨fd_knows, E_knows⟩ := c.def_ 18 (d := d_knows) rfl
  have F_knows : DefAt K "knows" "WebRun.knows" s_knows _ fd_knows := E_knows
  obtain ⟨fd_sent, E_sent⟩ := c.def_ 19 (d := d_sent) rfl
  have F_sent : DefAt K "sent" "WebRun.sent" s_sent _ fd_sent := E_sent
  obtain ⟨fd_l_drawn, E_l_drawn⟩ := c.def_ 20 (d := d_l_drawn) rfl
  have F_l_drawn : DefAt K "_law_drawn" "_law_drawn" s_l_drawn _ fd_l_drawn := E_l_drawn
  obtain ⟨fd_l_load, E_l_load⟩ := c.def_ 21 (d := d_l_load) rfl
  have F_l_load : DefAt K "_law_load" "_law_load" s_l_load _ fd_l_load := E_l_load
  obtain ⟨fd_l_next, E_l_next⟩ := c.def_ 22 (d := d_l_next) rfl
  have F_l_next : DefAt K "_law_next" "_law_next" s_l_next _ fd_l_next := E_l_next
  obtain ⟨fd_l_of, E_l_of⟩ := c.def_ 23 (d := d_l_of) rfl
  have F_l_of : DefAt K "_law_of" "_law_of" s_l_of _ fd_l_of := E_l_of
  obtain ⟨fd_l_name, E_l_name⟩ := c.def_ 24 (d := d_l_name) rfl
  have F_l_name : DefAt K "_law_name" "_law_name" s_l_name _ fd_l_name := E_l_name
  obtain ⟨fd_l_names, E_l_names⟩ := c.def_ 25 (d := d_l_names) rfl
  have F_l_names : DefAt K "_law_names" "_law_names" s_l_names _ fd_l_names := E_l_names
  obtain ⟨fd_l_web, E_l_web⟩ := c.def_ 26 (d := d_l_web) rfl
  have F_l_web : DefAt K "_law_web" "_law_web" s_l_web _ fd_l_web := E_l_web
  obtain ⟨fd_l_same, E_l_same⟩ := c.def_ 27 (d := d_l_same) rfl
  have F_l_same : DefAt K "_law_same" "_law_same" s_l_same _ fd_l_same := E_l_same
  obtain ⟨fd_l_near, E_l_near⟩ := c.def_ 28 (d := d_l_near) rfl
  have F_l_near : DefAt K "_law_near" "_law_near" s_l_near _ fd_l_near := E_l_near
  obtain ⟨fd_l_shows, E_l_shows⟩ := c.def_ 29 (d := d_l_shows) rfl
  have F_l_shows : DefAt K "_law_shows" "_law_shows" s_l_shows _ fd_l_shows := E_l_shows
  obtain ⟨fd_l_tries, E_l_tries⟩ := c.def_ 30 (d := d_l_tries) rfl
  have F_l_tries : DefAt K "_law_tries" "_law_tries" s_l_tries _ fd_l_tries := E_l_tries
  obtain ⟨fd_l_led, E_l_led⟩ := c.def_ 31 (d := d_l_led) rfl
  have F_l_led : DefAt K "_law_led" "_law_led" s_l_led _ fd_l_led := E_l_led
  obtain ⟨fd_l_begins, E_l_begins⟩ := c.def_ 32 (d := d_l_begins) rfl
  have F_l_begins : DefAt K "_law_begins" "_law_begins" s_l_begins _ fd_l_begins := E_l_begins
  obtain ⟨fd_l_right, E_l_right⟩ := c.def_ 33 (d := d_l_right) rfl
  have F_l_right : DefAt K "_law_right" "_law_right" s_l_right _ fd_l_right := E_l_right
  obtain ⟨fd_law, E_law⟩ := c.def_ 34 (d := d_law) rfl
  have F_law : DefAt K "law" "law" s_law _ fd_law := E_law
  have b := FunD.bindsA (ps := ["_law_script"]) F_law fun _ _ _ _ _ _ us hl => match us, hl with | [_], _ => rfl
  refine ⟨fd_law, fun s v => b s [v] rfl, fun base _ _ => ?_⟩
  have G_is_number := ok_is_number (P := P) (w := w) (mg := mg) (base := base) F_is_number T 
  have c_is_number := calN F_is_number (He.glo_ok X G (c.fact 0 (f := .glo "is_number") rfl)) G_is_number (fun _ _ _ _ _ _ us hl => match us, hl with | [_, _], _ => rfl)
  have G_neighbours := ok_neighbours (P := P) (w := w) (mg := mg) (base := base) F_neighbours T 
  have c_neighbours := calN F_neighbours (He.glo_ok X G (c.fact 1 (f := .glo "neighbours") rfl)) G_neighbours (fun _ _ _ _ _ _ us hl => match us, hl with | [_, _], _ => rfl)
  have G_tree := ok_tree (P := P) (w := w) (mg := mg) (base := base) F_tree T 
  have c_tree := calN F_tree (He.glo_ok X G (c.fact 2 (f := .glo "tree") rfl)) G_tree (fun _ _ _ _ _ _ us hl => match us, hl with | [_], _ => rfl)
  have G_comes_home := ok_comes_home (P := P) (w := w) (mg := mg) (base := base) F_comes_home T 
  have c_comes_home := calN F_comes_home (He.glo_ok X G (c.fact 3 (f := .glo "comes_home") rfl)) G_comes_home (fun _ _ _ _ _ _ us hl => match us, hl with | [_, _, _], _ => rfl)
  have G_shows_tree := ok_shows_tree (P := P) (w := w) (mg := mg) (base := base) F_shows_tree T c_is_number c_neighbours c_comes_home
  have c_shows_tree := calN F_shows_tree (He.glo_ok X G (c.fact 4 (f := .glo "shows_tree") rfl)) G_shows_tree (fun _ _ _ _ _ _ us hl => match us, hl with | [_, _, _], _ => rfl)
  have G_ask_house := ok_ask_house (P := P) (w := w) (mg := mg) (base := base) F_ask_house T c_is_number
  have c_ask_house := metN T.cl (He.meth_ok (c.fact 47 (f := .meth "WebRun" "ask_house") rfl)) F_ask_house G_ask_house (fun _ _ _ _ _ _ us hl => match us, hl with | [_, _], _ => rfl)
  have G_ask_road := ok_ask_road (P := P) (w := w) (mg := mg) (base := base) F_ask_road T c_is_number c_ask_house
  have c_ask_road := metN T.cl (He.meth_ok (c.fact 48 (f := .meth "WebRun" "ask_road") rfl)) F_ask_road G_ask_road (fun _ _ _ _ _ _ us hl => match us, hl with | [_, _, _], _ => rfl)
  have G_all_but := ok_all_but (P := P) (w := w) (mg := mg) (base := base) F_all_but T 
  have c_all_but := metN T.cl (He.meth_ok (c.fact 50 (f := .meth "WebRun" "all_but") rfl)) F_all_but G_all_but (fun _ _ _ _ _ _ us hl => match us, hl with | [_, _, _], _ => rfl)
  have G_tell_to := ok_tell_to (P := P) (w := w) (mg := mg) (base := base) F_tell_to T 
  have c_tell_to := metN T.cl (He.meth_ok (c.fact 49 (f := .meth "WebRun" "tell_to") rfl)) F_tell_to G_tell_to (fun _ _ _ _ _ _ us hl => match us, hl with | [_, _, _, _], _ => rfl)
  have G_learn := ok_learn (P := P) (w := w) (mg := mg) (base := base) F_learn T c_all_but c_tell_to
  have c_learn := metN T.cl (He.meth_ok (c.fact 54 (f := .meth "WebRun" "learn") rfl)) F_learn G_learn (fun _ _ _ _ _ _ us hl => match us, hl with | [_, _, _, _], _ => rfl)
  have G_end_wave := ok_end_wave (P := P) (w := w) (mg := mg) (base := base) F_end_wave T c_learn c_tell_to
  have c_end_wave := metN T.cl (He.meth_ok (c.fact 53 (f := .meth "WebRun" "end_wave") rfl)) F_end_wave G_end_wave (fun _ _ _ _ _ _ us hl => match us, hl with | [_, _], _ => rfl)
  have G_take_wave := ok_take_wave (P := P) (w := w) (mg := mg) (base := base) F_take_wave T c_all_but c_tell_to c_end_wave
  have c_take_wave := metN T.cl (He.meth_ok (c.fact 52 (f := .meth "WebRun" "take_wave") rfl)) F_take_wave G_take_wave (fun _ _ _ _ _ _ us hl => match us, hl with | [_, _, _, _], _ => rfl)
  have G_begin := ok_begin (P := P) (w := w) (mg := mg) (base := base) F_begin T c_ask_house c_take_wave
  have m_begin := He.meth_ok (c.fact 51 (f := .meth "WebRun" "begin") rfl)
  have b_begin : L2.Binds K fd_begin ["self", "house"] [] := FunD.bindsN F_begin (fun _ _ _ _ _ _ us hl => match us, hl with | [_, _], _ => rfl)
  have G_come := ok_come (P := P) (w := w) (mg := mg) (base := base) F_come T c_ask_road c_learn c_end_wave c_take_wave
  have c_come := metN T.cl (He.meth_ok (c.fact 55 (f := .meth "WebRun" "come") rfl)) F_come G_come (fun _ _ _ _ _ _ us hl => match us, hl with | [_, _, _], _ => rfl)
  have G_waiting := ok_waiting (P := P) (w := w) (mg := mg) (base := base) F_waiting T c_ask_road
  have c_waiting := metN T.cl (He.meth_ok (c.fact 56 (f := .meth "WebRun" "waiting") rfl)) F_waiting G_waiting (fun _ _ _ _ _ _ us hl => match us, hl with | [_, _, _], _ => rfl)
  have G_is_still := ok_is_still (P := P) (w := w) (mg := mg) (base := base) F_is_still T 
  have c_is_still := metN T.cl (He.meth_ok (c.fact 57 (f := .meth "WebRun" "is_still") rfl)) F_is_still G_is_still (fun _ _ _ _ _ _ us hl => match us, hl with | [_], _ => rfl)
  have G_begun := ok_begun (P := P) (w := w) (mg := mg) (base := base) F_begun T 
  have c_begun := metN T.cl (He.meth_ok (c.fact 58 (f := .meth "WebRun" "begun") rfl)) F_begun G_begun (fun _ _ _ _ _ _ us hl => match us, hl with | [_], _ => rfl)
  have G_knows := ok_knows (P := P) (w := w) (mg := mg) (base := base) F_knows T c_ask_house
  have c_knows := metN T.cl (He.meth_ok (c.fact 59 (f := .meth "WebRun" "knows") rfl)) F_knows G_knows (fun _ _ _ _ _ _ us hl => match us, hl with | [_, _], _ => rfl)
  have G_sent := ok_sent (P := P) (w := w) (mg := mg) (base := base) F_sent T 
  have c_sent := metN T.cl (He.meth_ok (c.fact 60 (f := .meth "WebRun" "sent") rfl)) F_sent G_sent (fun _ _ _ _ _ _ us hl => match us, hl with | [_], _ => rfl)
  have G_init := ok_init (P := P) (w := w) (mg := mg) (base := base) F_init T c_neighbours
  have c_WebRun := makN (He.mkr_ok (c.fact 37 (f := .mkr "WebRun") rfl)) T.gC F_init G_init (fun _ _ _ _ _ _ us hl => match us, hl with | [_, _], _ => rfl)
  have G_l_drawn := ok_l_drawn (P := P) (w := w) (mg := mg) (base := base) F_l_drawn T 
  have c_l_drawn := calN F_l_drawn (He.glo_ok X G (c.fact 5 (f := .glo "_law_drawn") rfl)) G_l_drawn (fun _ _ _ _ _ _ us hl => match us, hl with | [_], _ => rfl)
  have G_l_load := ok_l_load (P := P) (w := w) (mg := mg) (base := base) F_l_load T 
  have c_l_load := calN F_l_load (He.glo_ok X G (c.fact 6 (f := .glo "_law_load") rfl)) G_l_load (fun _ _ _ _ _ _ us hl => match us, hl with | [_], _ => rfl)
  have G_l_next := ok_l_next (P := P) (w := w) (mg := mg) (base := base) F_l_next T c_l_load
  have c_l_next := calN F_l_next (He.glo_ok X G (c.fact 7 (f := .glo "_law_next") rfl)) G_l_next (fun _ _ _ _ _ _ us hl => match us, hl with | [_, _], _ => rfl)
  have G_l_of := ok_l_of (P := P) (w := w) (mg := mg) (base := base) F_l_of T c_l_next
  have c_l_of := calN F_l_of (He.glo_ok X G (c.fact 8 (f := .glo "_law_of") rfl)) G_l_of (fun _ _ _ _ _ _ us hl => match us, hl with | [_, _], _ => rfl)
  have G_l_name := ok_l_name (P := P) (w := w) (mg := mg) (base := base) F_l_name T c_l_next c_l_of
  have c_l_name := calN F_l_name (He.glo_ok X G (c.fact 9 (f := .glo "_law_name") rfl)) G_l_name (fun _ _ _ _ _ _ us hl => match us, hl with | [_], _ => rfl)
  have G_l_names := ok_l_names (P := P) (w := w) (mg := mg) (base := base) F_l_names T c_l_name
  have c_l_names := calN F_l_names (He.glo_ok X G (c.fact 10 (f := .glo "_law_names") rfl)) G_l_names (fun _ _ _ _ _ _ us hl => match us, hl with | [_, _], _ => rfl)
  have G_l_web := ok_l_web (P := P) (w := w) (mg := mg) (base := base) F_l_web T c_l_next c_l_of c_l_names
  have c_l_web := calN F_l_web (He.glo_ok X G (c.fact 11 (f := .glo "_law_web") rfl)) G_l_web (fun _ _ _ _ _ _ us hl => match us, hl with | [_, _, _], _ => rfl)
  have G_l_same0 := ok_l_same0 (P := P) (w := w) (mg := mg) (base := base) F_l_same T
  have c_l_same0 := calN F_l_same (He.glo_ok X G (c.fact 12 (f := .glo "_law_same") rfl)) G_l_same0 (fun _ _ _ _ _ _ us hl => match us, hl with | [_, _], _ => rfl)
  have G_l_same := ok_l_same (P := P) (w := w) (mg := mg) (base := base) F_l_same T c_l_same0
  have c_l_same := calN F_l_same (He.glo_ok X G (c.fact 12 (f := .glo "_law_same") rfl)) G_l_same (fun _ _ _ _ _ _ us hl => match us, hl with | [_, _], _ => rfl)
  have G_l_near := ok_l_near (P := P) (w := w) (mg := mg) (base := base) F_l_near T 
  have c_l_near := calN F_l_near (He.glo_ok X G (c.fact 13 (f := .glo "_law_near") rfl)) G_l_near (fun _ _ _ _ _ _ us hl => match us, hl with | [_, _], _ => rfl)
  have G_l_shows := ok_l_shows (P := P) (w := w) (mg := mg) (base := base) F_l_shows T c_l_near
  have c_l_shows := calN F_l_shows (He.glo_ok X G (c.fact 14 (f := .glo "_law_shows") rfl)) G_l_shows (fun _ _ _ _ _ _ us hl => match us, hl with | [_, _, _], _ => rfl)
  have G_l_tries := ok_l_tries (P := P) (w := w) (mg := mg) (base := base) F_l_tries T m_begin G_begin b_begin
  have c_l_tries := calN F_l_tries (He.glo_ok X G (c.fact 15 (f := .glo "_law_tries") rfl)) G_l_tries (fun _ _ _ _ _ _ us hl => match us, hl with | [_, _], _ => rfl)
  have G_l_led := ok_l_led (P := P) (w := w) (mg := mg) (base := base) F_l_led T c_l_next c_is_still c_waiting c_come c_l_tries
  have c_l_led := calN F_l_led (He.glo_ok X G (c.fact 16 (f := .glo "_law_led") rfl)) G_l_led (fun _ _ _ _ _ _ us hl => match us, hl with | [_, _, _], _ => rfl)
  have G_l_begins := ok_l_begins (P := P) (w := w) (mg := mg) (base := base) F_l_begins T m_begin G_begin b_begin c_l_next c_l_of c_l_tries
  have c_l_begins := calN F_l_begins (He.glo_ok X G (c.fact 17 (f := .glo "_law_begins") rfl)) G_l_begins (fun _ _ _ _ _ _ us hl => match us, hl with | [_, _, _], _ => rfl)
  have G_l_right := ok_l_right (P := P) (w := w) (mg := mg) (base := base) F_l_right T c_l_next c_tree c_knows c_l_same c_l_shows c_shows_tree
  have c_l_right := calN F_l_right (He.glo_ok X G (c.fact 18 (f := .glo "_law_right") rfl)) G_l_right (fun _ _ _ _ _ _ us hl => match us, hl with | [_, _, _], _ => rfl)
  exact ok_law (P := P) (w := w) (mg := mg) (base := base) F_law T c_l_drawn c_l_web c_WebRun c_l_begins c_l_led c_l_right c_sent c_begun c_knows c_l_next m_begin G_begin b_begin
end Rc
open PySem PySem.W PySem.Calls PyProof.Rows
theorem PySem.Challenge.cw_ringchief_k91_whole_last_waves_tree_holds : PySem.Challenge.rw_ringchief_k91_whole_last_waves_tree.Holds := by
  w_on; o_law
  refine HandSHeadRun.head_any (r := OpenLaw.row PySem.Challenge.rw_ringchief_k91_whole_last_waves_tree) (q := view (OpenLaw.row PySem.Challenge.rw_ringchief_k91_whole_last_waves_tree).prog [31]) (H := Rc.hk) (ob := Rc.ob) (M := 4000) (loose := Rc.loose) (d := HandSHeadRun.topDef (OpenLaw.row PySem.Challenge.rw_ringchief_k91_whole_last_waves_tree).prog 31) (kwd := []) Rc.ob_eq
    (by kernel_rfl) (fun s => by kernel_rfl) Rc.run (by kernel_rfl) (by kernel_rfl) (by kernel_rfl) (by rfl) (by first | assumption | decide +kernel) (by decide +kernel) ⟨rfl, rfl, rfl, rfl, rfl, by decide +kernel⟩ ?hw ?hc
  case hw => w_witness2
  case hc =>
    refine L2.walk_ofE (l := PySem.Challenge.rw_ringchief_k91_whole_last_waves_tree) (n := 63) (k := 8) (x := "_law_script") (CX := L2.CX0) rfl (by decide) (by kernel_rfl) ⟨rfl, by decide, by decide⟩ ?F (fun _ _ _ _ z => z)
    intro w mg fa h Y G hmg0
    obtain ⟨K, KX, c⟩ := Y
    have hmg : mg ("law" : PySem.Str) = some (.ref fa) := by
      have e : (HandSHeadRun.topDef (OpenLaw.row PySem.Challenge.rw_ringchief_k91_whole_last_waves_tree).prog 31).name = ("law" : PySem.Str) := by kernel_rfl
      rw [← e]
      exact hmg0
    obtain ⟨fd, hb, hF⟩ := Rc.facts (P := (PySem.Challenge.rw_ringchief_k91_whole_last_waves_tree).prog) (w := w) KX G hmg c
    exact ⟨K, fd, Rc.spLaw K, KX, hb, fun H a ns hl _ hS => ⟨a, ns, rfl, hS, fun _ => rfl⟩, hF⟩
