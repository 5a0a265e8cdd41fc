import PyProof.Rows.All
import Wide.All
import OpenK.AllK
import Wide.FinOn
import PyProof.EqAt
import PyProof.EqKinds
import PyProof.TupleCall
import KE.GoesEnum
import KE.KExcInit
import HandS.ForMost
import HandS.Exc
import HandS.ExcOwn
import HandS.TryOnly
import HandS.TryMany
import HandS.WordsExc
import HandS.ExcInit
import HandS.ExcField
import HandS.ExcIs
import HandS.IsInst
import HandS.TupMul
import HandS.TupAny
import HandS.Flow
import HandS.Zip
import HandS.Style
import PySem.Challenge.RW_gonetold_k02_whole_what_stands_and_is_he
set_option Elab.async false
set_option linter.all false
set_option maxRecDepth 100000
/-! K2A: data as it stands in the abstract heap (Td), the heap without some addresses (wo) -/
namespace K2
open PySem L2

mutual
inductive Td (H : Hp) : V → PyData → Prop
  | non : Td H .non .none
  | bl (b : Bool) : Td H (.bl b) (.bool b)
  | int (i : Int) : Td H (.int i) (.int i)
  | str (x : Str) : Td H (.str x) (.str x)
  | lst {a : Addr} {xs : List V} {ds : List PyData} : H a = some (.lst xs) → TdL H xs ds → Td H (.ref a) (.list ds)
  | tup {a : Addr} {xs : List V} {ds : List PyData} : H a = some (.tup xs) → TdL H xs ds → Td H (.ref a) (.tuple ds)
inductive TdL (H : Hp) : List V → List PyData → Prop
  | nil : TdL H [] []
  | cons {v : V} {vs : List V} {d : PyData} {ds : List PyData} : Td H v d → TdL H vs ds → TdL H (v :: vs) (d :: ds)
end
section
variable {H H' : Hp} {v : V} {d : PyData} {vs xs : List V} {ds : List PyData}
mutual
theorem Td.mono (s : Same H H') : ∀ {v : V} {d : PyData}, Td H v d → Td H' v d
  | _, _, .non => .non
  | _, _, .bl b => .bl b
  | _, _, .int i => .int i
  | _, _, .str x => .str x
  | _, _, .lst e a => .lst (s _ _ e) (TdL.mono s a)
  | _, _, .tup e a => .tup (s _ _ e) (TdL.mono s a)
theorem TdL.mono (s : Same H H') : ∀ {vs : List V} {ds : List PyData}, TdL H vs ds → TdL H' vs ds
  | _, _, .nil => .nil
  | _, _, .cons h t => .cons (Td.mono s h) (TdL.mono s t)
end
mutual
theorem Td.dp {K : PySem.W.Frag} : ∀ {v : V} {d : PyData}, Td H v d → Dp K H v d
  | _, _, .non => .non
  | _, _, .bl b => .bl b
  | _, _, .int i => .int i
  | _, _, .str x => .str x
  | _, _, .lst e a => .lst (SqL.of e) (TdL.dp a)
  | _, _, .tup e a => .tup (SqT.of e) (TdL.dp a)
theorem TdL.dp {K : PySem.W.Frag} : ∀ {vs : List V} {ds : List PyData}, TdL H vs ds → DpAll K H vs ds
  | _, _, .nil => .nil
  | _, _, .cons h t => .cons (Td.dp h) (TdL.dp t)
end
theorem Td.inv_lst (h : Td H v (.list ds)) : ∃ a xs, v = .ref a ∧ H a = some (.lst xs) ∧ TdL H xs ds := by
  cases h with
  | lst e a => exact ⟨_, _, rfl, e, a⟩
theorem Td.inv_tup (h : Td H v (.tuple ds)) : ∃ a xs, v = .ref a ∧ H a = some (.tup xs) ∧ TdL H xs ds := by
  cases h with
  | tup e a => exact ⟨_, _, rfl, e, a⟩
theorem Td.inv_int {i : Int} (h : Td H v (.int i)) : v = .int i := by cases h; rfl
theorem Td.inv_str {x : Str} (h : Td H v (.str x)) : v = .str x := by cases h; rfl
theorem Td.inv_bl {b : Bool} (h : Td H v (.bool b)) : v = .bl b := by cases h; rfl
theorem Td.inv_non (h : Td H v .none) : v = .non := by cases h; rfl
theorem TdL.inv_nil (h : TdL H vs []) : vs = [] := by cases h; rfl
theorem TdL.inv_cons (h : TdL H vs (d :: ds)) : ∃ x xs, vs = x :: xs ∧ Td H x d ∧ TdL H xs ds := by
  cases h with
  | cons first rest => exact ⟨_, _, rfl, first, rest⟩
theorem TdL.length : ∀ {vs : List V} {ds : List PyData}, TdL H vs ds → vs.length = ds.length
  | _, _, .nil => rfl
  | _, _, .cons _ t => congrArg (· + 1) (TdL.length t)
theorem TdL.get : ∀ {vs : List V} {ds : List PyData} {i : Nat} {d : PyData}, TdL H vs ds → ds[i]? = some d → ∃ x, vs[i]? = some x ∧ Td H x d
  | [], [], _, _, _, z => by simp at z
  | _, _, 0, _, .cons a _, e => by simp at e; subst e; exact ⟨_, rfl, a⟩
  | _, _, i + 1, _, .cons _ t, e => by
    obtain ⟨x, h1, h2⟩ := TdL.get (i := i) t (by simpa using e)
    exact ⟨x, List.getElem?_cons_succ.trans h1, h2⟩
theorem TdL.got : ∀ {vs : List V} {ds : List PyData} {i : Nat} {x : V}, TdL H vs ds → vs[i]? = some x → ∃ d, ds[i]? = some d ∧ Td H x d
  | [], [], _, _, _, z => by simp at z
  | _, _, 0, _, .cons a _, e => by simp at e; subst e; exact ⟨_, rfl, a⟩
  | _, _, i + 1, _, .cons _ t, e => by
    obtain ⟨x, h1, h2⟩ := TdL.got (i := i) t (by simpa using e)
    exact ⟨x, List.getElem?_cons_succ.trans h1, h2⟩
theorem TdL.append : ∀ {vs ws : List V} {ds es : List PyData}, TdL H vs ds → TdL H ws es → TdL H (vs ++ ws) (ds ++ es)
  | _, _, _, _, .nil, s => s
  | _, _, _, _, .cons r t, s => .cons r (TdL.append t s)
theorem TdL.take : ∀ {vs : List V} {ds : List PyData} (n : Nat), TdL H vs ds → TdL H (vs.take n) (ds.take n)
  | _, _, 0, _ => .nil
  | _, _, _ + 1, .nil => .nil
  | _, _, n + 1, .cons r t => .cons r (TdL.take n t)
theorem TdL.drop : ∀ {vs : List V} {ds : List PyData} (n : Nat), TdL H vs ds → TdL H (vs.drop n) (ds.drop n)
  | _, _, 0, h => h
  | _, _, _ + 1, .nil => .nil
  | _, _, n + 1, .cons _ t => TdL.drop n t
theorem TdL.one (h : Td H v d) : TdL H [v] [d] := .cons h .nil
theorem TdL.ints : ∀ ns : List Int, TdL H (ns.map V.int) (ns.map PyData.int)
  | [] => .nil
  | n :: r => .cons (.int n) (TdL.ints r)
theorem TdL.inv_ints : ∀ {ns : List Int} {vs : List V}, TdL H vs (ns.map PyData.int) → vs = ns.map V.int
  | [], _, h => h.inv_nil
  | n :: r, _, h => by
    obtain ⟨x, xs, rfl, h1, h2⟩ := h.inv_cons
    rw [h1.inv_int, TdL.inv_ints (ns := r) h2]
    rfl
end
/-! ### the heap without the addresses S -/
def wo (S : List Addr) (H : Hp) : Hp := fun b => if b ∈ S then none else H b
section
variable {H H' : Hp} {S : List Addr} {a p : Addr} {o : HO} {v : V} {d : PyData} {xs : List V} {ds : List PyData}
theorem wo_of (h : wo S H a = some o) : H a = some o := by
  unfold wo at h
  split at h
  · cases h
  · exact h
theorem wo_out (h : a ∉ S) : wo S H a = H a := if_neg h
theorem wo_sub : Same (wo S H) H := fun _ _ h => wo_of h
theorem wo_nil : wo [] H = H := by
  funext b
  exact wo_out (List.not_mem_nil)
theorem wo_mono (s : Same H H') : Same (wo S H) (wo S H') := fun b o h => by
  have e := wo_of h
  unfold wo at h ⊢
  split at h
  · cases h
  · rename_i hb
    rw [if_neg hb]
    exact s _ _ e
theorem wo_in (h : a ∈ S) : wo S (upd H a o) = wo S H := by
  funext b
  unfold wo
  by_cases hb : b ∈ S
  · rw [if_pos hb, if_pos hb]
  · rw [if_neg hb, if_neg hb, upd_ne (fun e : b = a => hb (by rw [e]; exact h))]
theorem wo_cons : Same (wo (a :: S) H) (wo S H) := fun b o h => by
  have e := wo_of h
  unfold wo at h ⊢
  split at h
  · cases h
  · rename_i hb
    rw [if_neg (fun z => hb (List.mem_cons_of_mem _ z))]
    exact e
theorem same_upd (h : H p = none) (o : HO) : Same H (upd H p o) := fun b u q => by
  rw [upd_ne (ne_of_none q h)]
  exact q
theorem wo_upd (h : H p = none) (o : HO) : Same (wo S H) (wo S (upd H p o)) := wo_mono (same_upd h o)
/-- what S holds is tracked -/
def Out (S : List Addr) (H : Hp) : Prop := ∀ a ∈ S, H a ≠ none
theorem Out.not_mem (h : Out S H) (hp : H p = none) : p ∉ S := fun z => h p z hp
theorem Out.nil : Out [] H := fun _ h => absurd h (List.not_mem_nil)
theorem Out.mono (h : Out S H) (s : Same H H') : Out S H' := fun a m z => by
  cases e : H a with
  | none => exact h a m e
  | some o => rw [s _ _ e] at z; cases z
theorem Out.upd (h : Out S H) (o : HO) : Out S (upd H p o) := fun a m z => by
  by_cases e : a = p
  · rw [e, upd_same] at z; cases z
  · rw [upd_ne e] at z; exact h a m z
theorem Out.cons (h : Out S H) (e : H a = some o) : Out (a :: S) H := fun b m => by
  rcases List.mem_cons.mp m with q | q
  · rw [q, e]; exact fun z => nomatch z
  · exact h b q
theorem tup_new (h : Out S H) (hp : H p = none) (e : TdL (wo S H) xs ds) : Td (wo S (upd H p (.tup xs))) (.ref p) (.tuple ds) :=
  .tup ((wo_out (h.not_mem hp)).trans upd_same) (e.mono (wo_upd hp _))
theorem lst_new (h : Out S H) (hp : H p = none) (e : TdL (wo S H) xs ds) : Td (wo S (upd H p (.lst xs))) (.ref p) (.list ds) :=
  .lst ((wo_out (h.not_mem hp)).trans upd_same) (e.mono (wo_upd hp _))
end
/-! ### flat data, data of a bounded depth; lists in the place of tuples, tuples in the place of lists -/
def flatD : PyData → Bool
  | .none => true
  | .bool _ => true
  | .int _ => true
  | .str _ => true
  | _ => false
def okD : Nat → PyData → Prop
  | 0, d => flatD d = true
  | n + 1, d => match d with
    | .list ds => ds.length ≤ 1000 ∧ ∀ e ∈ ds, okD n e
    | .tuple ds => ds.length ≤ 1000 ∧ ∀ e ∈ ds, okD n e
    | d => flatD d = true
mutual
def tupD : PyData → PyData
  | .list ds => .tuple (tupDs ds)
  | .tuple ds => .tuple (tupDs ds)
  | .none => .none
  | .bool b => .bool b
  | .int i => .int i
  | .str x => .str x
  | .dict e => .dict e
def tupDs : List PyData → List PyData
  | [] => []
  | d :: ds => tupD d :: tupDs ds
end
mutual
def lstD : PyData → PyData
  | .list ds => .list (lstDs ds)
  | .tuple ds => .list (lstDs ds)
  | .none => .none
  | .bool b => .bool b
  | .int i => .int i
  | .str x => .str x
  | .dict e => .dict e
def lstDs : List PyData → List PyData
  | [] => []
  | d :: ds => lstD d :: lstDs ds
end
theorem tupDs_map : ∀ ds : List PyData, tupDs ds = ds.map tupD
  | [] => rfl
  | d :: ds => by rw [tupDs, tupDs_map ds, List.map_cons]
theorem lstDs_map : ∀ ds : List PyData, lstDs ds = ds.map lstD
  | [] => rfl
  | d :: ds => by rw [lstDs, lstDs_map ds, List.map_cons]
end K2
/-! K2T: the text by places, the scopes -/
namespace K2
open PySem L2
def topS (i : Nat) : Stmt := PySem.Challenge.pw_gonetold_k02_whole_what_stands_and_is_he.main.body.getD i (.Pass ⟨0, 0, 0, 0⟩)
abbrev s_tuple_of : Stmt := topS 4
abbrev n_tuple_of : List Str := ["thing", "part"]
theorem sc_tuple_of : FnScope ["thing", "part"] ["thing"] (defScope s_tuple_of) := ⟨rfl, rfl, rfl, by decide +kernel, rfl, by decide +kernel, by decide +kernel⟩
abbrev s_is_sound_in : Stmt := topS 6
abbrev n_is_sound_in : List Str := ["history", "many", "deed"]
theorem sc_is_sound_in : FnScope ["history", "many", "deed"] ["history"] (defScope s_is_sound_in) := ⟨rfl, rfl, rfl, by decide +kernel, rfl, by decide +kernel, by decide +kernel⟩
abbrev s_is_sound : Stmt := topS 7
abbrev n_is_sound : List Str := ["history"]
theorem sc_is_sound : FnScope ["history"] ["history"] (defScope s_is_sound) := ⟨rfl, rfl, rfl, by decide +kernel, rfl, by decide +kernel, by decide +kernel⟩
abbrev s_sure_history : Stmt := topS 8
abbrev n_sure_history : List Str := ["history", "own"]
theorem sc_sure_history : FnScope ["history", "own"] ["history"] (defScope s_sure_history) := ⟨rfl, rfl, rfl, by decide +kernel, rfl, by decide +kernel, by decide +kernel⟩
abbrev s_puts : Stmt := topS 9
abbrev n_puts : List Str := ["word", "letter"]
theorem sc_puts : FnScope ["word", "letter"] ["word"] (defScope s_puts) := ⟨rfl, rfl, rfl, by decide +kernel, rfl, by decide +kernel, by decide +kernel⟩
abbrev s_outs : Stmt := topS 10
abbrev n_outs : List Str := ["many"]
theorem sc_outs : FnScope ["many"] ["many"] (defScope s_outs) := ⟨rfl, rfl, rfl, by decide +kernel, rfl, by decide +kernel, by decide +kernel⟩
abbrev s_behind : Stmt := topS 11
abbrev n_behind : List Str := ["mode", "word", "deed"]
theorem sc_behind : FnScope ["mode", "word", "deed"] ["mode", "word", "deed"] (defScope s_behind) := ⟨rfl, rfl, rfl, by decide +kernel, rfl, by decide +kernel, by decide +kernel⟩
abbrev s_standings_in : Stmt := topS 12
abbrev n_standings_in : List Str := ["mode", "history", "found", "deed"]
theorem sc_standings_in : FnScope ["mode", "history", "found", "deed"] ["mode", "history"] (defScope s_standings_in) := ⟨rfl, rfl, rfl, by decide +kernel, rfl, by decide +kernel, by decide +kernel⟩
abbrev s_standings : Stmt := topS 13
abbrev n_standings : List Str := ["mode", "history"]
theorem sc_standings : FnScope ["mode", "history"] ["mode", "history"] (defScope s_standings) := ⟨rfl, rfl, rfl, by decide +kernel, rfl, by decide +kernel, by decide +kernel⟩
abbrev s_stands : Stmt := topS 14
abbrev n_stands : List Str := ["mode", "history"]
theorem sc_stands : FnScope ["mode", "history"] ["mode", "history"] (defScope s_stands) := ⟨rfl, rfl, rfl, by decide +kernel, rfl, by decide +kernel, by decide +kernel⟩
abbrev s_gone_in : Stmt := topS 15
abbrev n_gone_in : List Str := ["mode", "word"]
theorem sc_gone_in : FnScope ["mode", "word"] ["mode", "word"] (defScope s_gone_in) := ⟨rfl, rfl, rfl, by decide +kernel, rfl, by decide +kernel, by decide +kernel⟩
abbrev s_letters_out : Stmt := topS 16
abbrev n_letters_out : List Str := ["mode", "history", "own", "rows", "word", "deed"]
theorem sc_letters_out : FnScope ["mode", "history", "own", "rows", "word", "deed"] ["mode", "history"] (defScope s_letters_out) := ⟨rfl, rfl, rfl, by decide +kernel, rfl, by decide +kernel, by decide +kernel⟩
abbrev s_seen_in : Stmt := topS 17
abbrev n_seen_in : List Str := ["mode", "word", "shown"]
theorem sc_seen_in : FnScope ["mode", "word", "shown"] ["mode", "word", "shown"] (defScope s_seen_in) := ⟨rfl, rfl, rfl, by decide +kernel, rfl, by decide +kernel, by decide +kernel⟩
abbrev s_seen : Stmt := topS 18
abbrev n_seen : List Str := ["mode", "word", "shown"]
theorem sc_seen : FnScope ["mode", "word", "shown"] ["mode", "word", "shown"] (defScope s_seen) := ⟨rfl, rfl, rfl, by decide +kernel, rfl, by decide +kernel, by decide +kernel⟩
abbrev s_heard_along : Stmt := topS 19
abbrev n_heard_along : List Str := ["mode", "shown", "telling", "history", "own", "told", "deed", "rows", "found", "place", "heard"]
theorem sc_heard_along : FnScope ["mode", "shown", "telling", "history", "own", "told", "deed", "rows", "found", "place", "heard"] ["mode", "shown", "telling", "history"] (defScope s_heard_along) := ⟨rfl, rfl, rfl, by decide +kernel, rfl, by decide +kernel, by decide +kernel⟩
abbrev s__law_box : Stmt := topS 21
abbrev n__law_box : List Str := ["_law_script", "_law_k", "_law_cell"]
theorem sc__law_box : FnScope ["_law_script", "_law_k", "_law_cell"] ["_law_script", "_law_k"] (defScope s__law_box) := ⟨rfl, rfl, rfl, by decide +kernel, rfl, by decide +kernel, by decide +kernel⟩
abbrev s__law_take : Stmt := topS 22
abbrev n__law_take : List Str := ["_law_urn", "_law_low_so", "_law_drawn", "_law_once", "_law_far", "_law_twice"]
theorem sc__law_take : FnScope ["_law_urn", "_law_low_so", "_law_drawn", "_law_once", "_law_far", "_law_twice"] ["_law_urn", "_law_low_so"] (defScope s__law_take) := ⟨rfl, rfl, rfl, by decide +kernel, rfl, by decide +kernel, by decide +kernel⟩
abbrev s__law_cells : Stmt := topS 23
abbrev n__law_cells : List Str := ["_law_script", "_law_top", "_law_cells_here", "_law_k", "_law_cell", "_law_at_so"]
theorem sc__law_cells : FnScope ["_law_script", "_law_top", "_law_cells_here", "_law_k", "_law_cell", "_law_at_so"] ["_law_script", "_law_top"] (defScope s__law_cells) := ⟨rfl, rfl, rfl, by decide +kernel, rfl, by decide +kernel, by decide +kernel⟩
abbrev s__law_same : Stmt := topS 24
abbrev n__law_same : List Str := ["_law_got", "_law_goal", "_law_mine_so", "_law_own"]
theorem sc__law_same : FnScope ["_law_got", "_law_goal", "_law_mine_so", "_law_own"] ["_law_got", "_law_goal"] (defScope s__law_same) := ⟨rfl, rfl, rfl, by decide +kernel, rfl, by decide +kernel, by decide +kernel⟩
abbrev s__law_lists : Stmt := topS 25
abbrev n__law_lists : List Str := ["_law_matter", "_law_own"]
theorem sc__law_lists : FnScope ["_law_matter", "_law_own"] ["_law_matter"] (defScope s__law_lists) := ⟨rfl, rfl, rfl, by decide +kernel, rfl, by decide +kernel, by decide +kernel⟩
abbrev s__law_is_sound : Stmt := topS 26
abbrev n__law_is_sound : List Str := ["_law_history_here", "_law_many", "_law_deed"]
theorem sc__law_is_sound : FnScope ["_law_history_here", "_law_many", "_law_deed"] ["_law_history_here"] (defScope s__law_is_sound) := ⟨rfl, rfl, rfl, by decide +kernel, rfl, by decide +kernel, by decide +kernel⟩
abbrev s__law_rows : Stmt := topS 27
abbrev n__law_rows : List Str := ["_law_mode", "_law_history_here", "_law_rows_here", "_law_gone", "_law_deed", "_law_word", "_law_k"]
theorem sc__law_rows : FnScope ["_law_mode", "_law_history_here", "_law_rows_here", "_law_gone", "_law_deed", "_law_word", "_law_k"] ["_law_mode", "_law_history_here"] (defScope s__law_rows) := ⟨rfl, rfl, rfl, by decide +kernel, rfl, by decide +kernel, by decide +kernel⟩
abbrev s__law_seen : Stmt := topS 28
abbrev n__law_seen : List Str := ["_law_mode", "_law_word", "_law_shown", "_law_many"]
theorem sc__law_seen : FnScope ["_law_mode", "_law_word", "_law_shown", "_law_many"] ["_law_mode", "_law_word", "_law_shown"] (defScope s__law_seen) := ⟨rfl, rfl, rfl, by decide +kernel, rfl, by decide +kernel, by decide +kernel⟩
abbrev s__law_heard : Stmt := topS 29
abbrev n__law_heard : List Str := ["_law_mode", "_law_shown", "_law_telling_here", "_law_history_here", "_law_rows_here", "_law_gone", "_law_found", "_law_k", "_law_place", "_law_deed", "_law_heard_here"]
theorem sc__law_heard : FnScope ["_law_mode", "_law_shown", "_law_telling_here", "_law_history_here", "_law_rows_here", "_law_gone", "_law_found", "_law_k", "_law_place", "_law_deed", "_law_heard_here"] ["_law_mode", "_law_shown", "_law_telling_here", "_law_history_here"] (defScope s__law_heard) := ⟨rfl, rfl, rfl, by decide +kernel, rfl, by decide +kernel, by decide +kernel⟩
abbrev s__law_history : Stmt := topS 30
abbrev n__law_history : List Str := ["_law_tin", "_law_letters", "_law_most", "_law_found", "_law_many", "_law_lean", "_law_lap"]
theorem sc__law_history : FnScope ["_law_tin", "_law_letters", "_law_most", "_law_found", "_law_many", "_law_lean", "_law_lap"] ["_law_tin", "_law_letters", "_law_most"] (defScope s__law_history) := ⟨rfl, rfl, rfl, by decide +kernel, rfl, by decide +kernel, by decide +kernel⟩
abbrev s__law_telling : Stmt := topS 31
abbrev n__law_telling : List Str := ["_law_tin", "_law_letters", "_law_found", "_law_lap"]
theorem sc__law_telling : FnScope ["_law_tin", "_law_letters", "_law_found", "_law_lap"] ["_law_tin", "_law_letters"] (defScope s__law_telling) := ⟨rfl, rfl, rfl, by decide +kernel, rfl, by decide +kernel, by decide +kernel⟩
abbrev s__law_told : Stmt := topS 32
abbrev n__law_told : List Str := ["_law_mode", "_law_shown", "_law_telling_here", "_law_history_here", "error"]
theorem sc__law_told : FnScope ["_law_mode", "_law_shown", "_law_telling_here", "_law_history_here", "error"] ["_law_mode", "_law_shown", "_law_telling_here", "_law_history_here"] (defScope s__law_told) := ⟨rfl, rfl, rfl, by decide +kernel, rfl, by decide +kernel, by decide +kernel⟩
abbrev s__law_by_hand_right : Stmt := topS 33
abbrev n__law_by_hand_right : List Str := ["_law_row"]
theorem sc__law_by_hand_right : FnScope ["_law_row"] [] (defScope s__law_by_hand_right) := ⟨rfl, rfl, rfl, by decide +kernel, rfl, by decide +kernel, by decide +kernel⟩
abbrev s__law_right : Stmt := topS 34
abbrev n__law_right : List Str := ["_law_tin", "_law_letters", "_law_shown", "_law_history_here", "_law_telling_here", "_law_mode", "_law_rows_here", "_law_gone", "_law_got", "_law_more", "_law_back", "_law_k", "_law_bad", "_law_own", "_law_deed"]
theorem sc__law_right : FnScope ["_law_tin", "_law_letters", "_law_shown", "_law_history_here", "_law_telling_here", "_law_mode", "_law_rows_here", "_law_gone", "_law_got", "_law_more", "_law_back", "_law_k", "_law_bad", "_law_own", "_law_deed"] ["_law_tin"] (defScope s__law_right) := ⟨rfl, rfl, rfl, by decide +kernel, rfl, by decide +kernel, by decide +kernel⟩
abbrev s_law : Stmt := topS 35
abbrev n_law : List Str := ["_law_script"]
theorem sc_law : FnScope ["_law_script"] ["_law_script"] (defScope s_law) := ⟨rfl, rfl, rfl, by decide +kernel, rfl, by decide +kernel, by decide +kernel⟩
abbrev s_init : Stmt := inClass (topS 1) 0
end K2
/-! K2B: tuple_of, lists -/
namespace K2
open PySem PySem.Spec PyProof.Rows L2
/-! ### kinds -/
def tyN : PyData → String
  | .none => "NoneType"
  | .bool _ => "bool"
  | .int _ => "int"
  | .str _ => "str"
  | .list _ => "list"
  | .tuple _ => "tuple"
  | .dict _ => "dict"
theorem Td.ty {K : PySem.W.Frag} {H : Hp} {x : V} {d : PyData} (h : Td H x d) : TyX K H x (.type (tyN d)) := by
  cases h with
  | non => exact .base .non
  | bl b => exact .base (.bl b)
  | int i => exact .base (.int i)
  | str s => exact .base (.str s)
  | lst e _ => exact .base (.lst e)
  | tup e _ => exact .base (.tup e)
def isSeq : PyData → Bool
  | .list _ => true
  | .tuple _ => true
  | _ => false
theorem kit_no {K : PySem.W.Frag} {a : String} (h1 : kitB a "list" = some false) (h2 : kitB a "tuple" = some false) : PySem.W.kitAny K (.type a) [.type "list", .type "tuple"] = some false :=
  kitAny_cons (b := false) (kit_ty h1) (fun _ => kitAny_cons (b := false) (kit_ty h2) (fun _ => kitAny_nil) (fun z => nomatch z)) (fun z => nomatch z)
theorem kit_seq {K : PySem.W.Frag} {H : Hp} {x : V} {d : PyData} (h : Td H x d) : PySem.W.kitAny K (.type (tyN d)) [.type "list", .type "tuple"] = some (isSeq d) := by
  cases h with
  | non => exact kit_no (a := "NoneType") (by decide +kernel) (by decide +kernel)
  | bl b => exact kit_no (a := "bool") (by decide +kernel) (by decide +kernel)
  | int i => exact kit_no (a := "int") (by decide +kernel) (by decide +kernel)
  | str s => exact kit_no (a := "str") (by decide +kernel) (by decide +kernel)
  | lst e _ => exact kitAny_cons (b := true) (kit_ty (a := "list") (by decide +kernel)) (fun z => nomatch z) (fun _ => rfl)
  | tup e _ => exact kitAny_cons (b := false) (kit_ty (a := "tuple") (by decide +kernel)) (fun _ => kitAny_cons (b := true) (kit_ty (a := "tuple") (by decide +kernel)) (fun z => nomatch z) (fun _ => rfl)) (fun z => nomatch z)
/-- (list, tuple) -/
abbrev clsLT : List V := [.ty "list", .ty "tuple"]
theorem clsLT_ok : Paired ClsV clsLT [.type "list", .type "tuple"] := .cons (.ty _) (.cons (.ty _) .nil)
/-! ### promises -/
def spTup (n : Nat) : Sp := fun vs H Q _ => ∃ (S : List Addr) (x : V) (d : PyData), vs = [x] ∧ Out S H ∧ Td (wo S H) x d ∧ okD n d ∧ ∀ v H', Same H H' → Td (wo S H') v (tupD d) → Q v H'
theorem tupD_flat : ∀ {d : PyData}, isSeq d = false → tupD d = d
  | .none, _ => rfl
  | .bool _, _ => rfl
  | .int _, _ => rfl
  | .str _, _ => rfl
  | .dict _, _ => rfl
  | .list _, h => nomatch h
  | .tuple _, h => nomatch h
theorem small {n : Nat} (h : n ≤ 1000) : n < sizeLine := small1000 h
/-! ### a comprehension that makes one thing of each item -/
/-- what a walk over J asks: an invariant by the turn and a measure; where J stops D's next way, else a turn -/
abbrev ForAt (J : It) (g : TG) (tb : TS) (D : Ends) (σ : L2.St) (H : Hp) : Prop :=
  ∃ inv : Nat → Nat → L2.St → Hp → Prop, (∃ k, inv 0 k σ H) ∧
    ∀ n k τ G, inv n k τ G →
      (J.stop n G ∧ D.nx τ G) ∨
      (J.go n G ∧ ∃ aim : L2.St → Hp → Prop, (∀ τ' G', aim τ' G' → ∃ k', k' < k ∧ inv (n + 1) k' τ' G') ∧
        ∀ v G', J.yld n G v G' → g v τ G' fun τ2 G2 => tb { D with nx := aim, ct := aim, bk := D.nx } τ2 G2)
/-- what a comprehension over J asks, its new list at D, its own slots own -/
abbrev LcAt (J : It) (g : TG) (tt : TT) (te : TE) (own : List Nat) (σ : L2.St) (H0 : Hp) (D : Addr) (Qd : Hp → Prop) : Prop :=
  ∃ inv : Nat → Nat → Hp → Prop, (∃ k, inv 0 k (upd H0 D (.lst []))) ∧
    ∀ n k G, inv n k G →
      (J.stop n G ∧ Qd G) ∨
      (J.go n G ∧ ∃ aim : Hp → Prop, (∀ G', aim G' → ∃ k', k' < k ∧ inv (n + 1) k' G') ∧
        ∀ v G', J.yld n G v G' → g v (wipe σ own) G' fun τ G2 => wipe τ own = wipe σ own ∧
          tt τ G2 fun c G3 => if c = true then te τ G3 fun z G4 => ∃ l, G4 D = some (.lst l) ∧ l.length < sizeLine ∧ aim (upd G4 D (.lst (l ++ [z]))) else aim G3)
theorem lc_eachL {K : PySem.W.Frag} {a D : Addr} {xs : List V} {ds : List PyData} {G : PyData → PyData} {g : TG} {te : TE} {vs : List Nat} {σ : L2.St} {H1 : Hp} {S : List Addr} {Qd : Hp → Prop}
    (hS : Out S H1) (hD : H1 D = none) (ha : H1 a = some (.lst xs)) (hx : TdL (wo S H1) xs ds) (hl : ds.length ≤ 1000)
    (hs : ∀ x d H2 (R : VK), d ∈ ds → Same H1 H2 → Out (D :: S) H2 → Td (wo (D :: S) H2) x d → (∀ y H4, Same H2 H4 → Td (wo (D :: S) H4) y (G d) → R y H4) →
      g x (wipe σ vs) H2 fun σ2 H3 => wipe σ2 vs = wipe σ vs ∧ te σ2 H3 R)
    (hd : ∀ H2 ys, Same H1 H2 → H2 D = some (.lst ys) → TdL (wo (D :: S) H2) ys (ds.map G) → Qd H2) :
    LcAt (Itl K a) g tYes te vs σ H1 D Qd := by
  have hlen := hx.length
  have hDS := hS.not_mem hD
  refine lc_list (xs := xs) (fun i H => Same H1 H ∧ ∃ ys, H D = some (.lst ys) ∧ TdL (wo (D :: S) H) ys ((ds.map G).take i)) ⟨same_upd hD _, [], upd_same, ?_⟩ (fun i H _ h => SqL.of (h.1 _ _ ha)) (fun i x H hi h => ?_) (fun H h => ?_)
  · exact .nil
  · obtain ⟨sm, ys, eD, hy⟩ := h
    obtain ⟨d, hd1, hxd⟩ := hx.got hi
    have hw : Same (wo S H1) (wo (D :: S) H) := fun b o e => by
      have e1 := wo_of e
      have nb : b ≠ D := ne_of_none e1 hD
      have e2 := wo_mono (S := S) sm _ _ e
      have e3 : b ∉ S := fun z => by
        have e4 : wo S H1 b = none := if_pos z
        rw [e] at e4; cases e4
      rw [wo_out (fun z => (List.mem_cons.mp z).elim nb e3)]
      exact wo_of e2
    have hO : Out (D :: S) H := (hS.mono sm).cons eD
    refine hs x d H _ (List.mem_of_getElem? hd1) sm hO (hxd.mono hw) (fun y H4 s4 hy4 => ⟨ys, s4 _ _ eD, ?_, ?_⟩)
    · rw [hy.length, List.length_take, List.length_map]
      exact Nat.lt_of_le_of_lt (Nat.min_le_right _ _) (small hl)
    · refine ⟨fun b o e => ?_, _, upd_same, ?_⟩
      · rw [upd_ne (ne_of_none e hD)]
        exact s4 _ _ (sm _ _ e)
      · rw [wo_in List.mem_cons_self, List.take_add_one, List.getElem?_map, hd1]
        exact (hy.mono (wo_mono s4)).append (.one hy4)
  · obtain ⟨sm, ys, eD, hy⟩ := h
    refine hd H ys sm eD ?_
    rw [hlen, ← List.length_map (f := G), List.take_length] at hy
    exact hy
theorem lc_eachT {K : PySem.W.Frag} {a D : Addr} {xs : List V} {ds : List PyData} {G : PyData → PyData} {g : TG} {te : TE} {vs : List Nat} {σ : L2.St} {H1 : Hp} {S : List Addr} {Qd : Hp → Prop}
    (hS : Out S H1) (hD : H1 D = none) (ha : H1 a = some (.tup xs)) (hx : TdL (wo S H1) xs ds) (hl : ds.length ≤ 1000)
    (hs : ∀ x d H2 (R : VK), d ∈ ds → Same H1 H2 → Out (D :: S) H2 → Td (wo (D :: S) H2) x d → (∀ y H4, Same H2 H4 → Td (wo (D :: S) H4) y (G d) → R y H4) →
      g x (wipe σ vs) H2 fun σ2 H3 => wipe σ2 vs = wipe σ vs ∧ te σ2 H3 R)
    (hd : ∀ H2 ys, Same H1 H2 → H2 D = some (.lst ys) → TdL (wo (D :: S) H2) ys (ds.map G) → Qd H2) :
    LcAt (Itt K a) g tYes te vs σ H1 D Qd := by
  have hlen := hx.length
  have hDS := hS.not_mem hD
  refine lc_tup (xs := xs) (fun i H => Same H1 H ∧ ∃ ys, H D = some (.lst ys) ∧ TdL (wo (D :: S) H) ys ((ds.map G).take i)) ⟨same_upd hD _, [], upd_same, ?_⟩ (fun i H _ h => SqT.of (h.1 _ _ ha)) (fun i x H hi h => ?_) (fun H h => ?_)
  · exact .nil
  · obtain ⟨sm, ys, eD, hy⟩ := h
    obtain ⟨d, hd1, hxd⟩ := hx.got hi
    have hw : Same (wo S H1) (wo (D :: S) H) := fun b o e => by
      have e1 := wo_of e
      have nb : b ≠ D := ne_of_none e1 hD
      have e2 := wo_mono (S := S) sm _ _ e
      have e3 : b ∉ S := fun z => by
        have e4 : wo S H1 b = none := if_pos z
        rw [e] at e4; cases e4
      rw [wo_out (fun z => (List.mem_cons.mp z).elim nb e3)]
      exact wo_of e2
    have hO : Out (D :: S) H := (hS.mono sm).cons eD
    refine hs x d H _ (List.mem_of_getElem? hd1) sm hO (hxd.mono hw) (fun y H4 s4 hy4 => ⟨ys, s4 _ _ eD, ?_, ?_⟩)
    · rw [hy.length, List.length_take, List.length_map]
      exact Nat.lt_of_le_of_lt (Nat.min_le_right _ _) (small hl)
    · refine ⟨fun b o e => ?_, _, upd_same, ?_⟩
      · rw [upd_ne (ne_of_none e hD)]
        exact s4 _ _ (sm _ _ e)
      · rw [wo_in List.mem_cons_self, List.take_add_one, List.getElem?_map, hd1]
        exact (hy.mono (wo_mono s4)).append (.one hy4)
  · obtain ⟨sm, ys, eD, hy⟩ := h
    refine hd H ys sm eD ?_
    rw [hlen, ← List.length_map (f := G), List.take_length] at hy
    exact hy
section
variable {P : Program} {w : World} {K : PySem.W.Frag} {mg : Str → Option Value} {base : Heap} {f : Addr} {fd : FuncData}
theorem okD_list {n : Nat} {ds : List PyData} (h : okD n (.list ds)) : ∃ m, n = m + 1 ∧ ds.length ≤ 1000 ∧ ∀ e ∈ ds, okD m e := by
  cases n with
  | zero => exact nomatch (show false = true from h)
  | succ m => exact ⟨m, rfl, h.1, h.2⟩
theorem okD_tuple {n : Nat} {ds : List PyData} (h : okD n (.tuple ds)) : ∃ m, n = m + 1 ∧ ds.length ≤ 1000 ∧ ∀ e ∈ ds, okD m e := by
  cases n with
  | zero => exact nomatch (show false = true from h)
  | succ m => exact ⟨m, rfl, h.1, h.2⟩
theorem okD_mono : ∀ {n m : Nat} {d : PyData}, okD n d → n ≤ m → okD m d
  | n, m, .none, _, _ => by cases m <;> rfl
  | n, m, .bool _, _, _ => by cases m <;> rfl
  | n, m, .int _, _, _ => by cases m <;> rfl
  | n, m, .str _, _, _ => by cases m <;> rfl
  | n, m, .dict _, h, _ => by cases n <;> exact nomatch (show false = true from h)
  | n + 1, m + 1, .list ds, h, l => ⟨h.1, fun e he => okD_mono (h.2 e he) (by omega)⟩
  | n + 1, m + 1, .tuple ds, h, l => ⟨h.1, fun e he => okD_mono (h.2 e he) (by omega)⟩
  | 0, _, .list ds, h, _ => nomatch (show false = true from h)
  | 0, _, .tuple ds, h, _ => nomatch (show false = true from h)
  | n + 1, 0, .list ds, h, l => absurd l (by omega)
  | n + 1, 0, .tuple ds, h, l => absurd l (by omega)
theorem ok_tuple_of (F : Fun K "tuple_of" "tuple_of" s_tuple_of f fd) (bF : Binds K fd ["thing"] []) (gF : mg "tuple_of" = some (.ref f)) (mi : mg "isinstance" = none) (ml : mg "list" = none) (mt : mg "tuple" = none) :
    ∀ n, FnOk P w K mg base CX0 (n + 1) f fd ["thing"] (spTup n) := by
  have flat : ∀ (cdv : Value) (A : Around) (outer : List Env) (s : Shared) (H : Hp) (vs : List V) (Q : VK) (E : XK) (S : List Addr) (x : V) (d : PyData), vs = [x] → Out S H → Td (wo S H) x d → isSeq d = false → (∀ v H', Same H H' → Td (wo S H') v (tupD d) → Q v H') →
      ∃ t, PSs (cxOf CX0 P w K mg base n_tuple_of "tuple_of" (defScope s_tuple_of) f cdv A outer s H E).nox (defBody s_tuple_of) t ∧ t { nx := fun _ H' => Q .non H', rt := Q } (L2.start n_tuple_of vs) H := by
    intro cdv A outer s H vs Q E S x d hv hS hx hf q
    subst hv
    refine ⟨_, pss_cons (ps_if (pt_val (pe_callB call_isiT (by rfl) mi (by decide +kernel) (pa_cons (pv 0) (pa_cons (pe_tup (pa_cons (pe_bltn (v := .ty "list") (by rfl) ml (by decide +kernel) rfl) (pa_cons (pe_bltn (v := .ty "tuple") (by rfl) mt (by decide +kernel) rfl) pa_nil))) pa_nil)))) pss_never pss_nil)
      (pss_one (ps_ret (pv 0))), ?_⟩
    refine ⟨x, rfl, by show 2 ≤ sizeLine; decide, fun p hp => ?_⟩
    have hy := (hx.mono wo_sub).mono (same_upd hp (.tup clsLT))
    refine ⟨x, p, _, _, _, _, rfl, upd_same, clsLT_ok, hy.ty, kit_seq hy, _, rfl, ?_⟩
    rw [hf]
    refine iteF ⟨x, rfl, q _ _ (same_upd hp _) ?_⟩
    rw [tupD_flat hf]
    exact hx.mono (wo_upd hp _)
  have nd := sc_tuple_of.nd
  intro n
  induction n with
  | zero =>
    refine F.ok sc_tuple_of (fun vs H Q E h => ?_) (fun cdv A outer s H vs Q E hr h => ?_)
    · obtain ⟨S, x, d, rfl, _⟩ := h
      rfl
    obtain ⟨S, x, d, hv, hS, hx, ho, q⟩ := h
    exact flat cdv A outer s H vs Q E S x d hv hS hx (by cases d <;> first | rfl | exact nomatch (show false = true from ho)) q
  | succ n ih =>
    refine F.ok sc_tuple_of (fun vs H Q E h => ?_) (fun cdv A outer s H vs Q E hr h => ?_)
    · obtain ⟨S, x, d, rfl, _⟩ := h
      rfl
    obtain ⟨S, x, d, hv, hS, hx, ho, q⟩ := h
    cases d with
    | list ds =>
      subst hv
      obtain ⟨a, xs, rfl, ha, hxs⟩ := hx.inv_lst
      obtain ⟨hl, hds⟩ := ho
      refine ⟨_, pss_cons (ps_if (pt_val (pe_callB call_isiT (by rfl) mi (by decide +kernel) (pa_cons (pv 0) (pa_cons (pe_tup (pa_cons (pe_bltn (v := .ty "list") (by rfl) ml (by decide +kernel) rfl) (pa_cons (pe_bltn (v := .ty "tuple") (by rfl) mt (by decide +kernel) rfl) pa_nil))) pa_nil))))
        (pss_one (ps_ret (pe_callTy call_tuple_of (by rfl) mt (by decide +kernel) (pa_cons (pe_lc (own := [("part", 1)]) (g := gName 1) (tt := tYes) (by rfl) nd (pi_list (pv 0)) (blkOk_by (N := n_tuple_of) (sc := defScope s_tuple_of) (by decide +kernel)) (fun _ _ _ _ _ => pg_name (i := 1) nd rfl (Or.inl rfl)) (fun _ _ _ _ _ => pts_nil)
          (fun _ _ _ _ _ => pe_call ih hr (by rfl) gF F.kp bF .nil pass0 (pa_cons (pv 1) pa_nil))) pa_nil)))) pss_nil)
        pss_never, ?_⟩
      refine ⟨.ref a, rfl, by show 2 ≤ sizeLine; decide, fun p hp => ?_⟩
      have s1 := same_upd hp (.tup clsLT)
      have hy := (hx.mono wo_sub).mono s1
      refine ⟨.ref a, p, _, _, _, _, rfl, upd_same, clsLT_ok, hy.ty, kit_seq hy, _, rfl, iteT ?_⟩
      refine ⟨.ref a, rfl, a, rfl, ⟨xs, SqL.of (s1 _ _ (wo_of ha))⟩, fun D hD => ?_⟩
      refine lc_eachL (S := S) (G := tupD) (hS.mono s1) hD (s1 _ _ (wo_of ha)) (hxs.mono (wo_mono s1)) hl (fun y d H2 R hd sm hO hyd hR => ?_) (fun H2 ys sm eD hys => ?_)
      · refine ⟨rfl, y, rfl, D :: S, y, d, rfl, hO, hyd, hds d hd, hR⟩
      · refine ⟨D, ys, rfl, .inl ⟨SqL.of eD, fun l hl2 => q _ _ ((s1.trans sm).trans (same_upd hl2 _)) ?_⟩⟩
        rw [tupD, tupDs_map]
        exact tup_new ((hS.mono s1).mono sm) hl2 (hys.mono wo_cons)
    | tuple ds =>
      subst hv
      obtain ⟨a, xs, rfl, ha, hxs⟩ := hx.inv_tup
      obtain ⟨hl, hds⟩ := ho
      refine ⟨_, pss_cons (ps_if (pt_val (pe_callB call_isiT (by rfl) mi (by decide +kernel) (pa_cons (pv 0) (pa_cons (pe_tup (pa_cons (pe_bltn (v := .ty "list") (by rfl) ml (by decide +kernel) rfl) (pa_cons (pe_bltn (v := .ty "tuple") (by rfl) mt (by decide +kernel) rfl) pa_nil))) pa_nil))))
        (pss_one (ps_ret (pe_callTy call_tuple_of (by rfl) mt (by decide +kernel) (pa_cons (pe_lc (own := [("part", 1)]) (g := gName 1) (tt := tYes) (by rfl) nd (pi_tup (pv 0)) (blkOk_by (N := n_tuple_of) (sc := defScope s_tuple_of) (by decide +kernel)) (fun _ _ _ _ _ => pg_name (i := 1) nd rfl (Or.inl rfl)) (fun _ _ _ _ _ => pts_nil)
          (fun _ _ _ _ _ => pe_call ih hr (by rfl) gF F.kp bF .nil pass0 (pa_cons (pv 1) pa_nil))) pa_nil)))) pss_nil)
        pss_never, ?_⟩
      refine ⟨.ref a, rfl, by show 2 ≤ sizeLine; decide, fun p hp => ?_⟩
      have s1 := same_upd hp (.tup clsLT)
      have hy := (hx.mono wo_sub).mono s1
      refine ⟨.ref a, p, _, _, _, _, rfl, upd_same, clsLT_ok, hy.ty, kit_seq hy, _, rfl, iteT ?_⟩
      refine ⟨.ref a, rfl, a, rfl, ⟨xs, SqT.of (s1 _ _ (wo_of ha))⟩, fun D hD => ?_⟩
      refine lc_eachT (S := S) (G := tupD) (hS.mono s1) hD (s1 _ _ (wo_of ha)) (hxs.mono (wo_mono s1)) hl (fun y d H2 R hd sm hO hyd hR => ?_) (fun H2 ys sm eD hys => ?_)
      · refine ⟨rfl, y, rfl, D :: S, y, d, rfl, hO, hyd, hds d hd, hR⟩
      · refine ⟨D, ys, rfl, .inl ⟨SqL.of eD, fun l hl2 => q _ _ ((s1.trans sm).trans (same_upd hl2 _)) ?_⟩⟩
        rw [tupD, tupDs_map]
        exact tup_new ((hS.mono s1).mono sm) hl2 (hys.mono wo_cons)
    | none => exact flat cdv A outer s H vs Q E S x _ hv hS hx rfl q
    | bool _ => exact flat cdv A outer s H vs Q E S x _ hv hS hx rfl q
    | int _ => exact flat cdv A outer s H vs Q E S x _ hv hS hx rfl q
    | str _ => exact flat cdv A outer s H vs Q E S x _ hv hS hx rfl q
    | dict _ => exact nomatch (show false = true from ho)
end
end K2
/-! K2M: the plain functions: what stands, goes, is seen and heard; their facts. A deed is an Option Int: some l (l came in), none (a letter went out). q: the mode is queue -/
namespace K2
open PySem
def dd : Option Int → PyData
  | some l => .tuple [.str "in", .int l]
  | none => .tuple [.str "out"]
def hist (hs : List (Option Int)) : PyData := .tuple (hs.map dd)
def word (ws : List Int) : PyData := .tuple (ws.map .int)
def md (q : Bool) : Str := if q then "queue" else "pile"
/-- what stands behind a deed -/
def beh (q : Bool) (ws : List Int) : Option Int → List Int
  | some l => ws ++ [l]
  | none => if q then ws.drop 1 else ws.dropLast
/-- what stands behind the first i deeds -/
def stt (q : Bool) (hs : List (Option Int)) (i : Nat) : List Int := (hs.take i).foldl (beh q) []
def rowsR (q : Bool) (hs : List (Option Int)) (n : Nat) : List (List Int) := (List.range n).map (stt q hs)
def rows (q : Bool) (hs : List (Option Int)) : List (List Int) := rowsR q hs (hs.length + 1)
/-- the letter at the open end -/
def gone1 (q : Bool) (ws : List Int) : Int := if q then ws.headD 0 else ws.getLastD 0
def goneAt (q : Bool) (hs : List (Option Int)) (i : Nat) : List Int := match hs[i]? with
  | some none => [gone1 q (stt q hs i)]
  | _ => []
/-- the letters that went out by the first n deeds -/
def goneR (q : Bool) (hs : List (Option Int)) : Nat → List Int
  | 0 => []
  | n + 1 => goneR q hs n ++ goneAt q hs n
def seenW (q : Bool) (ws : List Int) (k : Nat) : List Int := if q then ws.take k else ws.drop (ws.length - k)
def heardD (q : Bool) (tel : List Int) (hs : List (Option Int)) (i : Nat) : PyData := match hs[i]? with
  | some (some l) => dd (some l)
  | _ => .tuple [.str "out", .int (tel.getD (gone1 q (stt q hs i) - 1).toNat 0)]
def heard1 (q : Bool) (k : Nat) (tel : List Int) (hs : List (Option Int)) (i : Nat) : PyData := .tuple [heardD q tel hs i, word (seenW q (stt q hs (i + 1)) k)]
def heardR (q : Bool) (k : Nat) (tel : List Int) (hs : List (Option Int)) (n : Nat) : List PyData := (List.range n).map (heard1 q k tel hs)
/-- how many stand -/
def bl (hs : List (Option Int)) (i : Nat) : Int := (hs.take i).foldl (fun m d => match d with | some _ => m + 1 | none => m - 1) 0
def soundTo (hs : List (Option Int)) (n : Nat) : Prop := ∀ j, j < n → 0 ≤ bl hs (j + 1)
def sound (hs : List (Option Int)) : Prop := soundTo hs hs.length
/-- all letters are letters, up to L -/
def lets (L : Nat) (hs : List (Option Int)) : Prop := ∀ l, some l ∈ hs → 1 ≤ l ∧ l ≤ (L : Int)
section
variable {q : Bool} {hs : List (Option Int)} {i n : Nat} {d : Option Int} {ws : List Int}
theorem stt_zero : stt q hs 0 = [] := rfl
theorem stt_succ (h : hs[i]? = some d) : stt q hs (i + 1) = beh q (stt q hs i) d := by
  unfold stt
  rw [List.take_add_one, h, Option.toList_some, List.foldl_append]
  rfl
theorem bl_zero : bl hs 0 = 0 := rfl
theorem bl_in {l : Int} (h : hs[i]? = some (some l)) : bl hs (i + 1) = bl hs i + 1 := by
  unfold bl
  rw [List.take_add_one, h, Option.toList_some, List.foldl_append]
  rfl
theorem bl_out (h : hs[i]? = some none) : bl hs (i + 1) = bl hs i - 1 := by
  unfold bl
  rw [List.take_add_one, h, Option.toList_some, List.foldl_append]
  rfl
theorem at_of_lt (h : i < hs.length) : ∃ d, hs[i]? = some d := ⟨_, List.getElem?_eq_getElem h⟩
theorem beh_len_in {l : Int} : (beh q ws (some l)).length = ws.length + 1 := by
  unfold beh
  rw [List.length_append]
  rfl
theorem beh_len_out : (beh q ws none).length = ws.length - 1 := by
  unfold beh
  cases q
  · show ws.dropLast.length = _
    rw [List.length_dropLast]
  · show (ws.drop 1).length = _
    rw [List.length_drop]
/-- as many stand as came in less those that went -/
theorem stt_len : ∀ i, soundTo hs i → i ≤ hs.length → ((stt q hs i).length : Int) = bl hs i
  | 0, _, _ => rfl
  | i + 1, h, hl => by
    have ih := stt_len i (fun j hj => h j (by omega)) (by omega)
    have hb := h i (by omega)
    obtain ⟨d, hd⟩ := at_of_lt (hs := hs) (i := i) (by omega)
    rw [stt_succ hd]
    cases d with
    | some l =>
      rw [bl_in hd, beh_len_in]
      omega
    | none =>
      rw [bl_out hd] at hb ⊢
      rw [beh_len_out]
      omega
theorem stt_le : ∀ i, (stt q hs i).length ≤ i
  | 0 => Nat.le_refl _
  | i + 1 => by
    have ih := stt_le i
    cases hd : hs[i]? with
    | none =>
      have e : stt q hs (i + 1) = stt q hs i := by
        unfold stt
        rw [List.take_add_one, hd, Option.toList_none, List.append_nil]
      rw [e]
      omega
    | some d =>
      rw [stt_succ hd]
      cases d with
      | some l => rw [beh_len_in]; omega
      | none => rw [beh_len_out]; omega
/-- at an out something stands -/
theorem stt_ne (h : sound hs) (hd : hs[i]? = some none) : stt q hs i ≠ [] := fun z => by
  have hl : i < hs.length := (List.getElem?_eq_some_iff.mp hd).1
  have e := stt_len (q := q) i (fun j hj => h j (by omega)) (by omega)
  have hb := h i hl
  rw [z] at e
  rw [bl_out hd] at hb
  have e' : (0 : Int) = bl hs i := e
  omega
theorem beh_mem {x : Int} (h : x ∈ beh q ws d) : x ∈ ws ∨ d = some x := by
  cases d with
  | some l =>
    rcases List.mem_append.mp (show x ∈ ws ++ [l] from h) with z | z
    · exact .inl z
    · rw [List.mem_singleton.mp z]; exact .inr rfl
  | none =>
    left
    unfold beh at h
    cases q
    · exact List.dropLast_subset _ h
    · exact List.mem_of_mem_drop h
/-- what stands came in -/
theorem stt_mem : ∀ i {x : Int}, x ∈ stt q hs i → some x ∈ hs
  | 0, x, h => nomatch h
  | i + 1, x, h => by
    cases hd : hs[i]? with
    | none =>
      have e : stt q hs (i + 1) = stt q hs i := by
        unfold stt
        rw [List.take_add_one, hd, Option.toList_none, List.append_nil]
      rw [e] at h
      exact stt_mem i h
    | some d =>
      rw [stt_succ hd] at h
      rcases beh_mem h with z | z
      · exact stt_mem i z
      · rw [z] at hd; exact List.mem_of_getElem? hd
theorem gone1_mem (h : ws ≠ []) : gone1 q ws ∈ ws := by
  cases ws with
  | nil => exact absurd rfl h
  | cons a r =>
    unfold gone1
    cases q
    · show (a :: r).getLastD 0 ∈ a :: r
      rw [List.getLastD_eq_getLast?, List.getLast?_eq_some_getLast h]
      exact List.getLast_mem h
    · exact List.mem_cons_self
theorem gone_lets {L : Nat} (h : sound hs) (hl : lets L hs) (hd : hs[i]? = some none) : 1 ≤ gone1 q (stt q hs i) ∧ gone1 q (stt q hs i) ≤ (L : Int) := hl _ (stt_mem i (gone1_mem (stt_ne h hd)))
theorem rowsR_succ : rowsR q hs (n + 1) = rowsR q hs n ++ [stt q hs n] := by
  unfold rowsR
  rw [List.range_succ, List.map_append]
  rfl
theorem rowsR_len : (rowsR q hs n).length = n := by simp [rowsR]
theorem rowsR_at (h : i < n) : (rowsR q hs n)[i]? = some (stt q hs i) := by
  unfold rowsR
  rw [List.getElem?_map, List.getElem?_range h]
  rfl
theorem heardR_succ {k : Nat} {tel : List Int} : heardR q k tel hs (n + 1) = heardR q k tel hs n ++ [heard1 q k tel hs n] := by
  unfold heardR
  rw [List.range_succ, List.map_append]
  rfl
theorem heardR_len {k : Nat} {tel : List Int} : (heardR q k tel hs n).length = n := by
  simp [heardR]
theorem goneR_len : ∀ n, (goneR q hs n).length ≤ n
  | 0 => Nat.le_refl _
  | n + 1 => by
    have ih := goneR_len n
    have e : (goneAt q hs n).length ≤ 1 := by
      unfold goneAt
      split
      · exact Nat.le_refl _
      · exact Nat.zero_le _
    show (goneR q hs n ++ goneAt q hs n).length ≤ n + 1
    rw [List.length_append]
    omega
theorem goneR_in {l : Int} (h : hs[i]? = some (some l)) : goneR q hs (i + 1) = goneR q hs i := by
  show goneR q hs i ++ goneAt q hs i = _
  unfold goneAt
  rw [h]
  exact List.append_nil _
theorem goneR_out (h : hs[i]? = some none) : goneR q hs (i + 1) = goneR q hs i ++ [gone1 q (stt q hs i)] := by
  show goneR q hs i ++ goneAt q hs i = _
  unfold goneAt
  rw [h]
theorem goneR_more : ∀ k, ∃ r, goneR q hs (i + k) = goneR q hs i ++ r
  | 0 => ⟨[], (List.append_nil _).symm⟩
  | k + 1 => by
    obtain ⟨r, e⟩ := goneR_more k
    refine ⟨r ++ goneAt q hs (i + k), ?_⟩
    show goneR q hs (i + k) ++ goneAt q hs (i + k) = _
    rw [e, List.append_assoc]
theorem goneR_at (h : hs[i]? = some none) (hl : i < n) : (goneR q hs n)[(goneR q hs i).length]? = some (gone1 q (stt q hs i)) := by
  obtain ⟨r, e⟩ := goneR_more (q := q) (hs := hs) (i := i + 1) (n - (i + 1))
  rw [show i + 1 + (n - (i + 1)) = n by omega] at e
  rw [e, goneR_out h, List.append_assoc, List.getElem?_append_right (Nat.le_refl _), Nat.sub_self]
  rfl
/-! ### histories that grow -/
theorem bl_app {es : List (Option Int)} (h : i ≤ hs.length) : bl (hs ++ es) i = bl hs i := by
  unfold bl
  rw [List.take_append_of_le_length h]
theorem sound_nil : sound [] := fun j hj => absurd hj (Nat.not_lt_zero j)
theorem bl_snoc_in {l : Int} : bl (hs ++ [some l]) (hs ++ [some l]).length = bl hs hs.length + 1 := by
  rw [List.length_append]
  show bl (hs ++ [some l]) (hs.length + 1) = _
  rw [bl_in (l := l) (by rw [List.getElem?_append_right (Nat.le_refl _), Nat.sub_self]; rfl), bl_app (Nat.le_refl _)]
theorem bl_snoc_out : bl (hs ++ [none]) (hs ++ [none]).length = bl hs hs.length - 1 := by
  rw [List.length_append]
  show bl (hs ++ [none]) (hs.length + 1) = _
  rw [bl_out (by rw [List.getElem?_append_right (Nat.le_refl _), Nat.sub_self]; rfl), bl_app (Nat.le_refl _)]
theorem sound_snoc (h : sound hs) (hb : 0 ≤ bl (hs ++ [d]) (hs ++ [d]).length) : sound (hs ++ [d]) := fun j hj => by
  rw [List.length_append] at hj hb
  have hj' : j < hs.length + 1 := hj
  by_cases e : j = hs.length
  · rw [e]; exact hb
  · rw [bl_app (by omega)]
    exact h j (by omega)
theorem lets_nil {L : Nat} : lets L [] := fun _ h => nomatch h
theorem lets_snoc_in {L : Nat} {l : Int} (h : lets L hs) (h1 : 1 ≤ l) (h2 : l ≤ (L : Int)) : lets L (hs ++ [some l]) := fun x hx => by
  rcases List.mem_append.mp hx with z | z
  · exact h x z
  · rw [Option.some.inj (List.mem_singleton.mp z)]; exact ⟨h1, h2⟩
theorem lets_snoc_out {L : Nat} (h : lets L hs) : lets L (hs ++ [none]) := fun x hx => by
  rcases List.mem_append.mp hx with z | z
  · exact h x z
  · exact nomatch (List.mem_singleton.mp z)
/-! ### puts and as many outs -/
def putOut (ws : List Int) : List (Option Int) := ws.map some ++ List.replicate ws.length none
theorem putOut_len : (putOut ws).length = ws.length + ws.length := by
  simp [putOut]
theorem putOut_in (h : i < ws.length) : (putOut ws)[i]? = some (some ws[i]) := by
  unfold putOut
  rw [List.getElem?_append_left (by rw [List.length_map]; exact h), List.getElem?_map, List.getElem?_eq_getElem h]
  rfl
theorem putOut_out (h : ws.length ≤ i) (h2 : i < ws.length + ws.length) : (putOut ws)[i]? = some none := by
  unfold putOut
  rw [List.getElem?_append_right (by rw [List.length_map]; exact h), List.length_map, List.getElem?_replicate, if_pos (by omega)]
theorem bl_putOut : ∀ i, i ≤ ws.length + ws.length → bl (putOut ws) i = if i ≤ ws.length then (i : Int) else 2 * (ws.length : Int) - i
  | 0, _ => by rw [if_pos (Nat.zero_le _)]; rfl
  | i + 1, h => by
    have ih := bl_putOut i (by omega)
    by_cases c : i < ws.length
    · rw [bl_in (putOut_in c), ih, if_pos (by omega), if_pos (by omega)]
      omega
    · rw [bl_out (putOut_out (by omega) (by omega)), ih, if_neg (by omega : ¬ i + 1 ≤ ws.length)]
      split <;> omega
theorem sound_putOut : sound (putOut ws) := fun j hj => by
  rw [putOut_len] at hj
  rw [bl_putOut (j + 1) (by omega)]
  split <;> omega
theorem stt_putOut : stt q (putOut ws) (putOut ws).length = [] := by
  have e := stt_len (q := q) (hs := putOut ws) (putOut ws).length sound_putOut (Nat.le_refl _)
  rw [putOut_len] at e ⊢
  rw [bl_putOut _ (Nat.le_refl _)] at e
  refine List.eq_nil_of_length_eq_zero ?_
  split at e <;> omega
end
/-! ### the first letter that a telling of n letters has not -/
def tooBig (n : Nat) : Option Int → Option Int
  | some l => if l > (n : Int) then some l else none
  | none => none
def firstBad (n : Nat) (hs : List (Option Int)) : Option Int := (hs.filterMap (tooBig n)).head?
theorem firstBad_none {L n : Nat} {hs : List (Option Int)} (h : lets L hs) (hn : L ≤ n) : firstBad n hs = none := by
  have e : hs.filterMap (tooBig n) = [] := by
    refine List.filterMap_eq_nil_iff.mpr fun d hd => ?_
    cases d with
    | none => rfl
    | some l =>
      have z := h l hd
      show (if l > (n : Int) then some l else none) = none
      rw [if_neg (by omega)]
  unfold firstBad
  rw [e]
  rfl
end K2
set_option maxHeartbeats 4000000
/-! K2R1: tuple * k for any small k; the walk over enumerate(a tuple) -/
namespace K2
open PySem PySem.Spec PyProof.Rows L2
open PySem.AutoSeq1 (wpAny_loadPart')
/-- the record of a tuple with these items -/
abbrev tupO (its : Array Value) (many : Nat) (own : Option Addr) (slots : Array (Option Value)) : Obj := { cls := .type "tuple", dict := own, data := .seq its many, slots := slots }
section
variable {at_ : Addr} {its : Array Value} {many : Nat} {own : Option Addr} {slots : Array (Option Value)}
/-- no copy is asked: the empty tuple, new -/
theorem mul_none {k : Int} {tok : Tok} (fits : (decide (k < -(2 ^ 63)) || decide (k ≥ 2 ^ 63)) = false) (some1 : (its.isEmpty || k == 1) = false) (nil : (decide (k ≤ 0) || its.isEmpty) = true) :
    Meets (Builtin.«tuple.__mul__» ⟨[.ref at_, .int k tok], []⟩) fun _ R s => s.heap.get? at_ = some (tupO its many own slots) ∧ R (.ok (.ret (.ref s.heap.objs.size))) { s with heap := s.heap.push { cls := .type "tuple", data := .seq #[] } } := by
  refine .of_wp fun prog w A R s pre => ?_
  rcases s with ⟨mem, names, drawn, toks, said⟩
  have found : mem.get? at_ = some { cls := .type "tuple", dict := own, data := .seq its many, slots := slots } := pre.1
  have index := AutoSeq1.idx_int
  wp_walk using wpAny_loadPart' found
  repeat'
    first
    | refine wpAny_ite_false (decide_eq_false (fun z => Bool.false_ne_true (fits.symm.trans z))) ?_
    | refine wpAny_ite_false (decide_eq_false (fun z => Bool.false_ne_true (some1.symm.trans z))) ?_
    | refine wpAny_ite_true (decide_eq_true nil) ?_
    wp_walk using wpAny_loadPart' found
  exact ⟨_, rfl, pre.2⟩
/-- one copy is asked: the tuple itself -/
theorem mul_same {tok : Tok} : Meets (Builtin.«tuple.__mul__» ⟨[.ref at_, .int 1 tok], []⟩) fun _ R s => s.heap.get? at_ = some (tupO its many own slots) ∧ R (.ok (.ret (.ref at_))) s := by
  refine .of_wp fun prog w A R s pre => ?_
  rcases s with ⟨mem, names, drawn, toks, said⟩
  have found : mem.get? at_ = some { cls := .type "tuple", dict := own, data := .seq its many, slots := slots } := pre.1
  have index := AutoSeq1.idx_int
  have one : (its.isEmpty || (1 : Int) == 1) = true := Bool.or_true _
  wp_walk using wpAny_loadPart' found
  repeat'
    refine wpAny_ite_true (decide_eq_true one) ?_
    wp_walk using wpAny_loadPart' found
  exact ⟨_, rfl, pre.2⟩
end
/-- t * k, t a tuple that is not empty -/
def rRepA (K : PySem.W.Frag) : R2 := fun x y H Q => ∃ l k xs, x = .ref l ∧ y = .int k ∧ SqT K H l xs ∧ xs ≠ [] ∧ 0 ≤ k ∧ k ≤ 1000 ∧ xs.length ≤ 1000 ∧ (k = 1 → Q (.ref l) H) ∧
  (k ≠ 1 → ∀ p, H p = none → Q (.ref p) (upd H p (.tup (List.replicate k.toNat xs).flatten)))
theorem op_repA {X : Cx} : OpR X (binaryOp .Mult) (rRepA X.K) := by
  rintro pins s σ H x y v u Q I rx ry ⟨l, k, xs, rfl, rfl, there, full, low, top, short, once, else_⟩
  rcases Int.lt_or_le 1 k with two | few
  · exact op_repT pins s σ H _ _ v u Q I rx ry ⟨l, k, xs, rfl, rfl, there, full, two, top, short, else_ (by omega)⟩
  cases rx
  obtain ⟨tok, rfl⟩ := ry
  obtain ⟨its, same, ⟨⟨cls, own, data, slots⟩, found, c1, many, c2⟩, _⟩ := I.tuple there
  simp only at c1 c2
  subst c1 c2
  have some1 : its.toArray.isEmpty = false := by
    match its, same with
    | _ :: _, _ => rfl
    | [], same => exact absurd (List.eq_nil_of_length_eq_zero same.length) full
  -- int has no such operation, tuple repeats: the call is tuple.__mul__'s
  have turn : ∀ {Q2 : Value → Shared → Prop}, wpAny (model X.prog X.w) X.A (call (.builtin "tuple.__mul__") [.ref l, .int k tok]) Q2 X.xe s → wpAny (model X.prog X.w) X.A (binaryOp .Mult (.ref l) (.int k tok)) Q2 X.xe s := by
    intro Q2 calls
    refine wpAny_binaryOp_repeat_ref (T := "tuple") (U := "int") (by decide) ⟨_, found, rfl⟩ (fun s' => typeIs_int s' k tok) noFill_tuple_mul F.fills_int_mul F.slot_int_rmul repeat_tuple F.slot_int_index.lookup ?_
    refine call_meets F.slot_int_rmul (typeIs_int s k tok) F.entry_int_rmul (F.args_int_rmul_2 _ _) (int_rmul_tuple k tok l its.toArray many own slots) ?_
    exact ⟨found, rfl, ⟨_, found, rfl⟩, calls⟩
  rcases (show k = 1 ∨ k = 0 by omega) with rfl | rfl
  · exact turn (call_meets F.slot_tuple_mul ⟨_, found, rfl⟩ F.entry_tuple_mul (F.args_tuple_mul_2 _ _) mul_same ⟨found, .ref l, H, I, rfl, once rfl⟩)
  · have nothing : Inv X pins σ (upd H s.heap.objs.size (.tup [])) { s with heap := s.heap.push { cls := .type "tuple", data := .seq #[] }, toks := s.toks } :=
      I.laid (t' := s.toks) (o := .tup []) (fun b ob q => Heap.get?_push_of_some _ q) (Nat.le_refl _) ⟨Nat.zero_le _, [], .nil, IsTup.new _ _⟩
    exact turn (call_meets F.slot_tuple_mul ⟨_, found, rfl⟩ F.entry_tuple_mul (F.args_tuple_mul_2 _ _) (mul_none (by decide) (by rw [some1]; rfl) rfl)
      ⟨found, .ref s.heap.objs.size, _, nothing, rfl, else_ (by decide) _ (I.hok.fresh (Nat.le_refl _))⟩)
end K2
set_option maxHeartbeats 4000000
/-! K2R2: for .. in enumerate(a tuple), for .. in zip(a list, a tuple) -/
namespace K2
open PySem PySem.Spec PyProof.Rows L2
/-! ### small words -/
theorem all2 {p : Addr → Prop} {a b : Addr} (h1 : p a) (h2 : p b) : ∀ x ∈ [a, b], p x := List.forall_mem_cons.mpr ⟨h1, List.forall_mem_singleton.mpr h2⟩
theorem all5 {p : Addr → Prop} {a b c d e : Addr} (h1 : p a) (h2 : p b) (h3 : p c) (h4 : p d) (h5 : p e) : ∀ x ∈ [a, b, c, d, e], p x :=
  List.forall_mem_cons.mpr ⟨h1, List.forall_mem_cons.mpr ⟨h2, List.forall_mem_cons.mpr ⟨h3, all2 h4 h5⟩⟩⟩
theorem out2 {x a b : Addr} (h : x ∉ [a, b]) : x ≠ a ∧ x ≠ b := by simpa using h
theorem out5 {x a b c d e : Addr} (h : x ∉ [a, b, c, d, e]) : x ≠ a ∧ x ≠ b ∧ x ≠ c ∧ x ≠ d ∧ x ≠ e := by simpa using h
/-- at a tuple's place stands nothing of another type -/
theorem kind_ne {h : Heap} {a b : Addr} {its : Array Value} {T : String} {o : Obj} (tup : IsTup h a its) (other : h.get? b = some o) (kind : o.cls = .type T) (no : T ≠ "tuple") : b ≠ a := by
  rintro rfl
  obtain ⟨o', same, type, _⟩ := tup
  obtain rfl : o' = o := Option.some.inj (same.symm.trans other)
  exact no (Value.type.inj (kind.symm.trans type))
/-- a new pair -/
theorem pair_ok {X : Cx} {H : Hp} {h : Heap} {T : Addr} {x y : V} {u v : Value} (rx : RelV x u) (ry : RelV y v) (laid : h.get? T = some { cls := .type "tuple", data := .seq #[u, v] }) : ObjOk X.prog X.w (upd H T (.tup [x, y])) h T (.tup [x, y]) :=
  ⟨by show 2 ≤ sizeLine; decide, [u, v], .cons rx (.cons ry .nil), _, laid, rfl, _, rfl⟩
theorem lt_of_get {α : Type} {l : List α} {i : Nat} {x : α} (h : l[i]? = some x) : i < l.length := by
  rcases List.getElem?_eq_some_iff.mp h with ⟨z, _⟩
  exact z
theorem arr_at {l : List Value} {i : Nat} {u v : Value} (h : l[i]? = some u) (e : l.toArray[i]? = some v) : v = u := by
  rw [List.getElem?_toArray, h] at e
  exact (Option.some.inj e).symm
theorem arr_lt {l : List Value} {i : Nat} {u : Value} (h : l[i]? = some u) : i < l.toArray.size := by
  rw [List.size_toArray]
  exact lt_of_get h
theorem arr_size {xs : List V} {l : List Value} (r : Vals xs l) : l.toArray.size = xs.length := by rw [List.size_toArray, r.length]
/-! ### enumerate(a tuple) -/
/-- the tuple at a, each item in a new pair -/
def IteT (K : PySem.W.Frag) (a : Addr) : It where
  go i H := ∃ (xs : List V) (x : V), SqT K H a xs ∧ xs[i]? = some x
  yld i H v H' := ∃ T x, v = .ref T ∧ H T = none ∧ H' = upd H T (.tup [.int (i : Nat), x]) ∧ ∀ xs, SqT K H a xs → xs[i]? = some x
  stop i H := ∃ xs : List V, SqT K H a xs ∧ xs.length = i
/-- how far an enumerate at e over the tuple's iterator at it has come -/
def EnumAt (a e it : Addr) (i : Nat) (h : Heap) : Prop := (∃ old, IsEnum h e it (i : Int) old) ∧ h.IsTupleIter it a i ∧ e ≠ it
theorem turn_enumT {P : Program} {w : World} {K : PySem.W.Frag} {elts : List Expr} {kk : Nat} {tpos : Pos} (a e it : Addr) : Turn P w K (.Tuple elts kk tpos) (IteT K a) [e, it] e (EnumAt a e it) where
  mem := List.mem_cons_self
  obj := by
    rintro i h ⟨⟨old, atE⟩, ⟨o, atI, _, dat⟩, _⟩
    exact all2 ⟨_, atE, fun v => nofun⟩ ⟨o, atI, fun v z => nomatch dat.symm.trans z⟩
  keep := by
    rintro i h h' ⟨⟨old, atE⟩, iter, apart⟩ kept
    exact ⟨⟨old, kept e List.mem_cons_self _ atE⟩, iter.at fun o => kept it (List.mem_cons_of_mem _ List.mem_cons_self) o, apart⟩
  item := by
    rintro X rfl rfl rfl calm i pins s σ H E I fpok ⟨⟨old, atE⟩, iter, apart⟩ ⟨xs, x, tup, atx⟩
    obtain ⟨its, rel, isT, _⟩ := I.tuple tup
    obtain ⟨u, atu, ru⟩ := rel.get atx
    have sizeE := Heap.lt_size atE
    have eNa : e ≠ a := kind_ne isT atE rfl (by decide)
    obtain ⟨oI, atI, clsI, datI⟩ := id iter
    have sizeI := Heap.lt_size atI
    have iNa : it ≠ a := kind_ne isT atI clsI (by decide)
    have draw := Draws.tuple (prog := X.prog) (w := X.w) (show X.A.in1.handled = none from I.ok.hd calm) it a iNa.symm its.toArray
    refine wpAny_pyNext_enum_itemD draw atE ⟨iter, isT⟩ (arr_lt atu) apart (by simp [apart, eNa]) fun y h' tok aty enum' iter' pair size kept => ?_
    have ey := arr_at atu aty
    subst ey
    refine ⟨_, rfl, wpAny_letOwnedTupleGo_enum (s := { s with heap := h', toks := tok + 1 }) enum' fun h2 enum2 but => ?_⟩
    have laid : h2.get? s.heap.objs.size = some { cls := .type "tuple", data := .seq #[.int i tok, y] } := (but.2 _ (Nat.ne_of_gt sizeE)).trans pair
    have J : Inv X pins σ (upd H s.heap.objs.size (.tup [.int (i : Nat), x])) { s with heap := h2, toks := tok + 1 } := by
      refine I.turnedNew (ch := [e, it]) (fun b ob away at0 => ?_) fpok (Nat.le_refl _) (pair_ok ⟨_, rfl⟩ ru laid)
      obtain ⟨n1, n2⟩ := out2 away
      exact (but.2 b n1).trans (kept b ob n1 n2 at0)
    have fresh : H s.heap.objs.size = none := I.hok.fresh (Nat.le_refl _)
    refine ⟨.ref s.heap.objs.size, _, J, rfl, ⟨_, x, rfl, fresh, rfl, fun ys z => (I.tuple_inj z tup) ▸ atx⟩, ⟨⟨y, ?_⟩, iter'.1.at fun o => (but.2 it apart.symm).trans, apart⟩, fun b hb => ?_⟩
    · rw [Int.natCast_add]
      exact enum2
    · have below := all2 (p := fun c => c < s.heap.objs.size) sizeE sizeI b hb
      rw [upd_ne (fun z => Nat.lt_irrefl _ (z ▸ below))]
      exact (fpok b hb).1
  done := by
    rintro X rfl rfl rfl calm i pins s σ H E I fpok ⟨⟨old, atE⟩, iter, apart⟩ ⟨xs, tup, rfl⟩
    obtain ⟨its, rel, isT, _⟩ := I.tuple tup
    obtain ⟨oI, atI, clsI, _⟩ := id iter
    have iNa : it ≠ a := kind_ne isT atI clsI (by decide)
    obtain ⟨g0, g1, _, g3, g4, g5⟩ := fpok it (List.mem_cons_of_mem _ List.mem_cons_self)
    have whole := arr_size rel
    have draw := Draws.tuple (prog := X.prog) (w := X.w) (show X.A.in1.handled = none from I.ok.hd calm) it a iNa.symm its.toArray
    exact wpAny_pyNext_enum_endD draw atE (whole ▸ ⟨iter, isT⟩) fun h' but => ⟨rfl, I.turned (t' := s.toks) but g0 g1 g3 g4 g5⟩
  self := by
    rintro A i s Q E ⟨⟨old, atE⟩, _⟩ q
    exact wpAny_pyIter_enum atE q
def iEnumT (K : PySem.W.Frag) (ta : TA) : TI := fun σ H R => ta σ H fun vs H1 => ∃ a xs, vs = [.ref a] ∧ SqT K H1 a xs ∧ R (IteT K a) H1
/-- the record of a new enumerate over the iterator at it -/
abbrev enumO (it : Addr) : Obj := { cls := .type "enumerate", data := .fields #[.none, .bool false, .ref it, rawInt 0, .none, .none] }
theorem enum_new {v : Value} {o : Obj} {Pre : Heap → Prop} (B : Begins v o Pre) : Meets (Builtin.«enumerate.__new__» ⟨[.type "enumerate", v], []⟩) fun _ R s => Pre s.heap ∧ R (.ok (.ret (.ref (s.heap.push o).objs.size))) { s with heap := (s.heap.push o).push (enumO s.heap.objs.size) } := by
  refine .of_wp fun prog w A R s pre => ?_
  rcases s with ⟨mem, names, drawn, toks, said⟩
  have sub := sub_enumerate
  have begin_ : ∀ {A' : Around} {E Q : Value → Shared → Prop}, Q (.ref mem.objs.size) ⟨mem.push o, names, drawn, toks, said⟩ → wpAny (model prog w) A' (pyIter v) Q E ⟨mem, names, drawn, toks, said⟩ := fun q => B.iter prog w _ _ _ _ pre.1 q
  wp_walk using begin_
  refine wpAny_stack_any fun frames => wpAny_pure ?_
  split
  case' h_1 c _ _ _ _ _ => cases (c == Value.type "enumerate")
  all_goals
    wp_walk using begin_
    exact ⟨_, rfl, pre.2⟩
theorem enum_call {prog : Program} {w : World} {A : Around} {E Q : Value → Shared → Prop} {s : Shared} {v : Value} {o : Obj} {Pre : Heap → Prop} (B : Begins v o Pre) (pre : Pre s.heap)
    (q : ∀ h', IsEnum h' (s.heap.objs.size + 1) s.heap.objs.size 0 .none → h'.get? s.heap.objs.size = some o → (∀ b ob, s.heap.get? b = some ob → h'.get? b = some ob) → Q (.ref (s.heap.objs.size + 1)) { s with heap := h' }) :
    wpAny (model prog w) A (call (.type "enumerate") [v]) Q E s := by
  have size : (s.heap.push o).objs.size = s.heap.objs.size + 1 := Heap.size_push ..
  have at1 : ((s.heap.push o).push (enumO s.heap.objs.size)).get? (s.heap.objs.size + 1) = some (enumO s.heap.objs.size) := size ▸ Heap.get?_push_size (s.heap.push o) (o := enumO s.heap.objs.size) rfl
  refine callType_new F.called_enumerate (by decide) (F.typeCall_enumerate_1 _) (F.newCall_enumerate_1 _) (fun obj => F.args_object_init_2 obj _) F.entry_enumerate_new (enum_new B) ⟨pre, ?_⟩
  rw [size]
  exact ⟨⟨_, at1, rfl⟩, q _ at1 (Heap.get?_push_of_some _ (Heap.get?_push_size _ B.free)) fun b ob e => Heap.get?_push_of_some _ (Heap.get?_push_of_some _ e)⟩
/-- for i, x in enumerate(t), t a tuple -/
theorem pi_enumT {X : Cx} {e : Expr} {ta : TA} {p pos tpos : Pos} {elts : List Expr} {kk : Nat} (hg : Gl X "enumerate") (hm : X.mg "enumerate" = none) (ha : PA X [e] ta) (one : starEach [e] X.env = [(false, eval e X.env)] := by rfl) :
    PI X (.Tuple elts kk tpos) (.Call (.Name "enumerate" p) [e] [] pos) (iEnumT X.K ta) := by
  constructor
  intro pins s σ H R I read
  refine Call_ (ld_blt I hg hm boot_enumerate (PyProof.Rows.callWith_type1 (thn (ha.run pos pins s σ H _ I read) ?_) one rfl))
  rintro us t ⟨_, H1, J, rel, a, xs, rfl, tup, q⟩
  obtain ⟨_, rfl, rfl⟩ : ∃ u, us = [u] ∧ u = .ref a := by
    cases rel with
    | cons r r' => cases r'; cases r; exact ⟨_, rfl, rfl⟩
  obtain ⟨its, _, isT, _⟩ := J.tuple tup
  refine enum_call (begins_tuple a its.toArray) isT fun h' enum iter kept => wpAny_pyIter_enum enum ?_
  have start : EnumAt a (t.heap.objs.size + 1) t.heap.objs.size 0 h' := ⟨⟨.none, enum⟩, ⟨_, iter, rfl, rfl⟩, Nat.succ_ne_self _⟩
  have new : ∀ c, t.heap.objs.size ≤ c → FpOk X pins H1 c := fun c le => J.fpOk le (J.hok.fresh le)
  exact ⟨_, [t.heap.objs.size + 1, t.heap.objs.size], _, _, H1, rfl, J.kept (t' := t.toks) kept, turn_enumT a _ _, start, all2 (new _ (Nat.le_succ _)) (new _ (Nat.le_refl _)), q⟩
/-! ### zip(a list, a tuple) -/
def ItzM (K : PySem.W.Frag) (a b : Addr) : It where
  go i H := ∃ (xs ys : List V) (x y : V), SqL K H a xs ∧ SqT K H b ys ∧ xs[i]? = some x ∧ ys[i]? = some y
  yld i H v H' := ∃ T x y, v = .ref T ∧ H T = none ∧ H' = upd H T (.tup [x, y]) ∧ (∀ xs, SqL K H a xs → xs[i]? = some x) ∧ ∀ ys, SqT K H b ys → ys[i]? = some y
  stop i H := ∃ xs ys : List V, SqL K H a xs ∧ SqT K H b ys ∧ i ≤ xs.length ∧ i ≤ ys.length ∧ (i = xs.length ∨ i = ys.length)
/-- how far a zip at z has come: its tuple of iterators at TI (i1 over the list, i2 over the tuple), its own pair at TO -/
def ZipAt (a b z TI TO i1 i2 : Addr) (i : Nat) (h : Heap) : Prop := IsZip h z TI TO .none ∧ IsTupOf2 h TI (.ref i1) (.ref i2) ∧ (∃ x y, IsTupOf2 h TO x y) ∧ h.IsListIter i1 a i ∧ h.IsTupleIter i2 b i
theorem turn_zipM {P : Program} {w : World} {K : PySem.W.Frag} {elts : List Expr} {kk : Nat} {tpos : Pos} {a b z TI TO i1 i2 : Addr} (D : ZipSep2 z TI TO i1 i2 [i1, a] [i2, b]) (na : a ≠ i1) (nb : b ≠ i2) :
    Turn P w K (.Tuple elts kk tpos) (ItzM K a b) [z, TI, TO, i1, i2] z (ZipAt a b z TI TO i1 i2) where
  mem := List.mem_cons_self
  obj := by
    rintro i h ⟨atZ, atTI, ⟨x, y, atTO⟩, ⟨o1, at1, _, d1⟩, o2, at2, _, d2⟩
    exact all5 ⟨_, atZ, fun v => nofun⟩ ⟨_, atTI, fun v => nofun⟩ ⟨_, atTO, fun v => nofun⟩ ⟨o1, at1, fun v q => nomatch d1.symm.trans q⟩ ⟨o2, at2, fun v q => nomatch d2.symm.trans q⟩
  keep := by
    rintro i h h' ⟨atZ, atTI, ⟨x, y, atTO⟩, iter1, iter2⟩ kept
    have k : ∀ c ∈ [z, TI, TO, i1, i2], ∀ o, h.get? c = some o → h'.get? c = some o := kept
    simp only [List.forall_mem_cons] at k
    exact ⟨k.1 _ atZ, k.2.1 _ atTI, ⟨x, y, k.2.2.1 _ atTO⟩, iter1.at k.2.2.2.1, iter2.at k.2.2.2.2.1⟩
  item := by
    rintro X rfl rfl rfl calm i pins s σ H E I fpok ⟨atZ, atTI, ⟨x0, y0, atTO⟩, iter1, iter2⟩ ⟨xs, ys, x, y, lst, tup, atx, aty⟩
    obtain ⟨its1, rel1, isL, _⟩ := I.list lst
    obtain ⟨its2, rel2, isT, _⟩ := I.tuple tup
    obtain ⟨u, atu, ru⟩ := rel1.get atx
    obtain ⟨v, atv, rv⟩ := rel2.get aty
    have none_ : X.A.in1.handled = none := I.ok.hd calm
    have sizeZ := Heap.lt_size atZ
    have below : ∀ c ∈ [z, TI, TO, i1, i2], c < s.heap.objs.size := by
      obtain ⟨_, at1, _⟩ := id iter1
      obtain ⟨_, at2, _⟩ := id iter2
      exact all5 sizeZ (Heap.lt_size atTI) (Heap.lt_size atTO) (Heap.lt_size at1) (Heap.lt_size at2)
    refine wpAny_pyNext_zipD2_item D (Draws.list none_ i1 a na its1.toArray) (Draws.tuple none_ i2 b nb its2.toArray) atZ atTI atTO ⟨iter1, isL.isList⟩ ⟨iter2, isT⟩ (arr_lt atu) (arr_lt atv) fun v1 v2 h' tok e1 e2 zip' out' iter1' iter2' pair size kept => ?_
    have ev1 := arr_at atu e1
    have ev2 := arr_at atv e2
    subst ev1 ev2
    refine ⟨_, rfl, wpAny_letOwnedTupleGo_zip (s := { s with heap := h', toks := tok }) zip' fun h2 zip2 but => ?_⟩
    have laid : h2.get? s.heap.objs.size = some { cls := .type "tuple", data := .seq #[v1, v2] } := (but.2 _ (Nat.ne_of_gt sizeZ)).trans pair
    have J : Inv X pins σ (upd H s.heap.objs.size (.tup [x, y])) { s with heap := h2, toks := tok } := by
      refine I.turnedNew (t' := tok) (ch := [z, TI, TO, i1, i2]) (fun c o away at0 => ?_) fpok (Nat.le_refl _) (pair_ok ru rv laid)
      obtain ⟨n1, _, n3, n4, n5⟩ := out5 away
      exact (but.2 c n1).trans (kept c o n1 n3 n4 n5 at0)
    have fresh : H s.heap.objs.size = none := I.hok.fresh (Nat.le_refl _)
    have next : ZipAt a b z TI TO i1 i2 (i + 1) h2 :=
      ⟨zip2, (but.2 _ D.TIz).trans (kept _ _ D.TIz D.TITO D.TIi1 D.TIi2 atTI), ⟨v1, v2, (but.2 _ D.TOz).trans out'⟩, iter1'.1.at fun o => (but.2 _ D.zi1.symm).trans, iter2'.1.at fun o => (but.2 _ D.zi2.symm).trans⟩
    refine ⟨.ref s.heap.objs.size, _, J, rfl, ⟨_, x, y, rfl, fresh, rfl, fun l e => (I.list_inj e lst) ▸ atx, fun l e => (I.tuple_inj e tup) ▸ aty⟩, next, fun c hc => ?_⟩
    rw [upd_ne (fun e => Nat.lt_irrefl _ (e ▸ below c hc))]
    exact (fpok c hc).1
  done := by
    rintro X rfl rfl rfl calm i pins s σ H E I fpok ⟨atZ, atTI, ⟨x0, y0, atTO⟩, iter1, iter2⟩ ⟨xs, ys, lst, tup, le1, le2, ended⟩
    obtain ⟨its1, rel1, isL, _⟩ := I.list lst
    obtain ⟨its2, rel2, isT, _⟩ := I.tuple tup
    have none_ : X.A.in1.handled = none := I.ok.hd calm
    rw [← arr_size rel1] at le1 ended
    rw [← arr_size rel2] at le2 ended
    refine wpAny_pyNext_zipD2_end D (Draws.list none_ i1 a na its1.toArray) (Draws.tuple none_ i2 b nb its2.toArray) atZ atTI atTO ⟨iter1, isL.isList⟩ ⟨iter2, isT⟩ le1 le2 ended fun h' tok kept => ⟨rfl, ?_⟩
    refine I.turnedL (t' := tok) (ch := [z, TI, TO, i1, i2]) (fun c o away => ?_) fpok
    obtain ⟨n1, _, n3, n4, n5⟩ := out5 away
    exact kept c o n1 n3 n4 n5
  self := by
    intro A i s Q E st q
    exact wpAny_pyIter_zip st.1 q
def iZipM (K : PySem.W.Frag) (ta : TA) : TI := fun σ H R => ta σ H fun vs H1 => ∃ a b xs ys, vs = [.ref a, .ref b] ∧ SqL K H1 a xs ∧ SqT K H1 b ys ∧ R (ItzM K a b) H1
/-- for x, y in zip(l, t), l a list, t a tuple -/
theorem pi_zipM {X : Cx} {e e2 : Expr} {ta : TA} {p pos tpos : Pos} {elts : List Expr} {kk : Nat} (hg : Gl X "zip") (hm : X.mg "zip" = none) (ha : PA X [e, e2] ta)
    (two : starEach [e, e2] X.env = (false, eval e X.env) :: starEach [e2] X.env := by rfl) (plain : (backTo pos (starEach [e2] X.env)).any (·.1) = false := by rfl) : PI X (.Tuple elts kk tpos) (.Call (.Name "zip" p) [e, e2] [] pos) (iZipM X.K ta) := by
  constructor
  intro pins s σ H R I read
  refine Call_ (ld_blt I hg hm PyProof.Rows.boot_zip (PyProof.Rows.callWith_type1 (thn (ha.run pos pins s σ H _ I read) ?_) two plain))
  rintro us t ⟨_, H1, J, rel, a, b, xs, ys, rfl, lst, tup, q⟩
  obtain rfl : us = [.ref a, .ref b] := by
    cases rel with
    | cons r r' => cases r' with
      | cons r2 r3 => cases r3; cases r; cases r2; rfl
  obtain ⟨its1, _, isL, _⟩ := J.list lst
  obtain ⟨its2, _, isT, _⟩ := J.tuple tup
  have sizeA := isL.lt
  have sizeB := isT.lt
  refine zip_begins2 (begins_list a its1.toArray) (begins_tuple b its2.toArray) isL.isList isT fun h' zip ins outs iter1 iter2 size kept => wpAny_pyIter_zip zip ?_
  have sep := zip_sep2 (N := t.heap.objs.size) (fp1 := [a]) (fp2 := [b]) (List.forall_mem_singleton.mpr sizeA) (List.forall_mem_singleton.mpr sizeB)
  have start : ZipAt a b (t.heap.objs.size + 4) (t.heap.objs.size + 2) (t.heap.objs.size + 3) t.heap.objs.size (t.heap.objs.size + 1) 0 h' := ⟨zip, ins, ⟨_, _, outs⟩, ⟨_, iter1, rfl, rfl⟩, ⟨_, iter2, rfl, rfl⟩⟩
  have new : ∀ n, FpOk X pins H1 (t.heap.objs.size + n) := fun n => J.fpOk (Nat.le_add_right _ n) (J.hok.fresh (Nat.le_add_right _ n))
  exact ⟨_, [t.heap.objs.size + 4, t.heap.objs.size + 2, t.heap.objs.size + 3, t.heap.objs.size, t.heap.objs.size + 1], _, _, H1, rfl, J.kept (t' := t.toks) kept,
    turn_zipM sep (Nat.ne_of_lt sizeA) (Nat.ne_of_lt (Nat.lt_succ_of_lt sizeB)), start, all5 (new 4) (new 2) (new 3) (new 0) (new 1), q⟩
end K2
set_option maxHeartbeats 4000000
/-! K2R3: a try with several clauses «except X as n», all of one n; a call X() of an own class of exceptions -/
namespace K2
open PySem PySem.Spec PyProof.Rows L2
/-- a clause: its class, its suite's reading by the exception's place, class and dict -/
abbrev Clause := Value × (Addr → Value → Option Addr → TS)
/-- behind a suite the name in slot i is gone -/
def noName (i : Nat) (D : Ends) : Ends where
  nx σ H := D.nx (σ.set i none) H
  rt := D.rt
  bk σ H := D.bk (σ.set i none) H
  ct σ H := D.ct (σ.set i none) H
/-- the clauses are asked one after the other: the first that names the exception runs with it in slot i; none: it goes on -/
def wManyAs (K : PySem.W.Frag) (i : Nat) (Wout : WX) (D : Ends) : List Clause → WX
  | [] => Wout
  | c :: r => fun cls d σ H => ∃ b, PySem.W.exmOne K cls c.1 = some b ∧ (b = true → ∀ a, H a = none → c.2 a cls d (noName i D) (σ.set i (some (.ref a))) H) ∧ (b = false → wManyAs K i Wout D r cls d σ H)
inductive HdsAs (X : Cx) (n : Str) : List ExceptHandler → List Clause → Prop
  | nil : HdsAs X n [] []
  | cons {x : Str} {c : Value} {ts : Addr → Value → Option Addr → TS} {st : Stmt} {sts : List Stmt} {p1 p2 : Pos} {hds : List ExceptHandler} {l : List Clause} (named : Names X x c)
      (runs : ∀ (a : Addr) (oe : Obj) (cls : Value) (d : Option Addr) (pn : List (Addr × Obj)), Zc cls d oe → (∃ vs, oe.data = .fields vs) → PSs (X.suite a ((a, oe) :: pn)) (st :: sts) (ts a cls d)) (rest : HdsAs X n hds l) :
      HdsAs X n (.ExceptHandler (some (.Name x p1)) (some n) (st :: sts) p2 :: hds) (⟨c, ts⟩ :: l)
theorem ps_try_manyAs {X : Cx} {n : Str} {i : Nat} {body : List Stmt} {h0 : ExceptHandler} {hds : List ExceptHandler} {l : List Clause} {pos : Pos} {tb : WX → TS} {Wout : WX}
    (hs : X.stack = X.env :: X.outer) (hf : X.env.frame = some X.env.locals) (hN : X.N.Nodup) (hi : X.N[i]? = some n) (hln : X.env.kindOf n = some .local) (out : Takes X Wout)
    (hb : ∀ (W : WX) (pn : List (Addr × Obj)) (xe : Value → Shared → Prop), Takes (X.tr pn xe) W → PassesOwn (model X.prog X.w) X.A X.env xe → PSs (X.tr pn xe) body (tb W)) (hh : HdsAs X n (h0 :: hds) l) :
    PS X (.Try body (h0 :: hds) [] [] pos) fun D σ H => tb (wManyAs X.K i Wout D l) D σ H := by
  constructor
  intro pins s σ H D I read
  have fine := I.ok
  have whole := (hb (wManyAs X.K i Wout D l) (X.pn ++ pins)
    (fun e s1 => wpAny (model X.prog X.w) X.A (noteFrame e X.env) (fun _ s2 => wpAny (model X.prog X.w) X.A (setFlight e none) (fun _ s3 => wpAny (model X.prog X.w) X.A (handleBy e X.env (h0 :: hds)) (SP X pins D) X.xe s3) X.xe s2) X.xe s1)
    ?_ PassesOwn.looking).run [] s σ H D (I.toTry _) read
  · refine wpAny_Try_except (wpAny_mono whole (fun f t post => ?_) fun _ _ he => he)
    -- the body went through
    exact match f, post with
      | .next, ⟨_, _, J, q⟩ => wpAny_execs_nil ⟨_, _, J.ofTry fine, q⟩
      | .brk, ⟨_, _, J, q⟩ => ⟨_, _, J.ofTry fine, q⟩
      | .cont, ⟨_, _, J, q⟩ => ⟨_, _, J.ofTry fine, q⟩
      | .ret _, ⟨_, _, _, J, r, q⟩ => ⟨_, _, _, J.ofTry fine, r, q⟩
  -- the body raised, at a, an object of the class cls
  rintro u t ⟨a, B, t0, _, τ, G, cls, d, rfl, J0, notB, grown, sky, noA, os, agree, wish⟩
  have J : Inv X pins τ G t0 := J0.ofTry fine
  have frames : X.A.frames = some (X.env :: X.outer) := fine.frames.trans (congrArg some hs)
  rw [show (X.tr (X.pn ++ pins) _).stack = X.env :: X.outer from hs] at sky
  change wpAny (model X.prog X.w) X.A (noteFrame (.ref a) X.env) _ _ _
  refine Sky.land Zc.steady frames hf sky fun m1 flown grown1 => ?_
  have J1 : Inv X pins τ G { t with heap := m1 } := J.landed notB flown.1 (grown.trans grown1) os agree
  obtain ⟨oe, fs, atA, zc, dat⟩ := flown.there
  have noFrame : a ∉ frs (X.env :: X.outer) := by
    intro mem
    obtain ⟨_, o, at2, nof⟩ := flown.2.2.1.mem mem
    obtain rfl : oe = o := Option.some.inj (atA.symm.trans at2)
    exact nof _ dat
  have notL : a ≠ X.env.locals := by
    rintro rfl
    exact noFrame (List.mem_filterMap.mpr ⟨X.env, List.mem_cons_self, hf⟩)
  have notF : a ∉ X.fs := by
    intro mem
    obtain ⟨e, ine, q⟩ := List.mem_filterMap.mp mem
    exact noFrame (List.mem_filterMap.mpr ⟨e, .tail _ ine, q⟩)
  have suite1 := J1.suite atA dat noA notL notF
  clear read hb
  generalize h0 :: hds = clauses at hh ⊢
  -- clause by clause
  induction hh with
  | nil =>
    refine wpAny_handleBy_nil ?_
    obtain ⟨_, _, _, oe', fs', T, oT, ts', at', _, dat', tr, _⟩ := id flown
    have onward : wpAny (model X.prog X.w) X.A (setFlight (.ref a) X.env.frame) (fun _ t4 => wpAny (model X.prog X.w) X.A (throw (.ref a) : Sem Flow) (SP X pins D) X.xe t4) X.xe { t with heap := m1 } := by
      rw [hf]
      refine HandSPX.setFlight_upZ flown fun m4 sky4 grown4 => wpAny_throw (out _ _ ?_)
      exact ⟨a, B, t0, pins, τ, G, cls, d, rfl, J, notB, (grown.trans grown1).trans grown4, .inr (.inr (hs ▸ sky4)), noA, os, agree, wish⟩
    unfold PySem.passOn
    refine wpAny_bind (wpAny_field at' dat' tr ?_)
    rw [if_neg (fun z => nomatch (of_decide_eq_true (p := (Value.ref T = Value.none)) (by simpa using z)))]
    first | exact wpAny_bind onward | exact wpAny_bind (wpAny_pure (wpAny_bind onward))
  | @cons x c ts st sts p1 p2 hds2 l2 named runs rest ih =>
    obtain ⟨b, is_, yes, no⟩ := wish
    refine wpAny_handleBy_cons (codeAny_handlers_test ?_) nofun
    have type : PySem.W.Looks (model X.prog X.w) m1 (typeOf (.ref a)) cls := fun _ _ _ t5 kept q => wpAny_typeOf_ref (kept _ _ atA) (by rw [zc.1]; exact q)
    have says := PySem.W.exm_one (M := model X.prog X.w) J1.kIn type is_
    have asked : ∀ {Q E : Value → Shared → Prop}, Q c { t with heap := m1 } → wpAny (model X.prog X.w) (X.A.mark (some (.ref a))) (eval (.Name x p1) X.env) Q E { t with heap := m1 } := by
      intro Q E q
      obtain ⟨glob, plain, known⟩ := named
      rcases known with mine | ⟨mine, boot, sound⟩
      · exact ld_glob (X := X.suite a ((a, oe) :: (X.pn ++ pins))) suite1 glob mine q plain
      · exact ld_blt (X := X.suite a ((a, oe) :: (X.pn ++ pins))) suite1 glob mine boot q sound plain
    refine asked (says.here ?_)
    match b, yes, no with
    | false, _, no =>
      change wpAny _ X.A (handleBy (.ref a) X.env hds2) _ _ _
      exact ih (no rfl)
    | true, yes, _ =>
      refine codeAny_handlers_suite_as (HandSPX.lands_againZ flown fun m4 flown4 grown4 => ?_)
      obtain ⟨oe4, fs4, at4, zc4, dat4⟩ := flown4.there
      have J4 : Inv X pins τ G { t with heap := m4 } := J.landed notB flown4.1 ((grown.trans grown1).trans grown4) os agree
      have suite4 := J4.suite at4 dat4 noA notL notF
      refine store_ok (X := X.suite a ((a, oe4) :: (X.pn ++ pins))) (v := .ref a) suite4 hN hi (.inl hln) rfl (fun t5 suite5 => ?_) (.inr hln)
      have ran := (runs a oe4 cls d (X.pn ++ pins) zc4 ⟨_, dat4⟩).run [] t5 _ G _ suite5 (yes rfl a noA)
      refine wpAny_mono ran (fun f t6 post => ?_) fun _ _ => False.elim
      have leave : ∀ {τ6 : L2.St} {G6 : Hp} {Q : Shared → Prop}, Inv (X.suite a ((a, oe4) :: (X.pn ++ pins))) [] τ6 G6 t6 → (∀ t7, Inv X pins (τ6.set i none) G6 t7 → Q t7) →
          wpAny (model X.prog X.w) X.A (do bindName X.env n .none; unbindBehindTheSuite X.env n p2) (fun _ => Q) X.xe t6 := fun S6 on => gone_ok (S6.unsuite fine) hN hi hln on
      exact match f, post with
        | .next, ⟨_, _, S6, q⟩ => leave S6 fun _ J7 => ⟨_, _, J7, q⟩
        | .brk, ⟨_, _, S6, q⟩ => leave S6 fun _ J7 => ⟨_, _, J7, q⟩
        | .cont, ⟨_, _, S6, q⟩ => leave S6 fun _ J7 => ⟨_, _, J7, q⟩
        | .ret _, ⟨_, _, _, S6, r, q⟩ => leave S6 fun _ J7 => ⟨_, _, _, J7, r, q⟩
/-- X(), X an own class of exceptions without __init__ -/
theorem pmk_own0 {X : Cx} {C : Addr} {tail : List Value} {B newId initId : String} {x : Str} {p pos : Pos} (F : ExcBaseFacts B newId initId tail) (is_ : PySem.W.excIn X.K C tail newId = true) (gC : X.mg x = some (.ref C))
    (kC : PySem.W.keepIn X.K (.ref C) = true) (r : Raises X (.ref C)) (hg : Gl X x) (plain : (x == ("__debug__" : Str)) = false := by decide) : PMk X (.Call (.Name x p) [] [] pos) fun _ H Q => Q (.ref C) none H := by
  intro pins s σ H Q I q
  refine wpAny_Call_Name_kw (ld_glob I hg gC (PySem.W.callWith_K0 I.kIn kC ?_) plain)
  change wpAny _ _ (call (.ref C) []) _ _ _
  obtain ⟨bm, N, nm, qn, bs, hdct, sn, sub, ab, col, dd, k0, k1, k2, k3, k5, mN, atC, atN, noInit, T⟩ := exc_obj I.kIn is_
  refine wpAny_call_exc_subT F T atC atN noInit (fun _ _ made => ?_) (Nat.zero_le _)
  exact mk_of I made r q (I.hok.gone made.new)
end K2
section
set_option maxHeartbeats 4000000
/-! K2R4: NoPlace(x): an own exception over LookupError whose __init__ stores one field -/
namespace K2
open PySem PySem.W PySem.Calls PyProof.Rows
abbrev leTail : List Value := [.type "LookupError", .type "Exception", .type "BaseException", .type "object"]
abbrev npObj (C t : Addr) (d : Option Addr) : Obj := { cls := .ref C, dict := d, data := .fields #[.ref t, .none, .none, .none, .bool false, .none] }
/-- what the written part says of NoPlace, at C, and of its __init__, at fI -/
structure NpTxt (K : Frag) (mg : Str → Option Value) (C fI : Addr) : Prop where
  gC : mg "NoPlace" = some (.ref C)
  ei : excInitIn K C leTail "LookupError.__new__" = true
  eo : excOver K C leTail = true
  hd : hasDictIn K C = true
  sa : findIn K (.ref C) "__setattr__" = some (some (.builtin "object.__setattr__"))
  ga : findIn K (.ref C) "__getattribute__" = some (some (.builtin "BaseException.__getattribute__"))
  gg : findIn K (.ref C) "__getattr__" = some none
  noN : findIn K (.ref C) "place" = some none
  tk : takerIn K C "place" = some none
  iC : findIn K (.ref C) "__init__" = some (some (.ref fI))
  tI : typeIn K (.ref fI) = some (.type "function")
  kC : keepIn K (.ref C) = true
  exC : subIn K (.ref C) (.type "BaseException") = some true
  tyC : typeIn K (.ref C) = some (.type "type")
  te : exmOne K (.ref C) (.ref C) = some true
  fn : ∃ fd, L2.Fun K "__init__" "NoPlace.__init__" s_init fI fd
theorem NpTxt.xf {K : Frag} {mg : Str → Option Value} {C fI : Addr} (T : NpTxt K mg C fI) : L2.XfC K C := ⟨T.ga, T.gg, T.exC, T.hd⟩
section
variable {prog : Program} {w : World} {A : Around} {E : Value → Shared → Prop} {R : Result → Shared → Prop} {s : Shared} {K : Frag} {mg : Str → Option Value} {C fI : Addr}
/-- self.place = v on such an exception, just made -/
theorem np_osa {x t : Addr} {tk : Tok} {v : Value} (T : NpTxt K mg C fI) (X : K.In s.heap) (hx : s.heap.get? x = some (npObj C t none))
    (hq : ∀ h' tk' dx, (∀ b o, b ≠ x → s.heap.get? b = some o → h'.get? b = some o) → s.heap.objs.size ≤ dx → dx ≠ x → h'.get? x = some (npObj C t (some dx)) →
      h'.Ns1 dx (fun y => if y = "place" then some v else none) → R (.ok (.ret .none)) { s with heap := h', toks := tk' }) :
    codeAny (model prog w) A (.call (.builtin "object.__setattr__") ⟨[.ref x, .str "place" tk, v], []⟩) R s := by
  refine osa_openX (od := none) F.store_LookupError X ⟨hx, rfl, rfl, trivial⟩ T.eo T.tk fun b => ?_
  obtain ⟨cd, isC, dict⟩ := any_some T.hd
  obtain ⟨mem, names, drawn, toks, said⟩ := s
  have below : x < mem.objs.size := Heap.lt_size hx
  have apart : x ≠ mem.objs.size := Nat.ne_of_lt below
  have withDict : (mem.push (dictOf [] 0)).get? x = some (npObj C t none) := Heap.get?_push_of_some _ hx
  -- the new dict is laid, then filled
  refine wpAny_bind (wpAny_pure (wpAny_bind (instanceDict_exc hx (looks_clsIn X isC) dict ?_)))
  change wpAny _ _ (Builtin.ObjectAttr.storeInDict mem.objs.size (.str "place" tk) "place" v) _ _ _
  refine HandSPX.store_in_new ⟨_, #[], _, (Heap.get?_update_ne _ _ _ _ apart.symm).trans (Heap.get?_push_at rfl rfl), rfl, fun e he => (Array.not_mem_empty e he).elim, fun _ => rfl⟩ fun h' tk' filled but => ?_
  refine hq h' tk' mem.objs.size (fun b o off at0 => ?_) (Nat.le_refl _) apart.symm ((but.2 x apart).trans (Heap.get?_update_self _ withDict rfl)) filled
  exact (but.2 b (Nat.ne_of_lt (Heap.lt_size at0))).trans ((Heap.get?_update_ne _ _ _ _ off).trans (Heap.get?_push_of_some _ at0))
/-- what __init__ leaves -/
structure NpEnd (h h' : Heap) (x C dx t1 : Addr) (v : Value) : Prop where
  keep : ∀ b o, b ≠ x → h.get? b = some o → h'.get? b = some o
  obj : h'.get? x = some (npObj C t1 (some dx))
  dbig : h.objs.size ≤ dx
  dne : dx ≠ x
  ns : h'.Ns1 dx (fun y => if y = "place" then some v else none)
theorem np_local {M : Model} {name : Str} {scope : Scope} {L a : Addr} {cd : Value} {m : Str → Option Value} {x : Str} {pos : Pos} {v : Value} {Q : Value → Shared → Prop} (hn : s.heap.Ns L m) (hv : m x = some v) (h : Q v s)
    (hk : scope.kind = .function := by rfl) (hl : (envOfC name scope L a cd).kindOf x = some .local := by rfl) (hd : (x == ("__debug__" : Str)) = false := by decide) :
    wpAny M A (eval (.Name x pos) (envOfC name scope L a cd)) Q E s := wpAny_Name (wpAny_loadName_local hk hl hn hv h) hd
theorem np_init (T : NpTxt K mg C fI) {x t0 : Addr} {v : Value} (X : K.In s.heap) (hlim : s.heap.NoLimit) (hx : s.heap.get? x = some (npObj C t0 none)) (hroom : A.depth < recursionLimit)
    (hq : ∀ h' tk dx, NpEnd s.heap h' x C dx t0 v → R (.ok (.ret .none)) { s with heap := h', toks := tk }) :
    codeAny (model prog w) A (.call (.ref fI) ⟨[.ref x, v], []⟩) R s := by
  obtain ⟨fd, ⟨oc, od, kV, doc, pm, an, cdv, ct, osl, rfl, ho, hcd⟩, _⟩ := T.fn
  refine Att.call_fn (binds := [("self", .ref x), ("place", v)]) X hlim ho hcd hroom (BindsTo.of_eq (by first | rfl | with_unfolding_all rfl)) (by first | rfl | decide | with_unfolding_all rfl) (fun s1 IC => ?_) rfl rfl rfl
  obtain ⟨h1, tk1, rfl⟩ := IC.toInCall.same
  have k : ∀ b o, s.heap.get? b = some o → h1.get? b = some o := IC.toInCall.keep
  have hn := IC.toInCall.ns
  have X1 : K.In h1 := X.keeps k
  have hx1 := k _ _ hx
  show wpAny _ _ (execs _ _) _ _ _
  refine wpAny_execs_cons (plainObj_wpAny_Assign_Attribute ?_)
  refine np_local (v := v) hn (by first | rfl | with_unfolding_all rfl | kernel_rfl) (np_local (v := .ref x) hn (by first | rfl | with_unfolding_all rfl | kernel_rfl) ?_)
  refine set_plain X1 (ox := npObj C t0 none) (od := none) ⟨hx1, rfl, rfl, trivial⟩ T.sa ?_
  refine np_osa (mg := mg) T X1 hx1 (fun h3 tk3 dx k3 dn dne hx3 hn3 => ?_)
  show wpAny _ _ (execs _ _) _ _ _
  have z : s.heap.objs.size < h1.objs.size := hn.lt
  exact wpAny_execs_nil (hq h3 tk3 dx ⟨fun b o hb e => k3 b o hb (k b o e), hx3, Nat.le_of_lt (Nat.lt_of_lt_of_le z dn), dne, hn3⟩)
/-- a made NoPlace -/
structure NpMade (h h' : Heap) (e C d : Addr) (v : Value) : Prop where
  keep : ∀ b o, h.get? b = some o → h'.get? b = some o
  new : h.objs.size ≤ e
  obj : ∃ t, h'.get? e = some (npObj C t (some d))
  dbig : h.objs.size ≤ d
  dne : d ≠ e
  ns : h'.Ns1 d (fun y => if y = "place" then some v else none)
theorem one_fits (v : Value) : [v].length ≤ sizeLine := by
  rw [sizeLine_eq]
  exact (by decide : 1 ≤ 16777216)
theorem np_made (T : NpTxt K mg C fI) {v : Value} (X : K.In s.heap) (hlim : s.heap.NoLimit) (hroom : A.depth + 1 < recursionLimit)
    (hq : ∀ h' tk e d, NpMade s.heap h' e C d v → R (.ok (.ret (.ref e))) { s with heap := h', toks := tk }) :
    codeAny (model prog w) A (.call (.ref C) ⟨[v], []⟩) R s := by
  obtain ⟨nm, N, q, bs, bm, hdct, sn, sub, ab, col, dd, k0, k1, k2, k3, k5, hC, hcont⟩ := excInit_of X T.ei
  obtain ⟨hp, g, dr, tk, os⟩ := s
  have k : ∀ b o, hp.get? b = some o → ((hp.push (kdv_tup [v])).push (npObj C hp.objs.size none)).get? b = some o := fun b o e => Heap.get?_push_of_some _ (Heap.get?_push_of_some _ e)
  have hget : ((hp.push (kdv_tup [v])).push (npObj C hp.objs.size none)).get? (hp.objs.size + 1) = some (npObj C hp.objs.size none) := by heap_get
  refine HandSPX.call_own F.excBase_LookupError hcont hC (looks_findIn X T.iC) (fun self => bind_fn X self T.tI) (one_fits v) ?_
  refine np_init (s := ⟨(hp.push (kdv_tup [v])).push (npObj C hp.objs.size none), g, dr, tk, os⟩) T (X.keeps k) (hlim.keeps k) hget ?_ fun h' tk' dx ⟨k', hx, dn, dne, hns⟩ => ?_
  · show A.depth + 1 < recursionLimit
    exact hroom
  · have old : ∀ b o, hp.get? b = some o → h'.get? b = some o := fun b o e => k' b o (Nat.ne_of_lt (Nat.lt_succ_of_lt (Heap.lt_size e))) (k b o e)
    have z : hp.objs.size + 1 + 1 ≤ dx := by
      first
        | (simpa only [Heap.size_push] using dn)
        | exact dn
        | (have q := dn; rw [Heap.size_push, Heap.size_push] at q; exact q)
    exact ⟨rfl, hq h' tk' (hp.objs.size + 1) dx ⟨old, Nat.le_succ _, ⟨_, hx⟩, Nat.le_trans (Nat.le_trans (Nat.le_succ _) (Nat.le_succ _)) z, dne, hns⟩⟩
end
end K2
namespace K2
open PySem PySem.Spec PyProof.Rows L2
section
variable {X : Cx} {C fI : Addr}
theorem rel_place {v : V} {v' : Value} (r : RelV v v') (f : Str) : RelO (List.lookup f [(("place" : Str), v)]) (if f = "place" then some v' else none) := by
  by_cases hw : f = "place"
  · subst hw
    rw [if_pos rfl]
    have q : List.lookup ("place" : Str) [(("place" : Str), v)] = some v := by simp [List.lookup]
    rw [q]
    exact r
  · rw [if_neg hw]
    have qw : (f == ("place" : Str)) = false := by simpa using hw
    have q2 : List.lookup f [(("place" : Str), v)] = none := by simp [List.lookup, qw]
    rw [q2]
    trivial
/-- NoPlace(e) -/
def tMkNp (C : Addr) (ta : TA) : L2.St → Hp → XK → Prop := fun σ H Q => ta σ H fun vs H1 => ∃ v, vs = [v] ∧ ∀ d, H1 d = none → Q (.ref C) (some d) (upd H1 d (.xd [(("place" : Str), v)]))
theorem pmk_np {a : Expr} {ta : TA} {p pos : Pos} {k : Nat} (T : NpTxt X.K X.mg C fI) (hr : Room k X.A) (ha : PA X [a] ta) (hg : Gl X "NoPlace" := by rfl)
    (he : starEach (a :: []) X.env = (false, eval a X.env) :: starEach [] X.env := by rfl) (hpl : (backTo pos (starEach [] X.env)).any (·.1) = false := by rfl) :
    PMk X (.Call (.Name "NoPlace" p) [a] [] pos) (tMkNp C ta) := by
  intro pins s σ H Q I h
  refine wpAny_Call_Name_kw (ld_glob I hg T.gC ?_)
  refine PySem.W.callWith_K (h₀ := X.base) I.ok.mod.kin T.kC (thn (ha.run pos pins s σ H _ I h) fun us s1 hh => ?_) he hpl
  obtain ⟨vs, H1, I1, r1, v, ev, q1⟩ := hh
  subst ev
  refine ⟨I1.kIn, ?_⟩
  cases r1 with
  | cons rv rn =>
    rename_i v' us'
    cases rn
    show wpAny _ _ (call (.ref C) [v']) _ _ _
    have hlim := I1.nolimit
    obtain ⟨hp, g, dr, tk, os⟩ := s1
    refine wpAny_call (np_made T I1.kIn hlim (by have := hr.dp; omega) fun h' tk' e d M => ?_)
    show MkP X pins σ Q (.ref e) ⟨h', g, dr, tk', os⟩
    obtain ⟨t, hoe⟩ := M.obj
    have hns := M.ns
    obtain ⟨G', g1, g2⟩ := restrict h' fun b => decide (b ≠ e)
    have gk : ∀ b, b ≠ e → G'.get? b = h'.get? b := fun b hb => g1 b (decide_eq_true hb)
    have ge : G'.get? e = none := g2 e (by simp)
    have old : ∀ b o, hp.get? b = some o → G'.get? b = some o := fun b o q => (gk b (Nat.ne_of_lt (Nat.lt_of_lt_of_le (Heap.lt_size q) M.new))).trans (M.keep b o q)
    have ob : ObjOk X.prog X.w (upd H1 d (.xd [(("place" : Str), v)])) G' d (.xd [(("place" : Str), v)]) :=
      ⟨_, hns.at (fun o q => (gk d M.dne).trans q), fun f => rel_place rv f⟩
    have J : Inv X pins σ (upd H1 d (.xd [(("place" : Str), v)])) ⟨G', g, dr, tk', os⟩ := I1.laid (t' := tk') old M.dbig ob
    refine ⟨e, _, _, ⟨G', g, dr, tk', os⟩, _, .ref C, some d, rfl, J, fun b o q => ?_, ge, hoe, ⟨rfl, rfl⟩, rfl, rfl, ?_, rfl, I1.bare, raises_own T.exC T.tyC, q1 d (I1.hok.fresh M.dbig)⟩
    · by_cases hb : b = e
      · have q' : G'.get? b = some o := q
        rw [hb, ge] at q'; cases q'
      · exact (gk b hb).symm.trans q
    · rw [upd_ne (Ne.symm M.dne)]
      exact I1.hok.fresh M.new
end
end K2
end
/-! K2W: the layer's rules said of data: slices, +, *, items of tuples -/
namespace K2
open PySem PySem.Spec PyProof.Rows L2
def cutA {α : Type} (xs : List α) (lo hi : Option Int) : List α := (xs.drop (HT.sIx xs.length 0 lo)).take (HT.sIx xs.length xs.length hi - HT.sIx xs.length 0 lo)
theorem cutA_map {α β : Type} (f : α → β) (xs : List α) (lo hi : Option Int) : cutA (xs.map f) lo hi = (cutA xs lo hi).map f := by
  unfold cutA
  rw [List.length_map, List.map_take, List.map_drop]
theorem cutA_from {α : Type} (xs : List α) (k : Nat) : cutA xs (some (k : Int)) none = xs.drop k := by
  unfold cutA
  rw [HT.sIx_nat, HT.sIx_none]
  by_cases h : k ≤ xs.length
  · rw [Nat.min_eq_left h]
    exact List.take_of_length_le (by rw [List.length_drop]; exact Nat.le_refl _)
  · rw [Nat.min_eq_right (by omega), List.drop_of_length_le (Nat.le_refl _), List.drop_of_length_le (by omega), List.take_nil]
theorem take_min {α : Type} (xs : List α) (k : Nat) : xs.take (min k xs.length) = xs.take k := by
  rw [List.take_eq_take_iff]
  omega
theorem cutA_to {α : Type} (xs : List α) (k : Nat) : cutA xs none (some (k : Int)) = xs.take k := by
  unfold cutA
  rw [HT.sIx_nat, HT.sIx_none, List.drop_zero, Nat.sub_zero]
  exact take_min xs k
theorem cutA_but {α : Type} (xs : List α) : cutA xs none (some (-1)) = xs.dropLast := by
  unfold cutA
  rw [HT.sIx_none, List.drop_zero, Nat.sub_zero]
  have e : HT.sIx xs.length xs.length (some (-1)) = xs.length - 1 := by
    show (if (-1 : Int) < 0 then (-1 + (xs.length : Int)).toNat else min (-1 : Int).toNat xs.length) = _
    rw [if_pos (by decide)]
    omega
  rw [e, List.dropLast_eq_take]
theorem cutA_last {α : Type} (xs : List α) (k : Nat) (hk : 0 < k) : cutA xs (some (-(k : Int))) none = xs.drop (xs.length - k) := by
  unfold cutA
  have e : HT.sIx xs.length 0 (some (-(k : Int))) = xs.length - k := by
    show (if (-(k : Int)) < 0 then (-(k : Int) + (xs.length : Int)).toNat else min (-(k : Int)).toNat xs.length) = _
    rw [if_pos (by omega)]
    omega
  rw [HT.sIx_none, e, ← List.length_drop]
  exact List.take_length
theorem TdL.cut {H : Hp} {xs : List V} {ds : List PyData} (h : TdL H xs ds) (lo hi : Option Int) : TdL H (cutV xs lo hi) (cutA ds lo hi) := by
  unfold cutV cutA
  rw [h.length]
  exact (h.drop _).take _
section
variable {X : Cx}
theorem SlR.imp {r r' : V → Option Int → Option Int → Hp → VK → Prop} (h : SlR X r) (hi : ∀ x lo hi H Q, r' x lo hi H Q → r x lo hi H Q) : SlR X r' :=
  fun pins s σ H x v vl vu lo hi' sl Q I rx hs pl pu q => h pins s σ H x v vl vu lo hi' sl Q I rx hs pl pu (hi _ _ _ _ _ q)
theorem OpR.imp {f : Value → Value → Sem Value} {r r' : R2} (h : OpR X f r) (hi : ∀ x y H Q, r' x y H Q → r x y H Q) : OpR X f r' :=
  fun pins s σ H x y v u Q I rx ry q => h pins s σ H x y v u Q I rx ry (hi _ _ _ _ q)
theorem IxR.imp {r r' : R2} (h : IxR X r) (hi : ∀ x y H Q, r' x y H Q → r x y H Q) : IxR X r' :=
  fun value slice pins s σ H x y v u Q I rx ry q e => h value slice pins s σ H x y v u Q I rx ry (hi _ _ _ _ q) e
theorem CallR.imp {f : Value} {r r' : List V → Hp → VK → Prop} (h : CallR X f r) (hi : ∀ xs H Q, r' xs H Q → r xs H Q) : CallR X f r' :=
  fun pins s σ H xs us Q I rx q => h pins s σ H xs us Q I rx (hi _ _ _ q)
/-- t[lo:hi] -/
def rSlD : V → Option Int → Option Int → Hp → VK → Prop := fun x lo hi H Q => ∃ S ds, Out S H ∧ Td (wo S H) x (.tuple ds) ∧ ∀ v H', Same H H' → Td (wo S H') v (.tuple (cutA ds lo hi)) → Q v H'
theorem sl_tupD : SlR X rSlD := SlR.imp sl_tupA fun x lo hi H Q h => by
  obtain ⟨S, ds, hS, hx, q⟩ := h
  obtain ⟨a, xs, rfl, ha, ht⟩ := hx.inv_tup
  refine ⟨a, xs, rfl, SqT.of (wo_of ha), fun hw => q _ _ (Same.refl _) ?_, fun _ p hp => q _ _ (same_upd hp _) (tup_new hS hp (ht.cut lo hi))⟩
  have e : cutA ds lo hi = ds := by
    unfold cutA
    rw [← ht.length, hw.1, hw.2, List.drop_zero, Nat.sub_zero]
    exact List.take_of_length_le (by rw [ht.length]; exact Nat.le_refl _)
  rw [e]
  exact .tup ha ht
/-- t + u -/
def rCatD : R2 := fun x y H Q => ∃ S ds es, Out S H ∧ Td (wo S H) x (.tuple ds) ∧ Td (wo S H) y (.tuple es) ∧ ds.length + es.length ≤ 1000 ∧ ∀ v H', Same H H' → Td (wo S H') v (.tuple (ds ++ es)) → Q v H'
theorem op_catD : OpR X (binaryOp .Add) rCatD := OpR.imp op_catA fun x y H Q h => by
  obtain ⟨S, ds, es, hS, hx, hy, hl, q⟩ := h
  obtain ⟨a, xs, rfl, ha, ht⟩ := hx.inv_tup
  obtain ⟨b, ys, rfl, hb, hu⟩ := hy.inv_tup
  refine ⟨a, b, xs, ys, rfl, rfl, SqT.of (wo_of ha), SqT.of (wo_of hb), by rw [ht.length, hu.length]; exact Nat.le_of_lt (small hl), fun e => ?_, fun _ e => ?_, fun _ _ p hp => q _ _ (same_upd hp _) (tup_new hS hp (ht.append hu))⟩
  · subst e
    cases ht
    exact q _ _ (Same.refl _) hy
  · subst e
    cases hu
    rw [List.append_nil] at q
    exact q _ _ (Same.refl _) hx
theorem TdL.rep {H : Hp} {xs : List V} {ds : List PyData} (h : TdL H xs ds) : ∀ k : Nat, TdL H (List.replicate k xs).flatten (List.replicate k ds).flatten
  | 0 => .nil
  | k + 1 => by
    simp only [List.replicate_succ, List.flatten_cons]
    exact h.append (TdL.rep h k)
/-- t * k -/
def rRepD : R2 := fun x y H Q => ∃ S ds k, y = .int k ∧ Out S H ∧ Td (wo S H) x (.tuple ds) ∧ ds ≠ [] ∧ 0 ≤ k ∧ k ≤ 1000 ∧ ds.length ≤ 1000 ∧ ∀ v H', Same H H' → Td (wo S H') v (.tuple (List.replicate k.toNat ds).flatten) → Q v H'
theorem op_repD : OpR X (binaryOp .Mult) rRepD := OpR.imp op_repA fun x y H Q h => by
  obtain ⟨S, ds, k, rfl, hS, hx, hne, h0, h1, hl, q⟩ := h
  obtain ⟨a, xs, rfl, ha, ht⟩ := hx.inv_tup
  refine ⟨a, k, xs, rfl, rfl, SqT.of (wo_of ha), fun e => ?_, h0, h1, by rw [ht.length]; exact hl, fun e => ?_, fun _ p hp => q _ _ (same_upd hp _) (tup_new hS hp (ht.rep _))⟩
  · subst e
    cases ht
    exact hne rfl
  · subst e
    refine q _ _ (Same.refl _) ?_
    rw [show (1 : Int).toNat = 1 from rfl, List.replicate_one, List.flatten_singleton]
    exact hx
/-- t[i], l[i] -/
theorem at_td {H : Hp} {xs : List V} {ds : List PyData} (h : TdL H xs ds) {i : Int} {d : PyData} (e : atI ds i = some d) : ∃ v, atI xs i = some v ∧ Td H v d := by
  unfold atI at e ⊢
  rw [h.length]
  cases hj : ixN ds.length i with
  | none => rw [hj] at e; cases e
  | some j =>
    rw [hj] at e
    exact h.get e
def rIxD : R2 := fun x y H Q => ∃ S ds i d, y = .int i ∧ (Td (wo S H) x (.tuple ds) ∨ Td (wo S H) x (.list ds)) ∧ atI ds i = some d ∧ ∀ v, Td (wo S H) v d → Q v H
theorem ix_D : IxR X rIxD := IxR.imp ix_seq fun x y H Q h => by
  obtain ⟨S, ds, i, d, rfl, hx | hx, e, q⟩ := h
  · obtain ⟨a, xs, rfl, ha, ht⟩ := hx.inv_tup
    obtain ⟨v, hv, hd⟩ := at_td ht e
    exact .inr (.inl ⟨a, xs, i, v, rfl, rfl, SqT.of (wo_of ha), hv, q v hd⟩)
  · obtain ⟨a, xs, rfl, ha, ht⟩ := hx.inv_lst
    obtain ⟨v, hv, hd⟩ := at_td ht e
    exact .inl ⟨a, xs, i, v, rfl, rfl, SqL.of (wo_of ha), hv, q v hd⟩
/-- len(t), len(l) -/
def rLenD : List V → Hp → VK → Prop := fun vs H Q => ∃ S x ds, vs = [x] ∧ (Td (wo S H) x (.tuple ds) ∨ Td (wo S H) x (.list ds)) ∧ Q (.int ds.length) H
theorem call_lenD' : CallR X (.builtin "len") rLenD := CallR.imp call_len_seq fun vs H Q h => by
  obtain ⟨S, x, ds, rfl, hx | hx, q⟩ := h
  · obtain ⟨a, xs, rfl, ha, ht⟩ := hx.inv_tup
    exact ⟨a, xs, rfl, .inr (SqT.of (wo_of ha)), by rw [ht.length]; exact q⟩
  · obtain ⟨a, xs, rfl, ha, ht⟩ := hx.inv_lst
    exact ⟨a, xs, rfl, .inl (SqL.of (wo_of ha)), by rw [ht.length]; exact q⟩
/-- isinstance(x, (list, tuple)) -/
def rIsiD : List V → Hp → VK → Prop := fun vs H Q => ∃ x tp d, vs = [x, .ref tp] ∧ H tp = some (.tup clsLT) ∧ Td H x d ∧ Q (.bl (isSeq d)) H
theorem call_isiD : CallR X (.builtin "isinstance") rIsiD := CallR.imp call_isiT fun vs H Q h => by
  obtain ⟨x, tp, d, rfl, e, hx, q⟩ := h
  exact ⟨x, tp, _, _, _, _, rfl, e, clsLT_ok, hx.ty, kit_seq hx, q⟩
end
/-! ### an iterator of any kind: the forms for a loop and for a comprehension -/
theorem for_any {J : It} {n : Nat} {g : TG} {tb : TS} {D : Ends} {σ : L2.St} {H : Hp} (Pv : Nat → L2.St → Hp → Prop) (h0 : Pv 0 σ H) (hst : ∀ σ H, Pv n σ H → J.stop n H) (hgo : ∀ i σ H, i < n → Pv i σ H → J.go i H)
    (hs : ∀ i σ H x H', i < n → Pv i σ H → J.yld i H x H' → g x σ H' fun σ2 H2 => tb { D with nx := Pv (i + 1), ct := Pv (i + 1), bk := D.nx } σ2 H2) (hd : ∀ σ H, Pv n σ H → D.nx σ H) :
    ForAt J g tb D σ H := by
  refine ⟨fun i m σ H => i + m = n ∧ Pv i σ H, ⟨n, by omega, h0⟩, fun i m σ H h => ?_⟩
  obtain ⟨e, hp⟩ := h
  by_cases hi : i < n
  · exact .inr ⟨hgo i σ H hi hp, Pv (i + 1), fun σ' H' h' => ⟨m - 1, by omega, by omega, h'⟩, fun x H' y => hs i σ H x H' hi hp y⟩
  · have ei : i = n := by omega
    subst ei
    exact .inl ⟨hst σ H hp, hd σ H hp⟩
theorem lc_any {J : It} {n : Nat} {g : TG} {tt : TT} {te : TE} {vs : List Nat} {σ : L2.St} {H1 : Hp} {D : Addr} {Qd : Hp → Prop} (Pv : Nat → Hp → Prop) (h0 : Pv 0 (upd H1 D (.lst []))) (hst : ∀ H, Pv n H → J.stop n H) (hgo : ∀ i H, i < n → Pv i H → J.go i H)
    (hs : ∀ i H v H', i < n → Pv i H → J.yld i H v H' → g v (wipe σ vs) H' fun τ H2 => wipe τ vs = wipe σ vs ∧
      tt τ H2 fun c H3 => if c = true then te τ H3 fun z H4 => ∃ l, H4 D = some (.lst l) ∧ l.length < sizeLine ∧ Pv (i + 1) (upd H4 D (.lst (l ++ [z]))) else Pv (i + 1) H3)
    (hd : ∀ H, Pv n H → Qd H) :
    LcAt J g tt te vs σ H1 D Qd := by
  refine ⟨fun i m H => i + m = n ∧ Pv i H, ⟨n, by omega, h0⟩, fun i m H h => ?_⟩
  obtain ⟨e, hp⟩ := h
  by_cases hi : i < n
  · exact .inr ⟨hgo i H hi hp, Pv (i + 1), fun H' h' => ⟨m - 1, by omega, by omega, h'⟩, fun x H' y => hs i H x H' hi hp y⟩
  · have ei : i = n := by omega
    subst ei
    exact .inl ⟨hst H hp, hd H hp⟩
end K2
/-! K2D1: is_sound_in, is_sound, sure_history, puts, outs, behind -/
namespace K2
open PySem PySem.Spec PyProof.Rows L2
/-! ### words for all that follow -/
/-- a def that is called by its name -/
structure Cal (P : Program) (w : World) (K : PySem.W.Frag) (mg : Str → Option Value) (base : Heap) (CX : CXT) (k : Nat) (x : Str) (ps : List Str) (sp : Sp) (f : Addr) (fd : FuncData) : Prop where
  ok : FnOk P w K mg base CX k f fd ps sp
  b : Binds K fd ps []
  g : mg x = some (.ref f)
  kp : PySem.W.keepIn K (.ref f) = true
theorem pcall {X : Cx} {CX : CXT} {k : Nat} {x : Str} {ps : List Str} {sp : Sp} {f : Addr} {fd : FuncData} {E : XK} {p pos : Pos} {e : Expr} {es : List Expr} {t : TA} (C : Cal X.prog X.w X.K X.mg X.base CX k x ps sp f fd) (hr : Room k X.A) (hx : Passes CX X E) (ha : PA X (e :: es) t)
    (hg : Gl X x := by rfl) (hdb : (x == ("__debug__" : Str)) = false := by decide) (he : starEach (e :: es) X.env = (false, eval e X.env) :: starEach es X.env := by rfl) (hpl : (backTo pos (starEach es X.env)).any (·.1) = false := by rfl) :
    PE X (.Call (.Name x p) (e :: es) [] pos) (tCall sp [] E t) := pe_call C.ok hr hg C.g C.kp C.b .nil hx ha hdb he hpl
theorem ite_yes {c : Bool} {A B : Prop} (e : c = true) (h : A) : if c = true then A else B := by rw [if_pos e]; exact h
theorem ite_no {c : Bool} {A B : Prop} (e : c = false) (h : B) : if c = true then A else B := by rw [if_neg (by rw [e]; exact Bool.false_ne_true)]; exact h
section
variable {H H' : Hp} {x h : V} {l : Int} {hs : List (Option Int)} {ws : List Int}
theorem deed_in (h : Td H x (dd (some l))) : ∃ t, x = .ref t ∧ H t = some (.tup [.str "in", .int l]) := by
  obtain ⟨t, xs, rfl, e, a⟩ := h.inv_tup
  obtain ⟨y, ys, rfl, h1, a⟩ := a.inv_cons
  obtain ⟨z, zs, rfl, h2, a⟩ := a.inv_cons
  rw [h1.inv_str, h2.inv_int, a.inv_nil] at e
  exact ⟨t, rfl, e⟩
theorem deed_out (h : Td H x (dd none)) : ∃ t, x = .ref t ∧ H t = some (.tup [.str "out"]) := by
  obtain ⟨t, xs, rfl, e, a⟩ := h.inv_tup
  obtain ⟨y, ys, rfl, h1, a⟩ := a.inv_cons
  rw [h1.inv_str, a.inv_nil] at e
  exact ⟨t, rfl, e⟩
theorem hist_inv (hh : Td H h (hist hs)) : ∃ a xs, h = .ref a ∧ H a = some (.tup xs) ∧ TdL H xs (hs.map dd) := hh.inv_tup
theorem word_inv (hh : Td H h (word ws)) : ∃ a, h = .ref a ∧ H a = some (.tup (ws.map V.int)) := by
  obtain ⟨a, xs, rfl, e, t⟩ := hh.inv_tup
  rw [t.inv_ints] at e
  exact ⟨a, rfl, e⟩
theorem word_mk {a : Addr} (e : H a = some (.tup (ws.map V.int))) : Td H (.ref a) (word ws) := .tup e (.ints ws)
theorem hist_at {xs : List V} {i : Nat} (t : TdL H xs (hs.map dd)) (e : xs[i]? = some x) : ∃ d, hs[i]? = some d ∧ Td H x (dd d) := by
  obtain ⟨y, h1, h2⟩ := t.got e
  rw [List.getElem?_map] at h1
  cases hd : hs[i]? with
  | none => rw [hd] at h1; cases h1
  | some d =>
    rw [hd] at h1
    cases h1
    exact ⟨d, rfl, h2⟩
theorem lt_of_get' {α : Type} {l : List α} {i : Nat} {x : α} (h : l[i]? = some x) : i < l.length := (List.getElem?_eq_some_iff.mp h).1
theorem str_in : decide (V.str "in" = V.str "in") = true := by decide +kernel
theorem str_out_in : decide (V.str "out" = V.str "in") = false := by decide +kernel
theorem str_out : decide (V.str "out" = V.str "out") = true := by decide +kernel
theorem str_in_out : decide (V.str "in" = V.str "out") = false := by decide +kernel
end
/-! ### is_sound_in -/
def spSoundIn : Sp := fun vs H Q _ => ∃ (h : V) (hs : List (Option Int)), vs = [h] ∧ Td H h (hist hs) ∧ ∀ b : Bool, (b = true ↔ sound hs) → Q (.bl b) H
section
variable {P : Program} {w : World} {K : PySem.W.Frag} {mg : Str → Option Value} {base : Heap} {f : Addr} {fd : FuncData}
theorem ok_is_sound_in (F : Fun K "is_sound_in" "is_sound_in" s_is_sound_in f fd) : FnOk P w K mg base CX0 1 f fd ["history"] spSoundIn := by
  refine F.ok sc_is_sound_in (fun vs H Q E h => ?_) (fun cdv A outer s H vs Q E hr h => ?_)
  · obtain ⟨h, hs, rfl, _⟩ := h
    rfl
  have nd := sc_is_sound_in.nd
  obtain ⟨h, hs, rfl, hh, q⟩ := h
  obtain ⟨a, xs, rfl, ha, hx⟩ := hist_inv hh
  have hlen : xs.length = hs.length := by rw [hx.length, List.length_map]
  refine ⟨_, pss_cons (ps_set (i := 1) nd rfl (.inl rfl) pe_int)
    (pss_cons (ps_for PassesOwn.never rfl (pi_tup (pv 0)) (pg_name (i := 2) nd rfl (.inl rfl))
      (pss_cons (ps_set (i := 1) nd rfl (.inl rfl) (pe_ifExp (pt_cmpR op_eq (pe_ix ix_tup (pv 2) pe_int (fun _ _ => rfl)) pe_str (nomark _)) (pe_op op_add (pv 1) pe_int) (pe_op op_sub (pv 1) pe_int)))
      (pss_one (ps_if (pt_cmpR op_lt (pv 1) pe_int (nomark _)) (pss_one (ps_ret pe_bl)) pss_nil))))
    (pss_one (ps_ret pe_bl))), ?_⟩
  refine ⟨.ref a, rfl, a, rfl, ⟨xs, SqT.of ha⟩, ?_⟩
  refine for_tup (xs := xs) (fun i σ H' => H' = H ∧ soundTo hs i ∧ ∃ y, σ = [some (.ref a), some (.int (bl hs i)), y]) ⟨rfl, fun j hj => absurd hj (Nat.not_lt_zero j), none, rfl⟩ (fun i σ H' _ h => ?_) (fun i x σ H' hi h => ?_) (fun σ H' h => ?_)
  · rw [h.1]; exact SqT.of ha
  · obtain ⟨rfl, hso, y, rfl⟩ := h
    obtain ⟨d, hd, hxd⟩ := hist_at hx hi
    have hil : i < hs.length := lt_of_get' hd
    have fin : ∀ {m : Int}, bl hs (i + 1) = m → (0 ≤ bl hs (i + 1) → soundTo hs (i + 1)) ∧ (¬ 0 ≤ bl hs (i + 1) → ¬ sound hs) := fun {m} _ =>
      ⟨fun h0 j hj => by
        by_cases e : j = i
        · rw [e]; exact h0
        · exact hso j (by omega), fun h0 z => h0 (z i hil)⟩
    cases d with
    | some l =>
      obtain ⟨t, rfl, et⟩ := deed_in hxd
      have eb := bl_in hd
      refine ⟨.ref t, rfl, t, _, 0, .str "in", rfl, rfl, SqT.of et, atI_nat (j := 0) rfl, rfl, _, rfl, ite_yes str_in ?_⟩
      refine ⟨.int (bl hs i), rfl, _, _, rfl, rfl, ?_⟩
      refine ⟨.int (bl hs i + 1), rfl, _, _, rfl, rfl, _, rfl, ite2 (fun c => ?_) (fun c => ?_)⟩
      · have c' : bl hs i + 1 < 0 := of_decide_eq_true c
        exact q false ⟨(fun z => nomatch z), fun z => absurd z ((fin eb).2 (by omega))⟩
      · have c' : ¬ bl hs i + 1 < 0 := of_decide_eq_false (Bool.eq_false_iff.mpr c)
        exact ⟨rfl, (fin eb).1 (by omega), _, by rw [eb]; rfl⟩
    | none =>
      obtain ⟨t, rfl, et⟩ := deed_out hxd
      have eb := bl_out hd
      refine ⟨.ref t, rfl, t, _, 0, .str "out", rfl, rfl, SqT.of et, atI_nat (j := 0) rfl, rfl, _, rfl, ite_no str_out_in ?_⟩
      refine ⟨.int (bl hs i), rfl, _, _, rfl, rfl, ?_⟩
      refine ⟨.int (bl hs i - 1), rfl, _, _, rfl, rfl, _, rfl, ite2 (fun c => ?_) (fun c => ?_)⟩
      · have c' : bl hs i - 1 < 0 := of_decide_eq_true c
        exact q false ⟨(fun z => nomatch z), fun z => absurd z ((fin eb).2 (by omega))⟩
      · have c' : ¬ bl hs i - 1 < 0 := of_decide_eq_false (Bool.eq_false_iff.mpr c)
        exact ⟨rfl, (fin eb).1 (by omega), _, by rw [eb]; rfl⟩
  · obtain ⟨rfl, hso, y, rfl⟩ := h
    rw [hlen] at hso
    exact q true ⟨fun _ => hso, fun _ => rfl⟩
end
/-! ### is_sound, sure_history -/
theorem wo_nil_td {H : Hp} {x : V} {d : PyData} (h : Td H x d) : Td (wo [] H) x d := by rw [wo_nil]; exact h
theorem flat_dd {d : Option Int} : okD 1 (dd d) := by
  cases d with
  | some l => exact ⟨(by show 2 ≤ 1000; decide), fun e he => by
      rcases List.mem_cons.mp he with z | z
      · rw [z]; rfl
      · rw [List.mem_singleton.mp z]; rfl⟩
  | none => exact ⟨(by show 1 ≤ 1000; decide), fun e he => by rw [List.mem_singleton.mp he]; rfl⟩
theorem ok_hist {hs : List (Option Int)} (h : hs.length ≤ 1000) : okD 2 (hist hs) := ⟨by rw [List.length_map]; exact h, fun e he => by
  obtain ⟨d, _, rfl⟩ := List.mem_map.mp he
  exact flat_dd⟩
theorem ok_word {ws : List Int} (h : ws.length ≤ 1000) : okD 1 (word ws) := ⟨by rw [List.length_map]; exact h, fun e he => by
  obtain ⟨d, _, rfl⟩ := List.mem_map.mp he
  rfl⟩
theorem tup_word (ws : List Int) : tupD (word ws) = word ws := by
  unfold word
  rw [tupD, tupDs_map, List.map_map]
  rfl
theorem tup_dd (d : Option Int) : tupD (dd d) = dd d := by cases d <;> rfl
theorem tup_hist (hs : List (Option Int)) : tupD (hist hs) = hist hs := by
  unfold hist
  rw [tupD, tupDs_map, List.map_map, show tupD ∘ dd = dd from funext tup_dd]
/-- a history, lists maybe in the place of tuples -/
structure IsHist (d : PyData) (hs : List (Option Int)) : Prop where
  ok : okD 2 d
  eq : tupD d = hist hs
  len : hs.length ≤ 1000
theorem isHist {hs : List (Option Int)} (h : hs.length ≤ 1000) : IsHist (hist hs) hs := ⟨ok_hist h, tup_hist hs, h⟩
def spSound : Sp := fun vs H Q _ => ∃ (x : V) (d : PyData) (hs : List (Option Int)), vs = [x] ∧ Td H x d ∧ IsHist d hs ∧ ∀ b H', (b = true ↔ sound hs) → Same H H' → Q (.bl b) H'
/-- what the written part says of Unfit -/
structure UfTxt (K : PySem.W.Frag) (mg : Str → Option Value) (C : Addr) : Prop where
  gC : mg "Unfit" = some (.ref C)
  ei : PySem.W.excIn K C [.type "ValueError", .type "Exception", .type "BaseException", .type "object"] "ValueError.__new__" = true
  kC : PySem.W.keepIn K (.ref C) = true
  exC : PySem.W.subIn K (.ref C) (.type "BaseException") = some true
  tyC : PySem.W.typeIn K (.ref C) = some (.type "type")
  te : PySem.W.exmOne K (.ref C) (.ref C) = some true
  isV : PySem.W.kitOne K (.ref C) (.type "ValueError") = some true
  ec : ExcC K C
def spSure (C : Addr) : Sp := fun vs H Q E => ∃ (S : List Addr) (x : V) (d : PyData) (hs : List (Option Int)), vs = [x] ∧ Out S H ∧ Td (wo S H) x d ∧ IsHist d hs ∧
  (sound hs → ∀ v H', Same H H' → Td (wo S H') v (hist hs) → Q v H') ∧ (¬ sound hs → ∀ H', Same H H' → E (.ref C) none H')
section
variable {P : Program} {w : World} {K : PySem.W.Frag} {mg : Str → Option Value} {base : Heap} {f : Addr} {fd : FuncData} {fT fS : Addr} {fdT fdS : FuncData} {C : Addr}
theorem ok_is_sound (F : Fun K "is_sound" "is_sound" s_is_sound f fd) (CT : Cal P w K mg base CX0 3 "tuple_of" ["thing"] (spTup 2) fT fdT) (CS : Cal P w K mg base CX0 1 "is_sound_in" ["history"] spSoundIn fS fdS) : FnOk P w K mg base CX0 4 f fd ["history"] spSound := by
  refine F.ok sc_is_sound (fun vs H Q E h => ?_) (fun cdv A outer s H vs Q E hr h => ?_)
  · obtain ⟨x, d, hs, rfl, _⟩ := h
    rfl
  obtain ⟨x, d, hs, rfl, hx, hd, q⟩ := h
  refine ⟨_, pss_one (ps_ret (pcall CS (hr.mono (by decide)) pass0 (pa_cons (pcall CT hr pass0 (pa_cons (pv 0) pa_nil)) pa_nil))), ?_⟩
  refine ⟨x, rfl, [], x, d, rfl, Out.nil, wo_nil_td hx, hd.ok, fun v H' sm hv => ?_⟩
  rw [hd.eq] at hv
  exact ⟨v, hs, rfl, hv.mono wo_sub, fun b hb => q b H' hb sm⟩
theorem ok_sure_history (F : Fun K "sure_history" "sure_history" s_sure_history f fd) (U : UfTxt K mg C) (CT : Cal P w K mg base CX0 3 "tuple_of" ["thing"] (spTup 2) fT fdT) (CS : Cal P w K mg base CX0 1 "is_sound_in" ["history"] spSoundIn fS fdS) :
    FnOk P w K mg base (L2.CX P w) 4 f fd ["history"] (spSure C) := by
  refine F.okX sc_sure_history (fun vs H Q E h => ?_) (fun cdv A outer s H vs Q E hr h => ?_)
  · obtain ⟨S, x, d, hs, rfl, _⟩ := h
    rfl
  obtain ⟨S, x, d, hs, rfl, hS, hx, hd, q, e⟩ := h
  have nd := sc_sure_history.nd
  refine ⟨_, pss_cons (ps_set (i := 1) nd rfl (.inl rfl) (pcall CT hr pass0 (pa_cons (pv 0) pa_nil)))
    (pss_cons (ps_if (pt_not (pt_val (pcall CS (hr.mono (by decide)) pass0 (pa_cons (pv 1) pa_nil))))
      (pss_one (ps_raise rfl (takes_of rfl rfl rfl rfl) (pmk_own0 PySem.F.excBase_ValueError U.ei U.gC U.kC (raises_own U.exC U.tyC) rfl))) pss_nil)
    (pss_one (ps_ret (pv 1)))), ?_⟩
  refine ⟨x, rfl, S, x, d, rfl, hS, hx, hd.ok, fun v H' sm hv => ?_⟩
  rw [hd.eq] at hv
  refine ⟨v, rfl, v, hs, rfl, hv.mono wo_sub, fun b hb => ⟨b, rfl, ?_⟩⟩
  cases b with
  | true => exact ite_no rfl ⟨v, rfl, q (hb.mp rfl) v H' sm hv⟩
  | false => exact ite_yes rfl (e (fun z => nomatch hb.mpr z) H' sm)
/-! ### puts, outs -/
def spPuts : Sp := fun vs H Q _ => ∃ (S : List Addr) (x : V) (ws : List Int), vs = [x] ∧ Out S H ∧ Td (wo S H) x (word ws) ∧ ws.length ≤ 1000 ∧ ∀ v H', Same H H' → Td (wo S H') v (hist (ws.map some)) → Q v H'
theorem ok_puts (F : Fun K "puts" "puts" s_puts f fd) (mt : mg "tuple" = none) : FnOk P w K mg base CX0 1 f fd ["word"] spPuts := by
  refine F.ok sc_puts (fun vs H Q E h => ?_) (fun cdv A outer s H vs Q E hr h => ?_)
  · obtain ⟨S, x, ws, rfl, _⟩ := h
    rfl
  obtain ⟨S, x, ws, rfl, hS, hx, hl, q⟩ := h
  have nd := sc_puts.nd
  obtain ⟨a, xs, rfl, ha, ht⟩ := hx.inv_tup
  refine ⟨_, pss_one (ps_ret (pe_callTy call_tuple_of (by rfl) mt (by decide +kernel) (pa_cons (pe_lc (own := [("letter", 1)]) (g := gName 1) (tt := tYes) (by rfl) nd (pi_tup (pv 0)) (blkOk_by (N := n_puts) (sc := defScope s_puts) (by decide +kernel)) (fun _ _ _ _ _ => pg_name (i := 1) nd rfl (Or.inl rfl)) (fun _ _ _ _ _ => pts_nil)
    (fun _ _ _ _ _ => pe_tup (pa_cons pe_str (pa_cons (pv 1) pa_nil)))) pa_nil))), ?_⟩
  refine ⟨.ref a, rfl, a, rfl, ⟨xs, SqT.of (wo_of ha)⟩, fun D hD => ?_⟩
  refine lc_eachT (S := S) (G := fun d => .tuple [.str "in", d]) hS hD (wo_of ha) ht (by rw [List.length_map]; exact hl) (fun y d H2 R hd sm hO hyd hR => ?_) (fun H2 ys sm eD hys => ?_)
  · refine ⟨rfl, y, rfl, by show 2 ≤ sizeLine; decide, fun p hp => hR _ _ (same_upd hp _) (tup_new hO hp (.cons (.str _) (.one hyd)))⟩
  · refine ⟨D, ys, rfl, .inl ⟨SqL.of eD, fun l hl2 => q _ _ (sm.trans (same_upd hl2 _)) ?_⟩⟩
    unfold hist
    rw [List.map_map]
    rw [List.map_map] at hys
    exact tup_new (hS.mono sm) hl2 (hys.mono wo_cons)
def spOuts : Sp := fun vs H Q _ => ∃ (S : List Addr), vs = [.int 1] ∧ Out S H ∧ ∀ v H', Same H H' → Td (wo S H') v (hist [none]) → Q v H'
theorem ok_outs (F : Fun K "outs" "outs" s_outs f fd) : FnOk P w K mg base CX0 1 f fd ["many"] spOuts := by
  refine F.ok sc_outs (fun vs H Q E h => ?_) (fun cdv A outer s H vs Q E hr h => ?_)
  · obtain ⟨S, rfl, _⟩ := h
    rfl
  obtain ⟨S, rfl, hS, q⟩ := h
  refine ⟨_, pss_one (ps_ret (pe_op op_repD (pe_tup (pa_cons (pe_tup (pa_cons pe_str pa_nil)) pa_nil)) (pv 0))), ?_⟩
  refine ⟨by show 1 ≤ sizeLine; decide, fun p1 h1 => ⟨by show 1 ≤ sizeLine; decide, fun p2 h2 => ?_⟩⟩
  have t1 : Td (wo S (upd H p1 (.tup [.str "out"]))) (.ref p1) (dd none) := tup_new hS h1 (.one (.str _))
  have t2 := tup_new (hS.upd _) h2 (TdL.one t1)
  refine ⟨_, rfl, S, [dd none], 1, rfl, (hS.upd _).upd _, t2, List.cons_ne_nil _ _, by decide, by decide, (by show 1 ≤ 1000; decide), fun v H' sm hv => q v H' ((same_upd h1 _).trans ((same_upd h2 _).trans sm)) hv⟩
/-! ### behind -/
def spBehind : Sp := fun vs H Q _ => ∃ (S : List Addr) (m : Bool) (x y : V) (ws : List Int) (d : Option Int), vs = [.str (md m), x, y] ∧ Out S H ∧ Td (wo S H) x (word ws) ∧ Td (wo S H) y (dd d) ∧ ws.length ≤ 900 ∧ ∀ v H', Same H H' → Td (wo S H') v (word (beh m ws d)) → Q v H'
theorem md_q (m : Bool) : decide (V.str (md m) = V.str "queue") = m := by cases m <;> decide +kernel
theorem ok_behind (F : Fun K "behind" "behind" s_behind f fd) : FnOk P w K mg base CX0 1 f fd ["mode", "word", "deed"] spBehind := by
  refine F.ok sc_behind (fun vs H Q E h => ?_) (fun cdv A outer s H vs Q E hr h => ?_)
  · obtain ⟨S, m, x, y, ws, d, rfl, _⟩ := h
    rfl
  obtain ⟨S, m, x, y, ws, d, rfl, hS, hx, hy, hl, q⟩ := h
  refine ⟨_, pss_cons (ps_if (pt_cmpR op_eq (pe_ix ix_tup (pv 2) pe_int (fun _ _ => rfl)) pe_str (nomark _)) (pss_one (ps_ret (pe_op op_catD (pv 1) (pe_tup (pa_cons (pe_ix ix_tup (pv 2) pe_int (fun _ _ => rfl)) pa_nil))))) pss_nil)
    (pss_one (ps_ret (pe_ifExp (pt_cmpR op_eq (pv 0) pe_str (nomark _)) (pe_slice sl_tupD (pv 1) (po_some pe_int) po_none) (pe_slice sl_tupD (pv 1) po_none (po_some (pe_un un_neg pe_int)))))), ?_⟩
  cases d with
  | some l =>
    obtain ⟨t, rfl, et⟩ := deed_in hy
    have et' := wo_of et
    refine ⟨.ref t, rfl, t, _, 0, .str "in", rfl, rfl, SqT.of et', atI_nat (j := 0) rfl, rfl, _, rfl, ite_yes str_in ?_⟩
    refine ⟨x, rfl, .ref t, rfl, t, _, 1, .int l, rfl, rfl, SqT.of et', atI_nat (j := 1) rfl, by show 1 ≤ sizeLine; decide, fun p hp => ?_⟩
    refine ⟨S, ws.map .int, [.int l], hS.upd _, hx.mono (wo_upd hp _), tup_new hS hp (.one (.int l)), by rw [List.length_map]; show ws.length + 1 ≤ 1000; omega, fun v H' sm hv => q v H' ((same_upd hp _).trans sm) ?_⟩
    unfold word beh
    rw [List.map_append]
    exact hv
  | none =>
    obtain ⟨t, rfl, et⟩ := deed_out hy
    have et' := wo_of et
    refine ⟨.ref t, rfl, t, _, 0, .str "out", rfl, rfl, SqT.of et', atI_nat (j := 0) rfl, rfl, _, rfl, ite_no str_out_in ?_⟩
    refine ⟨_, rfl, rfl, _, rfl, ?_⟩
    rw [md_q]
    cases m with
    | true =>
      refine iteT ⟨x, rfl, 1, rfl, S, ws.map .int, hS, hx, fun v H' sm hv => q v H' sm ?_⟩
      rw [show cutA (ws.map PyData.int) (some 1) none = (ws.map PyData.int).drop 1 from cutA_from _ 1, ← List.map_drop] at hv
      exact hv
    | false =>
      refine iteF ⟨x, rfl, 1, rfl, -1, rfl, S, ws.map .int, hS, hx, fun v H' sm hv => q v H' sm ?_⟩
      rw [cutA_but, ← List.map_dropLast] at hv
      exact hv
end
end K2
/-! K2D2: standings_in, standings, stands, gone_in, letters_out, seen_in, seen -/
namespace K2
open PySem PySem.Spec PyProof.Rows L2
section
variable {H0 H H' : Hp} {l : Addr} {S : List Addr} {xs ys : List V} {ds : List PyData} {v : V} {d : PyData}
theorem same_in (free : H0 l = none) (s : Same H0 H) (o : HO) : Same H0 (upd H l o) := fun b u q => by
  rw [upd_ne (ne_of_none q free)]
  exact s _ _ q
theorem wo_l (free : H0 l = none) (s : Same H0 H) : Same (wo S H0) (wo (l :: S) H) := fun b o e => by
  have e1 := wo_of e
  have nb : b ≠ l := ne_of_none e1 free
  have e3 : b ∉ S := fun z => by
    have e4 : wo S H0 b = none := if_pos z
    rw [e] at e4; cases e4
  rw [wo_out (fun z => (List.mem_cons.mp z).elim nb e3)]
  exact s _ _ e1
/-- the list that is being made, behind an append -/
theorem app_in (t : TdL (wo (l :: S) H) ys ds) (h : Td (wo (l :: S) H) v d) (o : HO) : TdL (wo (l :: S) (upd H l o)) (ys ++ [v]) (ds ++ [d]) := by
  rw [wo_in List.mem_cons_self]
  exact t.append (.one h)
/-- the list that was made, handed on -/
theorem lst_done (hl : l ∉ S) (e : H l = some (.lst ys)) (t : TdL (wo (l :: S) H) ys ds) : Td (wo S H) (.ref l) (.list ds) :=
  .lst ((wo_out hl).trans e) (t.mono wo_cons)
end
theorem some_str (x : Str) : (some (V.str x)) = some (V.str x) := rfl
/-! ### standings_in -/
def rowsD (q : Bool) (hs : List (Option Int)) : PyData := .list ((rows q hs).map word)
def spStandIn : Sp := fun vs H Q _ => ∃ (S : List Addr) (m : Bool) (h : V) (hs : List (Option Int)), vs = [.str (md m), h] ∧ Out S H ∧ Td (wo S H) h (hist hs) ∧ hs.length ≤ 900 ∧ ∀ v H', Same H H' → Td (wo S H') v (rowsD m hs) → Q v H'
section
variable {P : Program} {w : World} {K : PySem.W.Frag} {mg : Str → Option Value} {base : Heap} {f : Addr} {fd : FuncData} {fB fS : Addr} {fdB fdS : FuncData} {C : Addr}
theorem ok_standings_in (F : Fun K "standings_in" "standings_in" s_standings_in f fd) (CB : Cal P w K mg base CX0 1 "behind" ["mode", "word", "deed"] spBehind fB fdB) : FnOk P w K mg base CX0 2 f fd ["mode", "history"] spStandIn := by
  refine F.ok sc_standings_in (fun vs H Q E h => ?_) (fun cdv A outer s H vs Q E hr h => ?_)
  · obtain ⟨S, m, h, hs, rfl, _⟩ := h
    rfl
  obtain ⟨S, m, h, hs, rfl, hS, hh, hl, q⟩ := h
  have nd := sc_standings_in.nd
  obtain ⟨a, xs, rfl, ha, hx⟩ := hist_inv hh
  have hlen : xs.length = hs.length := by rw [hx.length, List.length_map]
  refine ⟨_, pss_cons (ps_set (i := 2) nd rfl (.inl rfl) (pe_lst (pa_cons (pe_tup pa_nil) pa_nil)))
    (pss_cons (ps_for PassesOwn.never rfl (pi_tup (pv 1)) (pg_name (i := 3) nd rfl (.inl rfl))
      (pss_one (ps_expr (pe_bm PySem.F.plainAttrs_list PySem.F.slot_list_append PySem.F.type_list_append mt_append (pv 2)
        (pa_cons (pcall CB hr pass0 (pa_cons (pv 0) (pa_cons (pe_ix ix_list (pv 2) (pe_un un_neg pe_int) (fun _ _ => rfl)) (pa_cons (pv 3) pa_nil)))) pa_nil)))))
    (pss_one (ps_ret (pv 2)))), ?_⟩
  refine ⟨Nat.zero_le _, fun p0 h0 => ⟨by show 1 ≤ sizeLine; decide, fun l hl2 => ?_⟩⟩
  have s0 := same_upd h0 (.tup [])
  have fl : H l = none := s0.free hl2
  have nS : l ∉ S := hS.not_mem fl
  refine ⟨.ref a, rfl, a, rfl, ⟨xs, SqT.of (same_in fl s0 _ _ _ (wo_of ha))⟩, ?_⟩
  refine for_tup (xs := xs) (fun i σ H' => Same H H' ∧ (∃ ys, H' l = some (.lst ys) ∧ TdL (wo (l :: S) H') ys ((rowsR m hs (i + 1)).map word)) ∧ ∃ y, σ = [some (.str (md m)), some (.ref a), some (.ref l), y]) ⟨same_in fl s0 _, ⟨_, upd_same, ?_⟩, none, rfl⟩ (fun i σ H' _ h => SqT.of (h.1 _ _ (wo_of ha))) (fun i x σ H' hi h => ?_) (fun σ H' h => ?_)
  · rw [wo_in List.mem_cons_self]
    exact .one ((tup_new hS h0 .nil).mono (wo_l (H0 := upd H p0 (.tup [])) hl2 (Same.refl _)))
  · obtain ⟨sm, ⟨ys, eL, ht⟩, y, rfl⟩ := h
    obtain ⟨d, hd, hxd⟩ := hist_at hx hi
    have hil := lt_of_get' hd
    have hO : Out (l :: S) H' := (hS.mono sm).cons eL
    have elast : atI ((rowsR m hs (i + 1)).map word) (-1) = some (word (stt m hs i)) := by
      rw [rowsR_succ, List.map_append]
      exact atI_last _ _
    obtain ⟨u, hu, hw⟩ := at_td ht elast
    have hle := stt_le (q := m) (hs := hs) i
    refine ⟨.ref l, rfl, .inl ⟨rfl, _, SqL.of eL⟩, .str (md m), rfl, .ref l, rfl, 1, rfl, l, ys, -1, u, rfl, rfl, SqL.of eL, hu, x, rfl, ?_⟩
    refine ⟨l :: S, m, u, x, stt m hs i, d, rfl, hO, hw, hxd.mono (wo_l fl sm), by omega, fun v2 H3 sm3 hv2 => ?_⟩
    refine ⟨l, ys, v2, rfl, rfl, sm3 _ _ eL, ?_, same_in fl (sm.trans sm3) _, ⟨_, upd_same, ?_⟩, _, rfl⟩
    · rw [ht.length, List.length_map, rowsR_len]
      exact small (by omega)
    · rw [rowsR_succ (n := i + 1), List.map_append, stt_succ hd]
      exact app_in (ht.mono (wo_mono sm3)) hv2 _
  · obtain ⟨sm, ⟨ys, eL, ht⟩, y, rfl⟩ := h
    rw [hlen] at ht
    exact ⟨.ref l, rfl, q _ H' sm (lst_done nS eL ht)⟩
/-! ### standings, stands -/
def spStandings (C : Addr) : Sp := fun vs H Q E => ∃ (S : List Addr) (m : Bool) (x : V) (d : PyData) (hs : List (Option Int)), vs = [.str (md m), x] ∧ Out S H ∧ Td (wo S H) x d ∧ IsHist d hs ∧ hs.length ≤ 900 ∧ sound hs ∧
  ∀ v H', Same H H' → Td (wo S H') v (rowsD m hs) → Q v H'
theorem pass_no {X : Cx} {C : Addr} : Passes (L2.CX X.prog X.w) X E0 := passL
theorem ok_standings (F : Fun K "standings" "standings" s_standings f fd) (CB : Cal P w K mg base CX0 2 "standings_in" ["mode", "history"] spStandIn fB fdB) (CS : Cal P w K mg base (L2.CX P w) 4 "sure_history" ["history"] (spSure C) fS fdS) :
    FnOk P w K mg base CX0 5 f fd ["mode", "history"] (spStandings C) := by
  refine F.ok sc_standings (fun vs H Q E h => ?_) (fun cdv A outer s H vs Q E hr h => ?_)
  · obtain ⟨S, m, x, d, hs, rfl, _⟩ := h
    rfl
  obtain ⟨S, m, x, d, hs, rfl, hS, hx, hd, hl, hso, q⟩ := h
  refine ⟨_, pss_one (ps_ret (pcall CB (hr.mono (by decide)) pass0 (pa_cons (pv 0) (pa_cons (pcall CS hr passL (pa_cons (pv 1) pa_nil)) pa_nil)))), ?_⟩
  refine ⟨_, rfl, x, rfl, S, x, d, hs, rfl, hS, hx, hd, fun _ v H1 s1 hv => ?_, fun z => absurd hso z⟩
  exact ⟨S, m, v, hs, rfl, hS.mono s1, hv, hl, fun v2 H2 s2 hv2 => q v2 H2 (s1.trans s2) hv2⟩
def spStands : Sp := fun vs H Q E => ∃ (S : List Addr) (m : Bool) (x : V) (d : PyData) (hs : List (Option Int)), vs = [.str (md m), x] ∧ Out S H ∧ Td (wo S H) x d ∧ IsHist d hs ∧ hs.length ≤ 900 ∧ sound hs ∧
  ∀ v H', Same H H' → Td (wo S H') v (word (stt m hs hs.length)) → Q v H'
theorem ok_stands (F : Fun K "stands" "stands" s_stands f fd) (CS : Cal P w K mg base CX0 5 "standings" ["mode", "history"] (spStandings C) fS fdS) : FnOk P w K mg base CX0 6 f fd ["mode", "history"] spStands := by
  refine F.ok sc_stands (fun vs H Q E h => ?_) (fun cdv A outer s H vs Q E hr h => ?_)
  · obtain ⟨S, m, x, d, hs, rfl, _⟩ := h
    rfl
  obtain ⟨S, m, x, d, hs, rfl, hS, hx, hd, hl, hso, q⟩ := h
  refine ⟨_, pss_one (ps_ret (pe_ix ix_D (pcall CS hr pass0 (pa_cons (pv 0) (pa_cons (pv 1) pa_nil))) (pe_un un_neg pe_int) (fun _ _ => rfl))), ?_⟩
  refine ⟨_, rfl, x, rfl, S, m, x, d, hs, rfl, hS, hx, hd, hl, hso, fun v H1 s1 hv => ?_⟩
  refine ⟨1, rfl, S, _, -1, word (stt m hs hs.length), rfl, .inr hv, ?_, fun v2 hv2 => q v2 H1 s1 hv2⟩
  unfold rows
  rw [rowsR_succ, List.map_append]
  exact atI_last _ _
end
end K2
/-! K2D3: gone_in, letters_out, seen_in, seen -/
namespace K2
open PySem PySem.Spec PyProof.Rows L2
/-! ### gone_in -/
def spGone : Sp := fun vs H Q _ => ∃ (m : Bool) (x : V) (ws : List Int), vs = [.str (md m), x] ∧ Td H x (word ws) ∧ ws ≠ [] ∧ Q (.int (gone1 m ws)) H
section
variable {P : Program} {w : World} {K : PySem.W.Frag} {mg : Str → Option Value} {base : Heap} {f : Addr} {fd : FuncData} {fB fS fG : Addr} {fdB fdS fdG : FuncData} {C : Addr}
theorem ok_gone_in (F : Fun K "gone_in" "gone_in" s_gone_in f fd) : FnOk P w K mg base CX0 1 f fd ["mode", "word"] spGone := by
  refine F.ok sc_gone_in (fun vs H Q E h => ?_) (fun cdv A outer s H vs Q E hr h => ?_)
  · obtain ⟨m, x, ws, rfl, _⟩ := h
    rfl
  obtain ⟨m, x, ws, rfl, hx, hne, q⟩ := h
  obtain ⟨a, rfl, ha⟩ := word_inv hx
  refine ⟨_, pss_one (ps_ret (pe_ifExp (pt_cmpR op_eq (pv 0) pe_str (nomark _)) (pe_ix ix_tup (pv 1) pe_int (fun _ _ => rfl)) (pe_ix ix_tup (pv 1) (pe_un un_neg pe_int) (fun _ _ => rfl)))), ?_⟩
  refine ⟨_, rfl, rfl, _, rfl, ?_⟩
  rw [md_q]
  cases ws with
  | nil => exact absurd rfl hne
  | cons b r =>
    cases m with
    | true => exact iteT ⟨.ref a, rfl, a, _, 0, .int b, rfl, rfl, SqT.of ha, atI_nat (j := 0) rfl, q⟩
    | false =>
      refine iteF ⟨.ref a, rfl, 1, rfl, a, _, -1, .int (gone1 false (b :: r)), rfl, rfl, SqT.of ha, ?_, q⟩
      have e : gone1 false (b :: r) = (b :: r).getLast hne := by
        show (b :: r).getLastD 0 = _
        rw [List.getLastD_eq_getLast?, List.getLast?_eq_some_getLast hne]
        rfl
      rw [e]
      have hz : ((b :: r).map V.int) = ((b :: r).dropLast.map V.int) ++ [.int ((b :: r).getLast hne)] := by
        rw [← List.map_singleton, ← List.map_append, List.dropLast_concat_getLast]
      rw [hz]
      exact atI_last _ _
/-! ### letters_out -/
def spLettersOut : Sp := fun vs H Q E => ∃ (S : List Addr) (m : Bool) (x : V) (d : PyData) (hs : List (Option Int)), vs = [.str (md m), x] ∧ Out S H ∧ Td (wo S H) x d ∧ IsHist d hs ∧ hs.length ≤ 900 ∧ sound hs ∧
  ∀ v H', Same H H' → Td (wo S H') v (word (goneR m hs hs.length)) → Q v H'
theorem ok_letters_out (F : Fun K "letters_out" "letters_out" s_letters_out f fd) (mt : mg "tuple" = none) (mz : mg "zip" = none) (CB : Cal P w K mg base CX0 2 "standings_in" ["mode", "history"] spStandIn fB fdB) (CS : Cal P w K mg base (L2.CX P w) 4 "sure_history" ["history"] (spSure C) fS fdS)
    (CG : Cal P w K mg base CX0 1 "gone_in" ["mode", "word"] spGone fG fdG) : FnOk P w K mg base CX0 5 f fd ["mode", "history"] spLettersOut := by
  refine F.ok sc_letters_out (fun vs H Q E h => ?_) (fun cdv A outer s H vs Q E hr h => ?_)
  · obtain ⟨S, m, x, d, hs, rfl, _⟩ := h
    rfl
  obtain ⟨S, m, x, d, hs, rfl, hS, hx, hd, hl, hso, q⟩ := h
  have nd := sc_letters_out.nd
  refine ⟨_, pss_cons (ps_set (i := 2) nd rfl (.inl rfl) (pcall CS hr passL (pa_cons (pv 1) pa_nil)))
    (pss_cons (ps_set (i := 3) nd rfl (.inl rfl) (pcall CB (hr.mono (by decide)) pass0 (pa_cons (pv 0) (pa_cons (pv 2) pa_nil))))
    (pss_one (ps_ret (pe_callTy call_tuple_of (by rfl) mt (by decide +kernel) (pa_cons (pe_lc (own := [("word", 4), ("deed", 5)]) (g := gTup K 2 (gCons (gName 4) (gCons (gName 5) gNil))) (by rfl) nd (pi_zipM (by rfl) mz (pa_cons (pv 3) (pa_cons (pv 2) pa_nil))) (blkOk_by (N := n_letters_out) (sc := defScope s_letters_out) (by decide +kernel))
      (fun _ _ _ _ _ => pg_tup rfl (pgs_cons (pg_name (i := 4) nd rfl (Or.inl rfl)) (pgs_cons (pg_name (i := 5) nd rfl (Or.inl rfl)) pgs_nil)))
      (fun _ _ _ _ _ => pts_one (pt_cmpR op_eq (pe_ix ix_D (pv 5) pe_int (fun _ _ => rfl)) pe_str (nomark _)))
      (fun _ _ _ _ _ => pcall CG (hr.mono (by decide)) pass0 (pa_cons (pv 0) (pa_cons (pv 4) pa_nil)))) pa_nil))))), ?_⟩
  refine ⟨x, rfl, S, x, d, hs, rfl, hS, hx, hd, fun _ v H1 s1 hv => ?_, fun z => absurd hso z⟩
  refine ⟨_, rfl, v, rfl, S, m, v, hs, rfl, hS.mono s1, hv, hl, fun r H2 s2 hr2 => ?_⟩
  have hv2 := hv.mono (wo_mono s2)
  obtain ⟨a, xs, rfl, ha, hx2⟩ := hist_inv hv2
  obtain ⟨b, ys, rfl, hb, hy2⟩ := hr2.inv_lst
  have hlx : xs.length = hs.length := by rw [hx2.length, List.length_map]
  have hly : ys.length = hs.length + 1 := by rw [hy2.length, List.length_map]; exact rowsR_len
  refine ⟨.ref b, rfl, .ref a, rfl, b, a, ys, xs, rfl, SqL.of (wo_of hb), SqT.of (wo_of ha), fun D hD => ?_⟩
  refine lc_any (n := hs.length) (fun i H' => Same H2 H' ∧ H' D = some (.lst ((goneR m hs i).map V.int))) ⟨same_upd hD _, upd_same⟩ (fun H' h => ⟨ys, xs, SqL.of (h.1 _ _ (wo_of hb)), SqT.of (h.1 _ _ (wo_of ha)), by omega, by omega, .inr (by omega)⟩)
    (fun i H' hi h => ⟨ys, xs, ys[i], xs[i], SqL.of (h.1 _ _ (wo_of hb)), SqT.of (h.1 _ _ (wo_of ha)), List.getElem?_eq_getElem _, List.getElem?_eq_getElem _⟩) (fun i H' z H3 hi h hz => ?_) (fun H' h => ?_)
  · obtain ⟨sm, eD⟩ := h
    obtain ⟨T, y, x2, rfl, nT, rfl, f1, f2⟩ := hz
    have ey := f1 _ (SqL.of (sm _ _ (wo_of hb)))
    have ex := f2 _ (SqT.of (sm _ _ (wo_of ha)))
    obtain ⟨dv, hdv, hxd⟩ := hist_at hx2 ex
    obtain ⟨dw, hdw, hyw⟩ := hy2.got ey
    have edw : dw = word (stt m hs i) := by
      rw [List.getElem?_map, show rows m hs = rowsR m hs (hs.length + 1) from rfl, rowsR_at (by omega)] at hdw
      exact (Option.some.inj hdw).symm
    subst edw
    have sT := same_upd nT (.tup [y, x2])
    have nDT : D ≠ T := ne_of_none eD nT
    have up : Same (wo S H2) (upd H' T (.tup [y, x2])) := fun b o e => sT _ _ (sm _ _ (wo_of e))
    refine ⟨T, [y, x2], rfl, SqT.of upd_same, rfl, y, [x2], rfl, x2, [], rfl, rfl, rfl, ?_⟩
    have hxd2 : Td (wo [] (upd H' T (.tup [y, x2]))) x2 (dd dv) := wo_nil_td (hxd.mono up)
    cases dv with
    | some l =>
      obtain ⟨t, rfl, et⟩ := deed_in hxd
      refine ⟨.ref t, rfl, [], _, 0, .str "in", rfl, .inl hxd2, atI_nat (j := 0) rfl, fun v0 hv0 => ?_⟩
      rw [hv0.inv_str]
      refine ⟨rfl, _, rfl, ite_no str_in_out ?_⟩
      exact ⟨sm.trans sT, by rw [upd_ne nDT, goneR_in hdv]; exact eD⟩
    | none =>
      obtain ⟨t, rfl, et⟩ := deed_out hxd
      refine ⟨.ref t, rfl, [], _, 0, .str "out", rfl, .inl hxd2, atI_nat (j := 0) rfl, fun v0 hv0 => ?_⟩
      rw [hv0.inv_str]
      refine ⟨rfl, _, rfl, ite_yes str_out ?_⟩
      have gl := goneR_len (q := m) (hs := hs) i
      refine ⟨_, rfl, y, rfl, m, y, stt m hs i, rfl, hyw.mono up, stt_ne hso hdv, (goneR m hs i).map V.int, (upd_ne nDT).trans eD, ?_, same_in hD (sm.trans sT) _, ?_⟩
      · rw [List.length_map]
        exact small (by omega)
      · rw [upd_same, goneR_out hdv, List.map_append]
        rfl
  · obtain ⟨sm, eD⟩ := h
    refine ⟨D, _, rfl, .inl ⟨SqL.of eD, fun l hl2 => q _ _ (((s1.trans s2).trans sm).trans (same_upd hl2 _)) ?_⟩⟩
    exact tup_new (((hS.mono s1).mono s2).mono sm) hl2 (.ints _)
/-! ### seen_in, seen -/
def spSeenIn : Sp := fun vs H Q _ => ∃ (S : List Addr) (m : Bool) (x : V) (ws : List Int) (k : Nat), vs = [.str (md m), x, .int k] ∧ Out S H ∧ Td (wo S H) x (word ws) ∧ ∀ v H', Same H H' → Td (wo S H') v (word (seenW m ws k)) → Q v H'
theorem ok_seen_in (F : Fun K "seen_in" "seen_in" s_seen_in f fd) (mm : mg "max" = none) (ml : mg "len" = none) : FnOk P w K mg base CX0 1 f fd ["mode", "word", "shown"] spSeenIn := by
  refine F.ok sc_seen_in (fun vs H Q E h => ?_) (fun cdv A outer s H vs Q E hr h => ?_)
  · obtain ⟨S, m, x, ws, k, rfl, _⟩ := h
    rfl
  obtain ⟨S, m, x, ws, k, rfl, hS, hx, q⟩ := h
  refine ⟨_, pss_one (ps_ret (pe_ifExp (pt_cmpR op_eq (pv 0) pe_str (nomark _)) (pe_slice sl_tupD (pv 1) po_none (po_some (pv 2)))
    (pe_slice sl_tupD (pv 1) (po_some (pe_callB (call_max2 rfl) (by rfl) mm (by decide +kernel) (pa_cons pe_int (pa_cons (pe_op op_sub (pe_callB call_lenD' (by rfl) ml PySem.boot_len (pa_cons (pv 1) pa_nil)) (pv 2)) pa_nil)))) po_none))), ?_⟩
  refine ⟨_, rfl, rfl, _, rfl, ?_⟩
  rw [md_q]
  cases m with
  | true =>
    refine iteT ⟨x, rfl, _, rfl, k, rfl, S, ws.map .int, hS, hx, fun v H' sm hv => q v H' sm ?_⟩
    rw [cutA_to, ← List.map_take] at hv
    exact hv
  | false =>
    refine iteF ⟨x, rfl, x, rfl, S, x, _, rfl, .inl hx, _, rfl, _, _, rfl, rfl, 0, _, rfl, _, rfl, S, ws.map .int, hS, hx, fun v H' sm hv => q v H' sm ?_⟩
    have e : (if ((ws.map PyData.int).length : Int) - (k : Int) > 0 then ((ws.map PyData.int).length : Int) - (k : Int) else 0) = ((ws.length - k : Nat) : Int) := by
      rw [List.length_map]
      split <;> omega
    rw [e, cutA_from, ← List.map_drop] at hv
    exact hv
def spSeen : Sp := fun vs H Q _ => ∃ (S : List Addr) (m : Bool) (x : V) (ws : List Int) (k : Nat), vs = [.str (md m), x, .int k] ∧ Out S H ∧ Td (wo S H) x (word ws) ∧ ws.length ≤ 900 ∧ ∀ v H', Same H H' → Td (wo S H') v (word (seenW m ws k)) → Q v H'
theorem ok_seen (F : Fun K "seen" "seen" s_seen f fd) (CB : Cal P w K mg base CX0 1 "seen_in" ["mode", "word", "shown"] spSeenIn fB fdB) (CS : Cal P w K mg base CX0 3 "tuple_of" ["thing"] (spTup 2) fS fdS) : FnOk P w K mg base CX0 4 f fd ["mode", "word", "shown"] spSeen := by
  refine F.ok sc_seen (fun vs H Q E h => ?_) (fun cdv A outer s H vs Q E hr h => ?_)
  · obtain ⟨S, m, x, ws, k, rfl, _⟩ := h
    rfl
  obtain ⟨S, m, x, ws, k, rfl, hS, hx, hl, q⟩ := h
  refine ⟨_, pss_one (ps_ret (pcall CB (hr.mono (by decide)) pass0 (pa_cons (pv 0) (pa_cons (pcall CS hr pass0 (pa_cons (pv 1) pa_nil)) (pa_cons (pv 2) pa_nil))))), ?_⟩
  refine ⟨_, rfl, x, rfl, S, x, _, rfl, hS, hx, okD_mono (ok_word (by omega)) (by decide), fun v H1 s1 hv => ?_⟩
  rw [tup_word] at hv
  exact ⟨_, rfl, S, m, v, ws, k, rfl, hS.mono s1, hv, fun v2 H2 s2 hv2 => q v2 H2 (s1.trans s2) hv2⟩
end
end K2
/-! K2D4: heard_along -/
namespace K2
open PySem PySem.Spec PyProof.Rows L2
theorem firstBad_at {n i : Nat} {hs : List (Option Int)} {d : Option Int} {l : Int} (h0 : (hs.take i).filterMap (tooBig n) = []) (hd : hs[i]? = some d) (hb : tooBig n d = some l) : firstBad n hs = some l := by
  have hil := lt_of_get' hd
  have e : hs = hs.take i ++ d :: hs.drop (i + 1) := by
    have z := List.drop_eq_getElem_cons hil
    rw [List.getElem?_eq_getElem hil] at hd
    rw [Option.some.inj hd] at z
    rw [← z, List.take_append_drop]
  unfold firstBad
  rw [e, List.filterMap_append, h0, List.filterMap_cons, hb]
  rfl
theorem noBad_lets {n : Nat} {hs : List (Option Int)} (h1 : ∀ l, some l ∈ hs → 1 ≤ l) (h : hs.filterMap (tooBig n) = []) : lets n hs := fun l hl => by
  refine ⟨h1 l hl, ?_⟩
  have z := List.filterMap_eq_nil_iff.mp h _ hl
  by_cases c : l > (n : Int)
  · rw [show tooBig n (some l) = if l > (n : Int) then some l else none from rfl, if_pos c] at z
    cases z
  · omega
def spHeard (CU CN : Addr) : Sp := fun vs H Q E => ∃ (S : List Addr) (m : Bool) (k : Nat) (x y : V) (d e : PyData) (hs : List (Option Int)) (tel : List Int), vs = [.str (md m), .int k, y, x] ∧ Out S H ∧ Td (wo S H) y e ∧ okD 2 e ∧ tupD e = word tel ∧
  Td (wo S H) x d ∧ IsHist d hs ∧ hs.length ≤ 900 ∧ (∀ l, some l ∈ hs → 1 ≤ l) ∧
  (¬ sound hs → ∀ H', Same H H' → E (.ref CU) none H') ∧
  (sound hs → ∀ l, firstBad tel.length hs = some l → ∀ H' dx, Same H H' → H' dx = some (.xd [(("place" : Str), .int l)]) → E (.ref CN) (some dx) H') ∧
  (sound hs → firstBad tel.length hs = none → ∀ v H', Same H H' → Td (wo S H') v (.list (heardR m k tel hs hs.length)) → Q v H')
section
variable {P : Program} {w : World} {K : PySem.W.Frag} {mg : Str → Option Value} {base : Heap} {f : Addr} {fd : FuncData} {fB fS fG fT fE : Addr} {fdB fdS fdG fdT fdE : FuncData} {CU CN fI : Addr}
set_option maxHeartbeats 4000000 in
theorem ok_heard_along (F : Fun K "heard_along" "heard_along" s_heard_along f fd) (ml : mg "len" = none) (me : mg "enumerate" = none) (T : NpTxt K mg CN fI) (CS : Cal P w K mg base (L2.CX P w) 4 "sure_history" ["history"] (spSure CU) fS fdS) (CT : Cal P w K mg base CX0 3 "tuple_of" ["thing"] (spTup 2) fT fdT)
    (CB : Cal P w K mg base CX0 2 "standings_in" ["mode", "history"] spStandIn fB fdB) (CG : Cal P w K mg base CX0 1 "gone_in" ["mode", "word"] spGone fG fdG) (CE : Cal P w K mg base CX0 1 "seen_in" ["mode", "word", "shown"] spSeenIn fE fdE) :
    FnOk P w K mg base (L2.CX P w) 5 f fd ["mode", "shown", "telling", "history"] (spHeard CU CN) := by
  refine F.okX sc_heard_along (fun vs H Q E h => ?_) (fun cdv A outer s H vs Q E hr h => ?_)
  · obtain ⟨S, m, k, x, y, d, e, hs, tel, rfl, _⟩ := h
    rfl
  obtain ⟨S, m, k, x, y, d, e, hs, tel, rfl, hS, hy, hok, hte, hx, hd, hl, h1, eU, eN, q⟩ := h
  have nd := sc_heard_along.nd
  refine ⟨_, pss_cons (ps_par (i := 4) (j := 5) rfl nd rfl rfl (by decide) rfl rfl (pa_cons (pcall CS hr (E := E) (passes_call (takes_of rfl rfl rfl rfl) (fun _ _ _ _ h => h)) (pa_cons (pv 3) pa_nil)) (pa_cons (pcall CT (hr.mono (by decide)) pass0 (pa_cons (pv 2) pa_nil)) pa_nil)) (by rfl))
    (pss_cons (ps_for (passes_of rfl) rfl (pi_tup (pv 4)) (pg_name (i := 6) nd rfl (.inl rfl))
      (pss_one (ps_if (PW.pt (pw_and (pt_cmpR op_eq (pe_ix ix_D (pv 6) pe_int (fun _ _ => rfl)) pe_str (nomark _)) (pw_and1 (pt_cmpR op_gt (pe_ix ix_D (pv 6) pe_int (fun _ _ => rfl)) (pe_callB call_lenD' (by rfl) ml PySem.boot_len (pa_cons (pv 5) pa_nil)) (nomark _)))))
        (pss_one (ps_raise rfl (takes_of rfl rfl rfl rfl) (pmk_np T hr (pa_cons (pe_ix ix_D (pv 6) pe_int (fun _ _ => rfl)) pa_nil)))) pss_nil)))
    (pss_cons (ps_par (i := 7) (j := 8) rfl nd rfl rfl (by decide) rfl rfl (pa_cons (pcall CB (hr.mono (by decide)) pass0 (pa_cons (pv 0) (pa_cons (pv 4) pa_nil))) (pa_cons (pe_lst pa_nil) pa_nil)) (by rfl))
    (pss_cons (ps_for (passes_of rfl) rfl (pi_enumT (by rfl) me (pa_cons (pv 4) pa_nil)) (pg_tup rfl (pgs_cons (pg_name (i := 9) nd rfl (.inl rfl)) (pgs_cons (pg_name (i := 6) nd rfl (.inl rfl)) pgs_nil)))
      (pss_cons (ps_set (i := 10) nd rfl (.inl rfl) (pe_ifExp (pt_cmpR op_eq (pe_ix ix_D (pv 6) pe_int (fun _ _ => rfl)) pe_str (nomark _)) (pv 6)
          (pe_tup (pa_cons pe_str (pa_cons (pe_ix ix_D (pv 5) (pe_op op_sub (pcall CG (hr.mono (by decide)) pass0 (pa_cons (pv 0) (pa_cons (pe_ix ix_D (pv 7) (pv 9) (fun _ _ => rfl)) pa_nil))) pe_int) (fun _ _ => rfl)) pa_nil)))))
      (pss_one (ps_expr (pe_bm PySem.F.plainAttrs_list PySem.F.slot_list_append PySem.F.type_list_append mt_append (pv 8)
        (pa_cons (pe_tup (pa_cons (pv 10) (pa_cons (pcall CE (hr.mono (by decide)) pass0 (pa_cons (pv 0) (pa_cons (pe_ix ix_D (pv 7) (pe_op op_add (pv 9) pe_int) (fun _ _ => rfl)) (pa_cons (pv 1) pa_nil)))) pa_nil))) pa_nil))))))
    (pss_one (ps_ret (pv 8)))))), ?_⟩
  -- own, told
  refine ⟨x, rfl, S, x, d, hs, rfl, hS, hx, hd, fun hso v H1 s1 hv => ?_, fun hso H' s' => eU hso H' s'⟩
  refine ⟨y, rfl, S, y, e, rfl, hS.mono s1, hy.mono (wo_mono s1), hok, fun t H2 s2 ht => ?_⟩
  rw [hte] at ht
  have hv2 := hv.mono (wo_mono s2)
  have s12 := s1.trans s2
  have hS2 := hS.mono s12
  refine ⟨v, t, rfl, ?_⟩
  obtain ⟨a, xs, rfl, ha, hxs⟩ := hist_inv hv2
  have hlx : xs.length = hs.length := by rw [hxs.length, List.length_map]
  -- for deed in own
  refine ⟨.ref a, rfl, a, rfl, ⟨xs, SqT.of (wo_of ha)⟩, ?_⟩
  refine for_tup (xs := xs) (fun i σ H' => H' = H2 ∧ (hs.take i).filterMap (tooBig tel.length) = [] ∧ ∃ z, σ = [some (.str (md m)), some (.int k), some y, some x, some (.ref a), some t, z, none, none, none, none]) ⟨rfl, rfl, none, rfl⟩ (fun i σ H' _ h => ?_) (fun i z σ H' hi h => ?_) (fun σ H' h => ?_)
  · rw [h.1]; exact SqT.of (wo_of ha)
  · obtain ⟨rfl, hno, y0, rfl⟩ := h
    obtain ⟨dv, hdv, hz⟩ := hist_at hxs hi
    cases dv with
    | none =>
      refine ⟨z, rfl, S, _, 0, .str "out", rfl, .inl hz, atI_nat (j := 0) rfl, fun v0 hv0 => ?_⟩
      rw [hv0.inv_str]
      refine ⟨rfl, _, rfl, ite_no str_out_in (iteF ⟨rfl, ?_, _, rfl⟩)⟩
      rw [List.take_add_one, hdv, Option.toList_some, List.filterMap_append, hno]
      rfl
    | some l =>
      refine ⟨z, rfl, S, _, 0, .str "in", rfl, .inl hz, atI_nat (j := 0) rfl, fun v0 hv0 => ?_⟩
      rw [hv0.inv_str]
      refine ⟨rfl, _, rfl, ite_yes str_in ⟨z, rfl, S, _, 1, .int l, rfl, .inl hz, atI_nat (j := 1) rfl, fun v1 hv1 => ?_⟩⟩
      rw [hv1.inv_int]
      refine ⟨t, rfl, S, t, _, rfl, .inl ht, _, _, rfl, rfl, _, rfl, ite2 (fun c => ?_) (fun c => ?_)⟩
      · have c' : ((tel.map PyData.int).length : Int) < l := of_decide_eq_true c
        rw [List.length_map] at c'
        refine ⟨z, rfl, S, _, 1, .int l, rfl, .inl hz, atI_nat (j := 1) rfl, fun v2 hv2' => ?_⟩
        rw [hv2'.inv_int]
        refine ⟨_, rfl, fun dx ndx => eN hso l (firstBad_at hno hdv ?_) _ dx (s12.trans (same_upd ndx _)) upd_same⟩
        exact if_pos c'
      · have c' : ¬ ((tel.map PyData.int).length : Int) < l := of_decide_eq_false (Bool.eq_false_iff.mpr c)
        rw [List.length_map] at c'
        refine ⟨rfl, ?_, _, rfl⟩
        rw [List.take_add_one, hdv, Option.toList_some, List.filterMap_append, hno]
        rw [List.nil_append, List.filterMap_cons, show tooBig tel.length (some l) = none from if_neg c']
        rfl
  -- behind the loop
  obtain ⟨rfl, hno, y0, rfl⟩ := h
  rw [hlx, List.take_length] at hno
  have hlets := noBad_lets h1 hno
  have hfb : firstBad tel.length hs = none := by unfold firstBad; rw [hno]; rfl
  refine ⟨_, rfl, .ref a, rfl, S, m, .ref a, hs, rfl, hS2, hv2, hl, fun r H3 s3 hr3 => ?_⟩
  refine ⟨Nat.zero_le _, fun l hl4 => ⟨r, .ref l, rfl, ?_⟩⟩
  have hS3 := hS2.mono s3
  have nS := hS3.not_mem hl4
  have ha3 := wo_mono s3 _ _ ha
  have hxs3 := hxs.mono (wo_mono s3)
  have ht3 := ht.mono (wo_mono s3)
  refine ⟨.ref a, rfl, a, xs, rfl, SqT.of (same_in hl4 (Same.refl H3) _ _ _ (wo_of ha3)), ?_⟩
  refine for_any (n := hs.length) (fun i σ H' => Same H3 H' ∧ (∃ ys, H' l = some (.lst ys) ∧ TdL (wo (l :: S) H') ys (heardR m k tel hs i)) ∧ ∃ z1 z2 z3, σ = [some (.str (md m)), some (.int k), some y, some x, some (.ref a), some t, z1, some r, some (.ref l), z2, z3]) ⟨same_upd hl4 _, ⟨[], upd_same, .nil⟩, _, _, _, rfl⟩
    (fun σ H' h => ⟨xs, SqT.of (h.1 _ _ (wo_of ha3)), hlx⟩) (fun i σ H' hi h => ⟨xs, xs[i], SqT.of (h.1 _ _ (wo_of ha3)), List.getElem?_eq_getElem _⟩) (fun i σ H' z H4 hi h hz => ?_) (fun σ H' h => ?_)
  · obtain ⟨sm, ⟨ys, eL, hys⟩, z1, z2, z3, rfl⟩ := h
    obtain ⟨TT, u, rfl, nT, rfl, f1⟩ := hz
    have eu := f1 _ (SqT.of (sm _ _ (wo_of ha3)))
    obtain ⟨dv, hdv, hu⟩ := hist_at hxs3 eu
    have sT := same_upd nT (.tup [.int (i : Nat), u])
    have smT := sm.trans sT
    have w3 : Same (wo S H3) (wo (l :: S) (upd H' TT (.tup [.int (i : Nat), u]))) := wo_l hl4 smT
    have hO : Out (l :: S) (upd H' TT (.tup [.int (i : Nat), u])) := (hS3.mono smT).cons (sT _ _ eL)
    refine ⟨TT, _, rfl, SqT.of upd_same, rfl, _, [u], rfl, u, [], rfl, rfl, ?_⟩
    have row : ∀ j, j ≤ hs.length → atI ((rows m hs).map word) (j : Int) = some (word (stt m hs j)) := fun j hj => atI_nat (by
      rw [List.getElem?_map, show rows m hs = rowsR m hs (hs.length + 1) from rfl, rowsR_at (by omega)]
      rfl)
    have step : ∀ (hv : V) (H5 : Hp), Same (upd H' TT (.tup [.int (i : Nat), u])) H5 → Td (wo (l :: S) H5) hv (heardD m tel hs i) → Out (l :: S) H5 →
        ∀ R : Ends, (∀ H6 ys', Same H3 H6 → H6 l = some (.lst ys') → TdL (wo (l :: S) H6) ys' (heardR m k tel hs (i + 1)) → R.nx [some (.str (md m)), some (.int k), some y, some x, some (.ref a), some t, some u, some r, some (.ref l), some (.int (i : Nat)), some hv] H6) →
        tDrop (tBM K "list" rAppend (tVar 8) (tCons (tTup (tCons (tVar 10) (tCons (tCall spSeenIn [] E0 (tCons (tVar 0) (tCons (tOp rIxD (tVar 7) (tOp (rI0 fun i j => .int (i + j)) (tVar 9) (tC (.int 1)))) (tCons (tVar 1) tNil)))) tNil))) tNil)) R [some (.str (md m)), some (.int k), some y, some x, some (.ref a), some t, some u, some r, some (.ref l), some (.int (i : Nat)), some hv] H5 := by
      intro hv H5 s5 hhv hO5 R hR
      have w35 := wo_l (S := S) hl4 (smT.trans s5)
      have eL5 := s5 _ _ (sT _ _ eL)
      refine ⟨.ref l, rfl, .inl ⟨rfl, _, SqL.of eL5⟩, hv, rfl, _, rfl, r, rfl, _, rfl, _, _, rfl, rfl, l :: S, _, ((i + 1 : Nat) : Int), _, rfl, .inr (hr3.mono w35), row (i + 1) (by omega), fun wv hwv => ?_⟩
      refine ⟨_, rfl, l :: S, m, wv, stt m hs (i + 1), k, rfl, hO5, hwv, fun sv H6 s6 hsv => ?_⟩
      refine ⟨by show 2 ≤ sizeLine; decide, fun p hp => ?_⟩
      have eL6 := s6 _ _ eL5
      have nlp : l ≠ p := ne_of_none eL6 hp
      have hO6 := hO5.mono s6
      refine ⟨l, ys, .ref p, rfl, rfl, (upd_ne nlp).trans eL6, ?_, hR _ (ys ++ [.ref p]) ?_ upd_same ?_⟩
      · rw [hys.length, heardR_len]
        exact small (by omega)
      · exact same_in hl4 ((smT.trans s5).trans (s6.trans (same_upd hp _))) _
      · rw [heardR_succ]
        have tp := tup_new hO6 hp (.cons (hhv.mono (wo_mono s6)) (.one hsv))
        exact app_in (hys.mono (wo_mono (sT.trans (s5.trans (s6.trans (same_upd hp _)))))) tp _
    cases dv with
    | some lt =>
      refine ⟨u, rfl, l :: S, _, 0, .str "in", rfl, .inl (hu.mono w3), atI_nat (j := 0) rfl, fun v0 hv0 => ?_⟩
      rw [hv0.inv_str]
      refine ⟨rfl, _, rfl, ite_yes str_in ⟨u, rfl, ?_⟩⟩
      refine step u _ (Same.refl _) ?_ hO _ ?_
      · unfold heardD
        rw [hdv]
        exact hu.mono w3
      · exact fun H6 ys' h6 e6 t6 => ⟨h6, ⟨ys', e6, t6⟩, _, _, _, rfl⟩
    | none =>
      refine ⟨u, rfl, l :: S, _, 0, .str "out", rfl, .inl (hu.mono w3), atI_nat (j := 0) rfl, fun v0 hv0 => ?_⟩
      rw [hv0.inv_str]
      refine ⟨rfl, _, rfl, ite_no str_out_in ?_⟩
      obtain ⟨g1, g2⟩ := gone_lets (q := m) hso hlets hdv
      refine ⟨t, rfl, _, rfl, r, rfl, _, rfl, l :: S, _, (i : Int), _, rfl, .inr (hr3.mono w3), row i (by omega), fun wv hwv => ?_⟩
      refine ⟨m, wv, stt m hs i, rfl, hwv.mono wo_sub, stt_ne hso hdv, _, _, rfl, rfl, l :: S, _, gone1 m (stt m hs i) - 1, .int (tel.getD (gone1 m (stt m hs i) - 1).toNat 0), rfl, .inl (ht3.mono w3), ?_, fun tv htv => ?_⟩
      · have et : gone1 m (stt m hs i) - 1 = (((gone1 m (stt m hs i) - 1).toNat : Nat) : Int) := by omega
        rw [et]
        refine atI_nat ?_
        have hlt : (gone1 m (stt m hs i) - 1).toNat < tel.length := by omega
        rw [List.getElem?_map, List.getElem?_eq_getElem hlt, List.getD_eq_getElem?_getD, Int.toNat_natCast, List.getElem?_eq_getElem hlt]
        rfl
      · refine ⟨by show 2 ≤ sizeLine; decide, fun p hp => ?_⟩
        refine step (.ref p) _ (same_upd hp _) ?_ (hO.upd _) _ ?_
        · unfold heardD
          rw [hdv]
          exact tup_new hO hp (.cons (.str _) (.one htv))
        · exact fun H6 ys' h6 e6 t6 => ⟨h6, ⟨ys', e6, t6⟩, _, _, _, rfl⟩
  · obtain ⟨sm, ⟨ys, eL, hys⟩, z1, z2, z3, rfl⟩ := h
    exact ⟨.ref l, rfl, q hso hfb _ H' ((s12.trans s3).trans sm) (lst_done nS eL hys)⟩
end
end K2
/-! K2L1: the law's own is_sound, rows, seen, heard -/
namespace K2
open PySem PySem.Spec PyProof.Rows L2
section
variable {P : Program} {w : World} {K : PySem.W.Frag} {mg : Str → Option Value} {base : Heap} {f : Addr} {fd : FuncData} {fR fS : Addr} {fdR fdS : FuncData}
/-! ### _law_is_sound -/
def spLawSound : Sp := fun vs H Q _ => ∃ (h : V) (hs : List (Option Int)), vs = [h] ∧ Td H h (hist hs) ∧ ∀ b : Bool, (b = true ↔ sound hs) → Q (.bl b) H
theorem ok_law_is_sound (F : Fun K "_law_is_sound" "_law_is_sound" s__law_is_sound f fd) : FnOk P w K mg base CX0 1 f fd ["_law_history_here"] spLawSound := by
  refine F.ok sc__law_is_sound (fun vs H Q E h => ?_) (fun cdv A outer s H vs Q E hr h => ?_)
  · obtain ⟨h, hs, rfl, _⟩ := h
    rfl
  have nd := sc__law_is_sound.nd
  obtain ⟨h, hs, rfl, hh, q⟩ := h
  obtain ⟨a, xs, rfl, ha, hx⟩ := hist_inv hh
  have hlen : xs.length = hs.length := by rw [hx.length, List.length_map]
  refine ⟨_, pss_cons (ps_set (i := 1) nd rfl (.inl rfl) pe_int)
    (pss_cons (ps_for PassesOwn.never rfl (pi_tup (pv 0)) (pg_name (i := 2) nd rfl (.inl rfl))
      (pss_cons (ps_set (i := 1) nd rfl (.inl rfl) (pe_op op_add (pv 1) (pe_ifExp (pt_cmpR op_eq (pe_ix ix_tup (pv 2) pe_int (fun _ _ => rfl)) pe_str (nomark _)) pe_int (pe_un un_neg pe_int))))
      (pss_one (ps_if (pt_cmpR op_lt (pv 1) pe_int (nomark _)) (pss_one (ps_ret pe_bl)) pss_nil))))
    (pss_one (ps_ret pe_bl))), ?_⟩
  refine ⟨.ref a, rfl, a, rfl, ⟨xs, SqT.of ha⟩, ?_⟩
  refine for_tup (xs := xs) (fun i σ H' => H' = H ∧ soundTo hs i ∧ ∃ y, σ = [some (.ref a), some (.int (bl hs i)), y]) ⟨rfl, fun j hj => absurd hj (Nat.not_lt_zero j), none, rfl⟩ (fun i σ H' _ h => ?_) (fun i x σ H' hi h => ?_) (fun σ H' h => ?_)
  · rw [h.1]; exact SqT.of ha
  · obtain ⟨rfl, hso, y, rfl⟩ := h
    obtain ⟨d, hd, hxd⟩ := hist_at hx hi
    have hil : i < hs.length := lt_of_get' hd
    have fin : (0 ≤ bl hs (i + 1) → soundTo hs (i + 1)) ∧ (¬ 0 ≤ bl hs (i + 1) → ¬ sound hs) :=
      ⟨fun h0 j hj => by
        by_cases e : j = i
        · rw [e]; exact h0
        · exact hso j (by omega), fun h0 z => h0 (z i hil)⟩
    refine ⟨.int (bl hs i), rfl, ?_⟩
    cases d with
    | some l =>
      obtain ⟨t, rfl, et⟩ := deed_in hxd
      have eb := bl_in hd
      refine ⟨.ref t, rfl, t, _, 0, .str "in", rfl, rfl, SqT.of et, atI_nat (j := 0) rfl, rfl, _, rfl, ite_yes str_in ⟨_, _, rfl, rfl, ?_⟩⟩
      refine ⟨.int (bl hs i + 1), rfl, _, _, rfl, rfl, _, rfl, ite2 (fun c => ?_) (fun c => ?_)⟩
      · have c' : bl hs i + 1 < 0 := of_decide_eq_true c
        exact q false ⟨(fun z => nomatch z), fun z => absurd z (fin.2 (by omega))⟩
      · have c' : ¬ bl hs i + 1 < 0 := of_decide_eq_false (Bool.eq_false_iff.mpr c)
        exact ⟨rfl, fin.1 (by omega), _, by rw [eb]; rfl⟩
    | none =>
      obtain ⟨t, rfl, et⟩ := deed_out hxd
      have eb := bl_out hd
      refine ⟨.ref t, rfl, t, _, 0, .str "out", rfl, rfl, SqT.of et, atI_nat (j := 0) rfl, rfl, _, rfl, ite_no str_out_in ⟨1, rfl, _, _, rfl, rfl, ?_⟩⟩
      refine ⟨.int (bl hs i + -1), rfl, _, _, rfl, rfl, _, rfl, ite2 (fun c => ?_) (fun c => ?_)⟩
      · have c' : bl hs i + -1 < 0 := of_decide_eq_true c
        exact q false ⟨(fun z => nomatch z), fun z => absurd z (fin.2 (by omega))⟩
      · have c' : ¬ bl hs i + -1 < 0 := of_decide_eq_false (Bool.eq_false_iff.mpr c)
        exact ⟨rfl, fin.1 (by omega), _, by rw [eb]; rfl⟩
  · obtain ⟨rfl, hso, y, rfl⟩ := h
    rw [hlen] at hso
    exact q true ⟨fun _ => hso, fun _ => rfl⟩
/-! ### _law_seen -/
def spLawSeen : Sp := fun vs H Q _ => ∃ (S : List Addr) (m : Bool) (x : V) (ws : List Int) (k : Nat), vs = [.str (md m), x, .int k] ∧ Out S H ∧ Td (wo S H) x (word ws) ∧ ∀ v H', Same H H' → Td (wo S H') v (word (seenW m ws k)) → Q v H'
theorem ok_law_seen (F : Fun K "_law_seen" "_law_seen" s__law_seen f fd) (mm : mg "min" = none) (ml : mg "len" = none) : FnOk P w K mg base CX0 1 f fd ["_law_mode", "_law_word", "_law_shown"] spLawSeen := by
  refine F.ok sc__law_seen (fun vs H Q E h => ?_) (fun cdv A outer s H vs Q E hr h => ?_)
  · obtain ⟨S, m, x, ws, k, rfl, _⟩ := h
    rfl
  obtain ⟨S, m, x, ws, k, rfl, hS, hx, q⟩ := h
  have nd := sc__law_seen.nd
  refine ⟨_, pss_cons (ps_set (i := 3) nd rfl (.inl rfl) (pe_callB (call_min2 rfl) (by rfl) mm (by decide +kernel) (pa_cons (pv 2) (pa_cons (pe_callB call_lenD' (by rfl) ml PySem.boot_len (pa_cons (pv 1) pa_nil)) pa_nil))))
    (pss_one (ps_ret (pe_ifExp (pt_cmpR op_eq (pv 0) pe_str (nomark _)) (pe_slice sl_tupD (pv 1) po_none (po_some (pv 3)))
    (pe_slice sl_tupD (pv 1) (po_some (pe_op op_sub (pe_callB call_lenD' (by rfl) ml PySem.boot_len (pa_cons (pv 1) pa_nil)) (pv 3))) po_none)))), ?_⟩
  refine ⟨_, rfl, x, rfl, S, x, _, rfl, .inl hx, _, _, rfl, ?_⟩
  have e : (if ((ws.map PyData.int).length : Int) < (k : Int) then ((ws.map PyData.int).length : Int) else (k : Int)) = ((min k ws.length : Nat) : Int) := by
    rw [List.length_map]
    split <;> omega
  rw [e]
  refine ⟨_, rfl, rfl, _, rfl, ?_⟩
  rw [md_q]
  cases m with
  | true =>
    refine iteT ⟨x, rfl, _, rfl, _, rfl, S, ws.map .int, hS, hx, fun v H' sm hv => q v H' sm ?_⟩
    rw [cutA_to, ← List.map_take] at hv
    have e2 : ws.take (min k ws.length) = ws.take k := take_min ws k
    rw [e2] at hv
    exact hv
  | false =>
    refine iteF ⟨x, rfl, x, rfl, S, x, _, rfl, .inl hx, _, rfl, _, _, rfl, rfl, _, rfl, S, ws.map .int, hS, hx, fun v H' sm hv => q v H' sm ?_⟩
    have e2 : ((ws.map PyData.int).length : Int) - ((min k ws.length : Nat) : Int) = ((ws.length - k : Nat) : Int) := by
      rw [List.length_map]
      omega
    rw [e2, cutA_from, ← List.map_drop] at hv
    exact hv
/-! ### _law_rows -/
def kk (m : Bool) (ws : List Int) : Nat := if m then 0 else ws.length - 1
theorem kk_gone {m : Bool} {ws : List Int} (h : ws ≠ []) : ws[kk m ws]? = some (gone1 m ws) := by
  cases ws with
  | nil => exact absurd rfl h
  | cons a r =>
    cases m with
    | true => rfl
    | false =>
      show (a :: r)[(a :: r).length - 1]? = some ((a :: r).getLastD 0)
      rw [← List.getLast?_eq_getElem?, List.getLastD_eq_getLast?, List.getLast?_eq_some_getLast h]
      rfl
theorem kk_cut {m : Bool} {ws : List Int} (h : ws ≠ []) : ws.take (kk m ws) ++ ws.drop (kk m ws + 1) = beh m ws none := by
  cases ws with
  | nil => exact absurd rfl h
  | cons a r =>
    cases m with
    | true => rfl
    | false =>
      show (a :: r).take ((a :: r).length - 1) ++ (a :: r).drop ((a :: r).length - 1 + 1) = (a :: r).dropLast
      rw [List.drop_of_length_le (by rw [List.length_cons]; omega), List.append_nil, List.dropLast_eq_take]
def spLawRows : Sp := fun vs H Q _ => ∃ (S : List Addr) (m : Bool) (h : V) (hs : List (Option Int)), vs = [.str (md m), h] ∧ Out S H ∧ Td (wo S H) h (hist hs) ∧ hs.length ≤ 900 ∧ sound hs ∧ ∀ v H', Same H H' → Td (wo S H') v (.tuple [rowsD m hs, word (goneR m hs hs.length)]) → Q v H'
set_option maxHeartbeats 4000000 in
theorem ok_law_rows (F : Fun K "_law_rows" "_law_rows" s__law_rows f fd) (ml : mg "len" = none) (mt : mg "tuple" = none) : FnOk P w K mg base CX0 1 f fd ["_law_mode", "_law_history_here"] spLawRows := by
  refine F.ok sc__law_rows (fun vs H Q E h => ?_) (fun cdv A outer s H vs Q E hr h => ?_)
  · obtain ⟨S, m, h, hs, rfl, _⟩ := h
    rfl
  obtain ⟨S, m, h, hs, rfl, hS, hh, hl, hso, q⟩ := h
  have nd := sc__law_rows.nd
  obtain ⟨a, xs, rfl, ha, hx⟩ := hist_inv hh
  have hlen : xs.length = hs.length := by rw [hx.length, List.length_map]
  refine ⟨_, pss_cons (ps_par (i := 2) (j := 3) rfl nd rfl rfl (by decide) rfl rfl (pa_cons (pe_lst (pa_cons (pe_tup pa_nil) pa_nil)) (pa_cons (pe_lst pa_nil) pa_nil)) (by rfl))
    (pss_cons (ps_for PassesOwn.never rfl (pi_tup (pv 1)) (pg_name (i := 4) nd rfl (.inl rfl))
      (pss_cons (ps_set (i := 5) nd rfl (.inl rfl) (pe_ix ix_list (pv 2) (pe_un un_neg pe_int) (fun _ _ => rfl)))
      (pss_one (ps_if (pt_cmpR op_eq (pe_ix ix_D (pv 4) pe_int (fun _ _ => rfl)) pe_str (nomark _))
        (pss_one (ps_expr (pe_bm PySem.F.plainAttrs_list PySem.F.slot_list_append PySem.F.type_list_append mt_append (pv 2) (pa_cons (pe_op op_catD (pv 5) (pe_tup (pa_cons (pe_ix ix_D (pv 4) pe_int (fun _ _ => rfl)) pa_nil))) pa_nil))))
        (pss_cons (ps_set (i := 6) nd rfl (.inl rfl) (pe_ifExp (pt_cmpR op_eq (pv 0) pe_str (nomark _)) pe_int (pe_op op_sub (pe_callB call_lenD' (by rfl) ml PySem.boot_len (pa_cons (pv 5) pa_nil)) pe_int)))
        (pss_cons (ps_expr (pe_bm PySem.F.plainAttrs_list PySem.F.slot_list_append PySem.F.type_list_append mt_append (pv 3) (pa_cons (pe_ix ix_D (pv 5) (pv 6) (fun _ _ => rfl)) pa_nil)))
        (pss_one (ps_expr (pe_bm PySem.F.plainAttrs_list PySem.F.slot_list_append PySem.F.type_list_append mt_append (pv 2)
          (pa_cons (pe_op op_catD (pe_slice sl_tupD (pv 5) po_none (po_some (pv 6))) (pe_slice sl_tupD (pv 5) (po_some (pe_op op_add (pv 6) pe_int)) po_none)) pa_nil))))))))))
    (pss_one (ps_ret (pe_tup (pa_cons (pv 2) (pa_cons (pe_callTy call_tuple_of (by rfl) mt (by decide +kernel) (pa_cons (pv 3) pa_nil)) pa_nil)))))), ?_⟩
  refine ⟨Nat.zero_le _, fun p0 h0 => ⟨by show 1 ≤ sizeLine; decide, fun l hl1 => ⟨Nat.zero_le _, fun g hg1 => ⟨.ref l, .ref g, rfl, ?_⟩⟩⟩⟩
  have s0 := same_upd h0 (.tup [])
  have s1 : Same H (upd (upd H p0 (.tup [])) l (.lst [.ref p0])) := s0.trans (same_upd hl1 _)
  have fl : H l = none := s0.free hl1
  have fg : H g = none := s1.free hg1
  have ngl : g ≠ l := fun e => by rw [e, upd_same] at hg1; cases hg1
  have nl : l ∉ S := hS.not_mem fl
  have s2 : Same H (upd (upd (upd H p0 (.tup [])) l (.lst [.ref p0])) g (.lst [])) := s1.trans (same_upd hg1 _)
  have w2 : ∀ {H' : Hp}, Same H H' → Same (wo S H) (wo (g :: l :: S) H') := fun {H'} sm b o e => by
    have e1 := wo_of e
    have e3 : b ∉ S := fun z => by
      have e4 : wo S H b = none := if_pos z
      rw [e] at e4; cases e4
    rw [wo_out (fun z => (List.mem_cons.mp z).elim (ne_of_none e1 fg) fun z => (List.mem_cons.mp z).elim (ne_of_none e1 fl) e3)]
    exact sm _ _ e1
  refine ⟨.ref a, rfl, a, rfl, ⟨xs, SqT.of (s2 _ _ (wo_of ha))⟩, ?_⟩
  refine for_tup (xs := xs) (fun i σ H' => Same H H' ∧ (∃ ys, H' l = some (.lst ys) ∧ TdL (wo (g :: l :: S) H') ys ((rowsR m hs (i + 1)).map word)) ∧ H' g = some (.lst ((goneR m hs i).map V.int)) ∧ ∃ y z u, σ = [some (.str (md m)), some (.ref a), some (.ref l), some (.ref g), y, z, u])
    ⟨s2, ⟨_, (upd_ne ngl.symm).trans upd_same, ?_⟩, upd_same, none, none, none, rfl⟩ (fun i σ H' _ h => SqT.of (h.1 _ _ (wo_of ha))) (fun i x σ H' hi h => ?_) (fun σ H' h => ?_)
  · rw [wo_in List.mem_cons_self, wo_in (List.mem_cons_of_mem _ List.mem_cons_self)]
    refine .one (.tup ?_ .nil)
    have np : p0 ∉ g :: l :: S := fun z => by
      rcases List.mem_cons.mp z with e | z
      · rw [← e, upd_ne (fun q => by rw [q, upd_same] at hl1; cases hl1), upd_same] at hg1; cases hg1
      · rcases List.mem_cons.mp z with e | z
        · rw [← e, upd_same] at hl1; cases hl1
        · exact hS.not_mem h0 z
    exact (wo_out np).trans upd_same
  · obtain ⟨sm, ⟨ys, eL, ht⟩, eG, y, z, u, rfl⟩ := h
    obtain ⟨d, hd, hxd⟩ := hist_at hx hi
    have hil := lt_of_get' hd
    have hO : Out (g :: l :: S) H' := ((hS.mono sm).cons eL).cons eG
    have elast : atI ((rowsR m hs (i + 1)).map word) (-1) = some (word (stt m hs i)) := by
      rw [rowsR_succ, List.map_append]
      exact atI_last _ _
    obtain ⟨wv, hu, hw⟩ := at_td ht elast
    have hle := stt_le (q := m) (hs := hs) i
    have hyl : ys.length < sizeLine := by
      rw [ht.length, List.length_map, rowsR_len]
      exact small (by omega)
    have hxd' := hxd.mono (w2 sm)
    refine ⟨.ref l, rfl, 1, rfl, l, ys, -1, wv, rfl, rfl, SqL.of eL, hu, ?_⟩
    cases d with
    | some lt =>
      refine ⟨x, rfl, g :: l :: S, _, 0, .str "in", rfl, .inl hxd', atI_nat (j := 0) rfl, fun v0 hv0 => ?_⟩
      rw [hv0.inv_str]
      refine ⟨rfl, _, rfl, ite_yes str_in ?_⟩
      refine ⟨.ref l, rfl, .inl ⟨rfl, _, SqL.of eL⟩, wv, rfl, x, rfl, g :: l :: S, _, 1, .int lt, rfl, .inl hxd', atI_nat (j := 1) rfl, fun v1 hv1 => ?_⟩
      rw [hv1.inv_int]
      refine ⟨by show 1 ≤ sizeLine; decide, fun p hp => ?_⟩
      have tp := tup_new hO hp (TdL.one (.int lt))
      have sp := same_upd hp (.tup [.int lt])
      refine ⟨g :: l :: S, (stt m hs i).map .int, [.int lt], hO.upd _, hw.mono (wo_mono sp), tp, by rw [List.length_map]; show (stt m hs i).length + 1 ≤ 1000; omega, fun v2 H3 s3 hv2 => ?_⟩
      have s03 := (sm.trans sp).trans s3
      have eL3 := s3 _ _ (sp _ _ eL)
      have eG3 := s3 _ _ (sp _ _ eG)
      refine ⟨l, ys, v2, rfl, rfl, eL3, hyl, same_in fl s03 _, ⟨_, upd_same, ?_⟩, ?_, _, _, _, rfl⟩
      · rw [rowsR_succ (n := i + 1), List.map_append, stt_succ hd, wo_in (List.mem_cons_of_mem _ List.mem_cons_self)]
        refine (ht.mono (wo_mono (sp.trans s3))).append (.one ?_)
        show Td _ v2 (word (stt m hs i ++ [lt]))
        unfold word
        rw [List.map_append]
        exact hv2
      · rw [upd_ne ngl, goneR_in hd]
        exact eG3
    | none =>
      refine ⟨x, rfl, g :: l :: S, _, 0, .str "out", rfl, .inl hxd', atI_nat (j := 0) rfl, fun v0 hv0 => ?_⟩
      rw [hv0.inv_str]
      refine ⟨rfl, _, rfl, ite_no str_out_in ?_⟩
      have hne := stt_ne (q := m) hso hd
      have kval : ∀ R : VK, R (.int (kk m (stt m hs i))) H' → tIf (tTest (tOp rEq (tVar 0) (tC (.str "queue")))) (tC (.int 0)) (tOp (rI0 fun i j => .int (i - j)) (tCB rLenD (tCons (tVar 5) tNil)) (tC (.int 1))) [some (.str (md m)), some (.ref a), some (.ref l), some (.ref g), some x, some wv, u] H' R := fun R hR => by
        refine ⟨_, rfl, rfl, _, rfl, ?_⟩
        rw [md_q]
        cases m with
        | true => exact iteT hR
        | false =>
          refine iteF ⟨wv, rfl, g :: l :: S, wv, _, rfl, .inl hw, _, _, rfl, rfl, ?_⟩
          have e : (((stt false hs i).map PyData.int).length : Int) - 1 = ((kk false (stt false hs i) : Nat) : Int) := by
            rw [List.length_map]
            show _ = (((stt false hs i).length - 1 : Nat) : Int)
            have := List.length_pos_iff.mpr hne
            omega
          show R (.int ((((stt false hs i).map PyData.int).length : Int) - 1)) H'
          rw [e]
          exact hR
      refine kval _ ?_
      have hg := kk_gone (m := m) hne
      refine ⟨.ref g, rfl, .inl ⟨rfl, _, SqL.of eG⟩, wv, rfl, _, rfl, g :: l :: S, _, _, .int (gone1 m (stt m hs i)), rfl, .inl hw, atI_nat (by rw [List.getElem?_map, hg]; rfl), fun v1 hv1 => ?_⟩
      rw [hv1.inv_int]
      have gl := goneR_len (q := m) (hs := hs) i
      refine ⟨g, _, _, rfl, rfl, eG, by rw [List.length_map]; exact small (by omega), ?_⟩
      have H1 : wo (g :: l :: S) (upd H' g (.lst ((goneR m hs i).map V.int ++ [.int (gone1 m (stt m hs i))]))) = wo (g :: l :: S) H' := wo_in List.mem_cons_self
      have hO1 : Out (g :: l :: S) (upd H' g (.lst ((goneR m hs i).map V.int ++ [.int (gone1 m (stt m hs i))]))) := hO.upd _
      have sm1 := same_in fg sm (.lst ((goneR m hs i).map V.int ++ [.int (gone1 m (stt m hs i))]))
      have eL1 : (upd H' g (.lst ((goneR m hs i).map V.int ++ [.int (gone1 m (stt m hs i))]))) l = some (.lst ys) := (upd_ne ngl.symm).trans eL
      have hw1 := hw
      rw [← H1] at hw1
      have ht1 := ht
      rw [← H1] at ht1
      refine ⟨.ref l, rfl, .inl ⟨rfl, _, SqL.of eL1⟩, wv, rfl, _, rfl, _, rfl, g :: l :: S, _, hO1, hw1, fun v2 H2 s2' hv2 => ?_⟩
      refine ⟨wv, rfl, _, rfl, _, _, rfl, rfl, _, rfl, g :: l :: S, _, hO1.mono s2', hw1.mono (wo_mono s2'), fun v3 H3 s3 hv3 => ?_⟩
      rw [cutA_to] at hv2
      rw [show (((kk m (stt m hs i) : Nat) : Int) + 1) = ((kk m (stt m hs i) + 1 : Nat) : Int) by omega, cutA_from] at hv3
      refine ⟨g :: l :: S, _, _, (hO1.mono s2').mono s3, hv2.mono (wo_mono s3), hv3, ?_, fun v4 H4 s4 hv4 => ?_⟩
      · rw [List.length_take, List.length_drop, List.length_map]
        omega
      · have s14 := (s2'.trans s3).trans s4
        have eL4 := s14 _ _ eL1
        have eG4 := s14 _ _ (show _ = some (.lst ((goneR m hs i).map V.int ++ [.int (gone1 m (stt m hs i))])) from upd_same)
        refine ⟨l, ys, v4, rfl, rfl, eL4, hyl, same_in fl (sm1.trans s14) _, ⟨_, upd_same, ?_⟩, ?_, _, _, _, rfl⟩
        · rw [rowsR_succ (n := i + 1), List.map_append, stt_succ hd, wo_in (List.mem_cons_of_mem _ List.mem_cons_self)]
          refine (ht1.mono (wo_mono s14)).append (.one ?_)
          rw [← List.map_take, ← List.map_drop, ← List.map_append, kk_cut hne] at hv4
          exact hv4
        · rw [upd_ne ngl, goneR_out hd, List.map_append]
          exact eG4
  · obtain ⟨sm, ⟨ys, eL, ht⟩, eG, y, z, u, rfl⟩ := h
    rw [hlen] at ht eG
    refine ⟨.ref l, rfl, .ref g, rfl, g, _, rfl, .inl ⟨SqL.of eG, fun t nt => ?_⟩⟩
    refine ⟨by show 2 ≤ sizeLine; decide, fun p hp => ?_⟩
    have st := same_upd nt (.tup ((goneR m hs hs.length).map V.int))
    have sp := same_upd hp (.tup [.ref l, .ref t])
    refine q _ _ (sm.trans (st.trans sp)) ?_
    have hS' := hS.mono sm
    refine tup_new (hS'.mono st) hp (.cons ?_ (.one (tup_new hS' nt (.ints _))))
    have hT : TdL (wo S H') ys ((rows m hs).map word) := ht.mono ((wo_cons (S := l :: S)).trans wo_cons)
    exact (Td.lst ((wo_out nl).trans eL) hT).mono (wo_mono st)
end
end K2
/-! K2L2: _law_heard, _law_lists -/
namespace K2
open PySem PySem.Spec PyProof.Rows L2
section
variable {P : Program} {w : World} {K : PySem.W.Frag} {mg : Str → Option Value} {base : Heap} {f : Addr} {fd : FuncData} {fR fE : Addr} {fdR fdE : FuncData}
def spLawHeard : Sp := fun vs H Q _ => ∃ (S : List Addr) (m : Bool) (k : Nat) (x y : V) (hs : List (Option Int)) (tel : List Int), vs = [.str (md m), .int k, y, x] ∧ Out S H ∧ Td (wo S H) y (word tel) ∧ Td (wo S H) x (hist hs) ∧ hs.length ≤ 900 ∧ sound hs ∧ lets tel.length hs ∧
  ∀ v H', Same H H' → Td (wo S H') v (.list (heardR m k tel hs hs.length)) → Q v H'
set_option maxHeartbeats 4000000 in
theorem ok_law_heard (F : Fun K "_law_heard" "_law_heard" s__law_heard f fd) (me : mg "enumerate" = none) (CR : Cal P w K mg base CX0 1 "_law_rows" ["_law_mode", "_law_history_here"] spLawRows fR fdR) (CE : Cal P w K mg base CX0 1 "_law_seen" ["_law_mode", "_law_word", "_law_shown"] spLawSeen fE fdE) :
    FnOk P w K mg base CX0 2 f fd ["_law_mode", "_law_shown", "_law_telling_here", "_law_history_here"] spLawHeard := by
  refine F.ok sc__law_heard (fun vs H Q E h => ?_) (fun cdv A outer s H vs Q E hr h => ?_)
  · obtain ⟨S, m, k, x, y, hs, tel, rfl, _⟩ := h
    rfl
  obtain ⟨S, m, k, x, y, hs, tel, rfl, hS, hy, hx, hl, hso, hlets, q⟩ := h
  have nd := sc__law_heard.nd
  refine ⟨_, pss_cons (ps_asg (pcall CR hr pass0 (pa_cons (pv 0) (pa_cons (pv 3) pa_nil))) (pg_tup rfl (pgs_cons (pg_name (i := 4) nd rfl (.inl rfl)) (pgs_cons (pg_name (i := 5) nd rfl (.inl rfl)) pgs_nil))))
    (pss_cons (ps_par (i := 6) (j := 7) rfl nd rfl rfl (by decide) rfl rfl (pa_cons (pe_lst pa_nil) (pa_cons pe_int pa_nil)) (by rfl))
    (pss_cons (ps_for PassesOwn.never rfl (pi_enumT (by rfl) me (pa_cons (pv 3) pa_nil)) (pg_tup rfl (pgs_cons (pg_name (i := 8) nd rfl (.inl rfl)) (pgs_cons (pg_name (i := 9) nd rfl (.inl rfl)) pgs_nil)))
      (pss_cons (ps_set (i := 10) nd rfl (.inl rfl) (pv 9))
      (pss_cons (ps_if (pt_cmpR op_eq (pe_ix ix_D (pv 9) pe_int (fun _ _ => rfl)) pe_str (nomark _))
        (pss_one (ps_par (i := 10) (j := 7) rfl nd rfl rfl (by decide) rfl rfl (pa_cons (pe_tup (pa_cons pe_str (pa_cons (pe_ix ix_D (pv 2) (pe_op op_sub (pe_ix ix_D (pv 5) (pv 7) (fun _ _ => rfl)) pe_int) (fun _ _ => rfl)) pa_nil))) (pa_cons (pe_op op_add (pv 7) pe_int) pa_nil)) (by rfl))) pss_nil)
      (pss_one (ps_expr (pe_bm PySem.F.plainAttrs_list PySem.F.slot_list_append PySem.F.type_list_append mt_append (pv 6)
        (pa_cons (pe_tup (pa_cons (pv 10) (pa_cons (pcall CE hr pass0 (pa_cons (pv 0) (pa_cons (pe_ix ix_D (pv 4) (pe_op op_add (pv 8) pe_int) (fun _ _ => rfl)) (pa_cons (pv 1) pa_nil)))) pa_nil))) pa_nil)))))))
    (pss_one (ps_ret (pv 6))))), ?_⟩
  refine ⟨_, rfl, x, rfl, S, m, x, hs, rfl, hS, hx, hl, hso, fun v H2 s2 hv => ?_⟩
  obtain ⟨tv, ts, rfl, et, tts⟩ := hv.inv_tup
  obtain ⟨r, ts, rfl, hr2, tts⟩ := tts.inv_cons
  obtain ⟨g, ts, rfl, hg2, tts⟩ := tts.inv_cons
  rw [tts.inv_nil] at et
  refine ⟨tv, _, rfl, SqT.of (wo_of et), rfl, r, [g], rfl, g, [], rfl, rfl, ?_⟩
  have hS2 := hS.mono s2
  have hx2 := hx.mono (wo_mono s2)
  have hy2 := hy.mono (wo_mono s2)
  obtain ⟨a, xs, rfl, ha, hxs⟩ := hist_inv hx2
  have hlx : xs.length = hs.length := by rw [hxs.length, List.length_map]
  refine ⟨Nat.zero_le _, fun l hl4 => ⟨.ref l, .int 0, rfl, ?_⟩⟩
  have nS := hS2.not_mem hl4
  refine ⟨.ref a, rfl, a, xs, rfl, SqT.of (same_in hl4 (Same.refl H2) _ _ _ (wo_of ha)), ?_⟩
  refine for_any (n := hs.length) (fun i σ H' => Same H2 H' ∧ (∃ ys, H' l = some (.lst ys) ∧ TdL (wo (l :: S) H') ys (heardR m k tel hs i)) ∧ ∃ z1 z2 z3, σ = [some (.str (md m)), some (.int k), some y, some (.ref a), some r, some g, some (.ref l), some (.int (goneR m hs i).length), z1, z2, z3]) ⟨same_upd hl4 _, ⟨[], upd_same, .nil⟩, _, _, _, rfl⟩
    (fun σ H' h => ⟨xs, SqT.of (h.1 _ _ (wo_of ha)), hlx⟩) (fun i σ H' hi h => ⟨xs, xs[i], SqT.of (h.1 _ _ (wo_of ha)), List.getElem?_eq_getElem _⟩) (fun i σ H' z H4 hi h hz => ?_) (fun σ H' h => ?_)
  · obtain ⟨sm, ⟨ys, eL, hys⟩, z1, z2, z3, rfl⟩ := h
    obtain ⟨TT, u, rfl, nT, rfl, f1⟩ := hz
    have eu := f1 _ (SqT.of (sm _ _ (wo_of ha)))
    obtain ⟨dv, hdv, hu⟩ := hist_at hxs eu
    have sT := same_upd nT (.tup [.int (i : Nat), u])
    have smT := sm.trans sT
    have w3 : Same (wo S H2) (wo (l :: S) (upd H' TT (.tup [.int (i : Nat), u]))) := wo_l hl4 smT
    have hO : Out (l :: S) (upd H' TT (.tup [.int (i : Nat), u])) := (hS2.mono smT).cons (sT _ _ eL)
    refine ⟨TT, _, rfl, SqT.of upd_same, rfl, _, [u], rfl, u, [], rfl, rfl, ?_⟩
    have row : ∀ j, j ≤ hs.length → atI ((rows m hs).map word) (j : Int) = some (word (stt m hs j)) := fun j hj => atI_nat (by
      rw [List.getElem?_map, show rows m hs = rowsR m hs (hs.length + 1) from rfl, rowsR_at (by omega)]
      rfl)
    have step : ∀ (hv : V) (kv : Int) (H5 : Hp), Same (upd H' TT (.tup [.int (i : Nat), u])) H5 → Td (wo (l :: S) H5) hv (heardD m tel hs i) → Out (l :: S) H5 →
        ∀ R : Ends, (∀ H6 ys', Same H2 H6 → H6 l = some (.lst ys') → TdL (wo (l :: S) H6) ys' (heardR m k tel hs (i + 1)) → R.nx [some (.str (md m)), some (.int k), some y, some (.ref a), some r, some g, some (.ref l), some (.int kv), some (.int (i : Nat)), some u, some hv] H6) →
        tDrop (tBM K "list" rAppend (tVar 6) (tCons (tTup (tCons (tVar 10) (tCons (tCall spLawSeen [] E0 (tCons (tVar 0) (tCons (tOp rIxD (tVar 4) (tOp (rI0 fun i j => .int (i + j)) (tVar 8) (tC (.int 1)))) (tCons (tVar 1) tNil)))) tNil))) tNil)) R [some (.str (md m)), some (.int k), some y, some (.ref a), some r, some g, some (.ref l), some (.int kv), some (.int (i : Nat)), some u, some hv] H5 := by
      intro hv kv H5 s5 hhv hO5 R hR
      have w35 := wo_l (S := S) hl4 (smT.trans s5)
      have eL5 := s5 _ _ (sT _ _ eL)
      refine ⟨.ref l, rfl, .inl ⟨rfl, _, SqL.of eL5⟩, hv, rfl, _, rfl, r, rfl, _, rfl, _, _, rfl, rfl, l :: S, _, ((i + 1 : Nat) : Int), _, rfl, .inr (hr2.mono w35), row (i + 1) (by omega), fun wv hwv => ?_⟩
      refine ⟨_, rfl, l :: S, m, wv, stt m hs (i + 1), k, rfl, hO5, hwv, fun sv H6 s6 hsv => ?_⟩
      refine ⟨by show 2 ≤ sizeLine; decide, fun p hp => ?_⟩
      have eL6 := s6 _ _ eL5
      have nlp : l ≠ p := ne_of_none eL6 hp
      have hO6 := hO5.mono s6
      refine ⟨l, ys, .ref p, rfl, rfl, (upd_ne nlp).trans eL6, ?_, hR _ (ys ++ [.ref p]) ?_ upd_same ?_⟩
      · rw [hys.length, heardR_len]
        exact small (by omega)
      · exact same_in hl4 ((smT.trans s5).trans (s6.trans (same_upd hp _))) _
      · rw [heardR_succ]
        have tp := tup_new hO6 hp (.cons (hhv.mono (wo_mono s6)) (.one hsv))
        exact app_in (hys.mono (wo_mono (sT.trans (s5.trans (s6.trans (same_upd hp _)))))) tp _
    cases dv with
    | some lt =>
      refine ⟨u, rfl, u, rfl, l :: S, _, 0, .str "in", rfl, .inl (hu.mono w3), atI_nat (j := 0) rfl, fun v0 hv0 => ?_⟩
      rw [hv0.inv_str]
      refine ⟨rfl, _, rfl, ite_no str_in_out ?_⟩
      refine step u _ _ (Same.refl _) ?_ hO _ ?_
      · unfold heardD
        rw [hdv]
        exact hu.mono w3
      · exact fun H6 ys' h6 e6 t6 => ⟨h6, ⟨ys', e6, t6⟩, _, _, _, by rw [goneR_in hdv]⟩
    | none =>
      refine ⟨u, rfl, u, rfl, l :: S, _, 0, .str "out", rfl, .inl (hu.mono w3), atI_nat (j := 0) rfl, fun v0 hv0 => ?_⟩
      rw [hv0.inv_str]
      refine ⟨rfl, _, rfl, ite_yes str_out ?_⟩
      obtain ⟨g1, g2⟩ := gone_lets (q := m) hso hlets hdv
      refine ⟨y, rfl, g, rfl, _, rfl, l :: S, _, _, .int (gone1 m (stt m hs i)), rfl, .inl (hg2.mono w3), atI_nat (by rw [List.getElem?_map, goneR_at hdv hi]; rfl), fun gv hgv => ?_⟩
      rw [hgv.inv_int]
      refine ⟨_, _, rfl, rfl, l :: S, _, gone1 m (stt m hs i) - 1, .int (tel.getD (gone1 m (stt m hs i) - 1).toNat 0), rfl, .inl (hy2.mono w3), ?_, fun tv2 htv => ?_⟩
      · have et : gone1 m (stt m hs i) - 1 = (((gone1 m (stt m hs i) - 1).toNat : Nat) : Int) := by omega
        rw [et]
        refine atI_nat ?_
        have hlt : (gone1 m (stt m hs i) - 1).toNat < tel.length := by omega
        rw [List.getElem?_map, List.getElem?_eq_getElem hlt, List.getD_eq_getElem?_getD, Int.toNat_natCast, List.getElem?_eq_getElem hlt]
        rfl
      · refine ⟨by show 2 ≤ sizeLine; decide, fun p hp => ⟨_, rfl, _, _, rfl, rfl, .ref p, _, rfl, ?_⟩⟩
        refine step (.ref p) _ _ (same_upd hp _) ?_ (hO.upd _) _ ?_
        · unfold heardD
          rw [hdv]
          exact tup_new hO hp (.cons (.str _) (.one htv))
        · refine fun H6 ys' h6 e6 t6 => ⟨h6, ⟨ys', e6, t6⟩, some (.int (i : Nat)), some u, some (.ref p), ?_⟩
          rw [goneR_out hdv, List.length_append]
          rfl
  · obtain ⟨sm, ⟨ys, eL, hys⟩, z1, z2, z3, rfl⟩ := h
    exact ⟨.ref l, rfl, q _ H' (s2.trans sm) (lst_done nS eL hys)⟩
/-! ### _law_lists -/
def spLst (n : Nat) : Sp := fun vs H Q _ => ∃ (S : List Addr) (x : V) (d : PyData), vs = [x] ∧ Out S H ∧ Td (wo S H) x d ∧ okD n d ∧ ∀ v H', Same H H' → Td (wo S H') v (lstD d) → Q v H'
theorem lstD_flat : ∀ {d : PyData}, isSeq d = false → lstD d = d
  | .none, _ => rfl
  | .bool _, _ => rfl
  | .int _, _ => rfl
  | .str _, _ => rfl
  | .dict _, _ => rfl
  | .list _, h => nomatch h
  | .tuple _, h => nomatch h
theorem pe_never {X : Cx} {e : Expr} : PE X e (fun _ _ _ => False) := ⟨fun _ _ _ _ _ _ h => False.elim h⟩
theorem ok_law_lists (F : Fun K "_law_lists" "_law_lists" s__law_lists f fd) (bF : Binds K fd ["_law_matter"] []) (gF : mg "_law_lists" = some (.ref f)) (mi : mg "isinstance" = none) (ml : mg "list" = none) (mt : mg "tuple" = none) :
    ∀ n, FnOk P w K mg base CX0 (n + 1) f fd ["_law_matter"] (spLst n) := by
  have nd := sc__law_lists.nd
  have flat : ∀ (cdv : Value) (A : Around) (outer : List Env) (s : Shared) (H : Hp) (vs : List V) (Q : VK) (E : XK) (S : List Addr) (x : V) (d : PyData), vs = [x] → Out S H → Td (wo S H) x d → isSeq d = false → (∀ v H', Same H H' → Td (wo S H') v (lstD d) → Q v H') →
      ∃ t, PSs (cxOf CX0 P w K mg base n__law_lists "_law_lists" (defScope s__law_lists) f cdv A outer s H E).nox (defBody s__law_lists) t ∧ t { nx := fun _ H' => Q .non H', rt := Q } (L2.start n__law_lists vs) H := by
    intro cdv A outer s H vs Q E S x d hv hS hx hf q
    subst hv
    refine ⟨_, pss_one (ps_ret (pe_ifExp (pt_val (pe_callB call_isiD (by rfl) mi (by decide +kernel) (pa_cons (pv 0) (pa_cons (pe_tup (pa_cons (pe_bltn (v := .ty "list") (by rfl) ml (by decide +kernel) rfl) (pa_cons (pe_bltn (v := .ty "tuple") (by rfl) mt (by decide +kernel) rfl) pa_nil))) pa_nil)))) pe_never (pv 0))), ?_⟩
    refine ⟨x, rfl, by show 2 ≤ sizeLine; decide, fun p hp => ?_⟩
    have hy := (hx.mono wo_sub).mono (same_upd hp (.tup clsLT))
    refine ⟨x, p, d, rfl, upd_same, hy, _, rfl, ?_⟩
    rw [hf]
    refine iteF ⟨x, rfl, q _ _ (same_upd hp _) ?_⟩
    rw [lstD_flat hf]
    exact hx.mono (wo_upd hp _)
  intro n
  induction n with
  | zero =>
    refine F.ok sc__law_lists (fun vs H Q E h => ?_) (fun cdv A outer s H vs Q E hr h => ?_)
    · obtain ⟨S, x, d, rfl, _⟩ := h
      rfl
    obtain ⟨S, x, d, hv, hS, hx, ho, q⟩ := h
    exact flat cdv A outer s H vs Q E S x d hv hS hx (by cases d <;> first | rfl | exact nomatch (show false = true from ho)) q
  | succ n ih =>
    refine F.ok sc__law_lists (fun vs H Q E h => ?_) (fun cdv A outer s H vs Q E hr h => ?_)
    · obtain ⟨S, x, d, rfl, _⟩ := h
      rfl
    obtain ⟨S, x, d, hv, hS, hx, ho, q⟩ := h
    cases d with
    | list ds =>
      subst hv
      obtain ⟨a, xs, rfl, ha, hxs⟩ := hx.inv_lst
      obtain ⟨hl, hds⟩ := ho
      refine ⟨_, pss_one (ps_ret (pe_ifExp (pt_val (pe_callB call_isiD (by rfl) mi (by decide +kernel) (pa_cons (pv 0) (pa_cons (pe_tup (pa_cons (pe_bltn (v := .ty "list") (by rfl) ml (by decide +kernel) rfl) (pa_cons (pe_bltn (v := .ty "tuple") (by rfl) mt (by decide +kernel) rfl) pa_nil))) pa_nil))))
        (pe_lc (own := [("_law_own", 1)]) (g := gName 1) (tt := tYes) (by rfl) nd (pi_list (pv 0)) (blkOk_by (N := n__law_lists) (sc := defScope s__law_lists) (by decide +kernel)) (fun _ _ _ _ _ => pg_name (i := 1) nd rfl (Or.inl rfl)) (fun _ _ _ _ _ => pts_nil)
          (fun _ _ _ _ _ => pe_call ih hr (by rfl) gF F.kp bF .nil pass0 (pa_cons (pv 1) pa_nil))) pe_never)), ?_⟩
      refine ⟨.ref a, rfl, by show 2 ≤ sizeLine; decide, fun p hp => ?_⟩
      have s1 := same_upd hp (.tup clsLT)
      have hy := (hx.mono wo_sub).mono s1
      refine ⟨.ref a, p, _, rfl, upd_same, hy, _, rfl, iteT ?_⟩
      refine ⟨.ref a, rfl, a, rfl, ⟨xs, SqL.of (s1 _ _ (wo_of ha))⟩, fun D hD => ?_⟩
      refine lc_eachL (S := S) (G := lstD) (hS.mono s1) hD (s1 _ _ (wo_of ha)) (hxs.mono (wo_mono s1)) hl (fun y d H2 R hd sm hO hyd hR => ?_) (fun H2 ys sm eD hys => ?_)
      · refine ⟨rfl, y, rfl, D :: S, y, d, rfl, hO, hyd, hds d hd, hR⟩
      · refine q _ _ (s1.trans sm) ?_
        rw [lstD, lstDs_map]
        exact lst_done ((hS.mono s1).not_mem hD) eD hys
    | tuple ds =>
      subst hv
      obtain ⟨a, xs, rfl, ha, hxs⟩ := hx.inv_tup
      obtain ⟨hl, hds⟩ := ho
      refine ⟨_, pss_one (ps_ret (pe_ifExp (pt_val (pe_callB call_isiD (by rfl) mi (by decide +kernel) (pa_cons (pv 0) (pa_cons (pe_tup (pa_cons (pe_bltn (v := .ty "list") (by rfl) ml (by decide +kernel) rfl) (pa_cons (pe_bltn (v := .ty "tuple") (by rfl) mt (by decide +kernel) rfl) pa_nil))) pa_nil))))
        (pe_lc (own := [("_law_own", 1)]) (g := gName 1) (tt := tYes) (by rfl) nd (pi_tup (pv 0)) (blkOk_by (N := n__law_lists) (sc := defScope s__law_lists) (by decide +kernel)) (fun _ _ _ _ _ => pg_name (i := 1) nd rfl (Or.inl rfl)) (fun _ _ _ _ _ => pts_nil)
          (fun _ _ _ _ _ => pe_call ih hr (by rfl) gF F.kp bF .nil pass0 (pa_cons (pv 1) pa_nil))) pe_never)), ?_⟩
      refine ⟨.ref a, rfl, by show 2 ≤ sizeLine; decide, fun p hp => ?_⟩
      have s1 := same_upd hp (.tup clsLT)
      have hy := (hx.mono wo_sub).mono s1
      refine ⟨.ref a, p, _, rfl, upd_same, hy, _, rfl, iteT ?_⟩
      refine ⟨.ref a, rfl, a, rfl, ⟨xs, SqT.of (s1 _ _ (wo_of ha))⟩, fun D hD => ?_⟩
      refine lc_eachT (S := S) (G := lstD) (hS.mono s1) hD (s1 _ _ (wo_of ha)) (hxs.mono (wo_mono s1)) hl (fun y d H2 R hd sm hO hyd hR => ?_) (fun H2 ys sm eD hys => ?_)
      · refine ⟨rfl, y, rfl, D :: S, y, d, rfl, hO, hyd, hds d hd, hR⟩
      · refine q _ _ (s1.trans sm) ?_
        rw [lstD, lstDs_map]
        exact lst_done ((hS.mono s1).not_mem hD) eD hys
    | none => exact flat cdv A outer s H vs Q E S x _ hv hS hx rfl q
    | bool _ => exact flat cdv A outer s H vs Q E S x _ hv hS hx rfl q
    | int _ => exact flat cdv A outer s H vs Q E S x _ hv hS hx rfl q
    | str _ => exact flat cdv A outer s H vs Q E S x _ hv hS hx rfl q
    | dict _ => exact nomatch (show false = true from ho)
end
end K2
/-! K2L3: _law_same -/
namespace K2
open PySem PySem.Spec PyProof.Rows L2
/-- isinstance(x, T), T a built-in type: by a table of the kinds -/
def isT (t : String) (d : PyData) : Option Bool := kitB (tyN d) t
def rIsiB (t : String) : List V → Hp → VK → Prop := fun vs H Q => ∃ x d b, vs = [x, .ty t] ∧ Td H x d ∧ kitB (tyN d) t = some b ∧ Q (.bl b) H
theorem call_isiB {X : Cx} (t : String) : CallR X (.builtin "isinstance") (rIsiB t) := CallR.imp call_isi fun vs H Q h => by
  obtain ⟨x, d, b, rfl, hx, hb, q⟩ := h
  exact ⟨x, .ty t, _, _, b, rfl, .ty t, hx.ty, kit_ty hb, q⟩
/-- isinstance(x, (bool, str)) -/
abbrev clsBS : List V := [.ty "bool", .ty "str"]
theorem clsBS_ok : Paired ClsV clsBS [.type "bool", .type "str"] := .cons (.ty _) (.cons (.ty _) .nil)
def isBS : PyData → Bool
  | .bool _ => true
  | .str _ => true
  | _ => false
theorem kit_bs {K : PySem.W.Frag} {H : Hp} {x : V} {d : PyData} (h : Td H x d) : PySem.W.kitAny K (.type (tyN d)) [.type "bool", .type "str"] = some (isBS d) := by
  have no : ∀ {a : String}, kitB a "bool" = some false → kitB a "str" = some false → PySem.W.kitAny K (.type a) [.type "bool", .type "str"] = some false := fun h1 h2 =>
    kitAny_cons (b := false) (kit_ty h1) (fun _ => kitAny_cons (b := false) (kit_ty h2) (fun _ => kitAny_nil) (fun z => nomatch z)) (fun z => nomatch z)
  cases h with
  | non => exact no (a := "NoneType") (by decide +kernel) (by decide +kernel)
  | bl b => exact kitAny_cons (b := true) (kit_ty (a := "bool") (by decide +kernel)) (fun z => nomatch z) (fun _ => rfl)
  | int i => exact no (a := "int") (by decide +kernel) (by decide +kernel)
  | str s => exact kitAny_cons (b := false) (kit_ty (a := "str") (by decide +kernel)) (fun _ => kitAny_cons (b := true) (kit_ty (a := "str") (by decide +kernel)) (fun z => nomatch z) (fun _ => rfl)) (fun z => nomatch z)
  | lst e _ => exact no (a := "list") (by decide +kernel) (by decide +kernel)
  | tup e _ => exact no (a := "tuple") (by decide +kernel) (by decide +kernel)
def rIsiBS : List V → Hp → VK → Prop := fun vs H Q => ∃ x tp d, vs = [x, .ref tp] ∧ H tp = some (.tup clsBS) ∧ Td H x d ∧ Q (.bl (isBS d)) H
theorem call_isiBS {X : Cx} : CallR X (.builtin "isinstance") rIsiBS := CallR.imp call_isiT fun vs H Q h => by
  obtain ⟨x, tp, d, rfl, e, hx, q⟩ := h
  exact ⟨x, tp, _, _, _, _, rfl, e, clsBS_ok, hx.ty, kit_bs hx, q⟩
/-- the same data on both sides -/
def spSame (n : Nat) : Sp := fun vs H Q _ => ∃ (x y : V) (d : PyData), vs = [x, y] ∧ Td H x d ∧ Td H y d ∧ okD n d ∧ ∀ H', Same H H' → Q (.bl true) H'
theorem all_true (n : Nat) : ((List.replicate n true).all id) = true := by
  induction n with
  | zero => rfl
  | succ n ih => rw [List.replicate_succ, List.all_cons, ih]; rfl
section
variable {P : Program} {w : World} {K : PySem.W.Frag} {mg : Str → Option Value} {base : Heap} {f : Addr} {fd : FuncData}
structure SameB (mg : Str → Option Value) : Prop where
  isi : mg "isinstance" = none
  lst : mg "list" = none
  tup : mg "tuple" = none
  len : mg "len" = none
  all : mg "all" = none
  zip : mg "zip" = none
  bool : mg "bool" = none
  str : mg "str" = none
  int : mg "int" = none
/-- a zip of two sequences of one data, each pair by a call -/
theorem lc_pairs {J : It} {xs ys : List V} {ds : List PyData} {g : TG} {te : TE} {vs : List Nat} {σ : L2.St} {H1 : Hp} {D : Addr} {Qd : Hp → Prop} (hD : H1 D = none) (hx : TdL H1 xs ds) (hy : TdL H1 ys ds) (hl : ds.length ≤ 1000)
    (hst : ∀ H, Same H1 H → J.stop ds.length H) (hgo : ∀ i H x y, Same H1 H → xs[i]? = some x → ys[i]? = some y → J.go i H)
    (hyl : ∀ i H z H', Same H1 H → J.yld i H z H' → ∃ T x y, z = .ref T ∧ H T = none ∧ H' = upd H T (.tup [x, y]) ∧ xs[i]? = some x ∧ ys[i]? = some y)
    (hs : ∀ x y T d H2 (R : VK), d ∈ ds → H2 T = some (.tup [x, y]) → Td H2 x d → Td H2 y d → (∀ H3, Same H2 H3 → R (.bl true) H3) → g (.ref T) (wipe σ vs) H2 fun σ2 H3 => wipe σ2 vs = wipe σ vs ∧ te σ2 H3 R)
    (hd : ∀ H2, Same H1 H2 → H2 D = some (.lst ((List.replicate ds.length true).map V.bl)) → Qd H2) :
    LcAt J g tYes te vs σ H1 D Qd := by
  refine lc_any (n := ds.length) (fun i H => Same H1 H ∧ H D = some (.lst ((List.replicate i true).map V.bl))) ⟨same_upd hD _, upd_same⟩ (fun H h => hst H h.1) (fun i H hi h => ?_) (fun i H z H' hi h hz => ?_) (fun H h => hd H h.1 h.2)
  · have h1 : i < xs.length := by rw [hx.length]; exact hi
    have h2 : i < ys.length := by rw [hy.length]; exact hi
    exact hgo i H _ _ h.1 (List.getElem?_eq_getElem h1) (List.getElem?_eq_getElem h2)
  · obtain ⟨sm, eD⟩ := h
    obtain ⟨T, x, y, rfl, nT, rfl, e1, e2⟩ := hyl i H z H' sm hz
    obtain ⟨d, hd1, hx1⟩ := hx.got e1
    obtain ⟨d', hd2, hy1⟩ := hy.got e2
    rw [hd1] at hd2
    cases hd2
    have sT := same_upd nT (.tup [x, y])
    refine hs x y T d _ _ (List.mem_of_getElem? hd1) upd_same (hx1.mono (sm.trans sT)) (hy1.mono (sm.trans sT)) (fun H3 s3 => ⟨_, s3 _ _ (sT _ _ eD), ?_, same_in hD (sm.trans (sT.trans s3)) _, ?_⟩)
    · rw [List.length_map, List.length_replicate]
      exact small (by omega)
    · rw [upd_same, List.replicate_succ', List.map_append]
      rfl
theorem ok_law_same (F : Fun K "_law_same" "_law_same" s__law_same f fd) (bF : Binds K fd ["_law_got", "_law_goal"] []) (gF : mg "_law_same" = some (.ref f)) (B : SameB mg) :
    ∀ n, FnOk P w K mg base CX0 (n + 1) f fd ["_law_got", "_law_goal"] (spSame n) := by
  have nd := sc__law_same.nd
  have flat : ∀ (cdv : Value) (A : Around) (outer : List Env) (s : Shared) (H : Hp) (vs : List V) (Q : VK) (E : XK) (x y : V) (d : PyData), vs = [x, y] → Td H x d → Td H y d → isSeq d = false → (∀ H', Same H H' → Q (.bl true) H') →
      ∃ t, PSs (cxOf CX0 P w K mg base n__law_same "_law_same" (defScope s__law_same) f cdv A outer s H E).nox (defBody s__law_same) t ∧ t { nx := fun _ H' => Q .non H', rt := Q } (L2.start n__law_same vs) H := by
    intro cdv A outer s H vs Q E x y d hv hx hy hf q
    subst hv
    refine ⟨_, pss_cons (ps_if (pt_val (pe_callB call_isiD (by rfl) B.isi (by decide +kernel) (pa_cons (pv 1) (pa_cons (pe_tup (pa_cons (pe_bltn (v := .ty "list") (by rfl) B.lst (by decide +kernel) rfl) (pa_cons (pe_bltn (v := .ty "tuple") (by rfl) B.tup (by decide +kernel) rfl) pa_nil))) pa_nil)))) pss_never pss_nil)
      (pss_cons (ps_if (PW.pt (pw_or (pt_cmpR op_isN (pv 1) pe_non (nomark _)) (pw_or1 (pt_val (pe_callB call_isiBS (by rfl) B.isi (by decide +kernel) (pa_cons (pv 1) (pa_cons (pe_tup (pa_cons (pe_bltn (v := .ty "bool") (by rfl) B.bool (by decide +kernel) rfl) (pa_cons (pe_bltn (v := .ty "str") (by rfl) B.str (by decide +kernel) rfl) pa_nil))) pa_nil)))))))
        (pss_one (ps_ret (pe_and (pe_cmpR op_eq (pv 0) (pv 1) (nomark _)) (pe_and (pe_cmpR op_eq (pe_callB (call_isiB "bool") (by rfl) B.isi (by decide +kernel) (pa_cons (pv 0) (pa_cons (pe_bltn (v := .ty "bool") (by rfl) B.bool (by decide +kernel) rfl) pa_nil))) (pe_callB (call_isiB "bool") (by rfl) B.isi (by decide +kernel) (pa_cons (pv 1) (pa_cons (pe_bltn (v := .ty "bool") (by rfl) B.bool (by decide +kernel) rfl) pa_nil))) (nomark _))
          (pe_one (pe_cmpR op_eq (pe_cmpR op_isN (pv 0) pe_non (nomark _)) (pe_cmpR op_isN (pv 1) pe_non (nomark _)) (nomark _))))))) pss_nil)
      (pss_one (ps_ret (pe_and (pe_callB (call_isiB "int") (by rfl) B.isi (by decide +kernel) (pa_cons (pv 0) (pa_cons (pe_bltn (v := .ty "int") (by rfl) B.int (by decide +kernel) rfl) pa_nil))) (pe_and (pe_not (pe_callB (call_isiB "bool") (by rfl) B.isi (by decide +kernel) (pa_cons (pv 0) (pa_cons (pe_bltn (v := .ty "bool") (by rfl) B.bool (by decide +kernel) rfl) pa_nil))))
          (pe_one (pe_cmpR op_eq (pv 0) (pv 1) (nomark _)))))))), ?_⟩
    refine ⟨y, rfl, by show 2 ≤ sizeLine; decide, fun p hp => ?_⟩
    have s1 := same_upd hp (.tup clsLT)
    have hx1 := hx.mono s1
    have hy1 := hy.mono s1
    refine ⟨y, p, d, rfl, upd_same, hy1, _, rfl, ?_⟩
    rw [hf]
    refine iteF ⟨y, rfl, rfl, _, rfl, ?_⟩
    have go2 : ∀ H2, Same H H2 → Td H2 x d → Td H2 y d → x = y → scal x y = true → ∀ b, kitB (tyN d) "bool" = some b →
        tAndV (tOp rEq (tVar 0) (tVar 1)) (tAndV (tOp rEq (tCB (rIsiB "bool") (tCons (tVar 0) (tCons (tC (.ty "bool")) tNil))) (tCB (rIsiB "bool") (tCons (tVar 1) (tCons (tC (.ty "bool")) tNil))))
          (tOp rEq (tOp (fun x y H Q => y = .non ∧ Q (.bl (decide (x = .non))) H) (tVar 0) (tC .non)) (tOp (fun x y H Q => y = .non ∧ Q (.bl (decide (x = .non))) H) (tVar 1) (tC .non)))) [some x, some y, none, none] H2 Q := by
      intro H2 s2 h1 h2 e es b hb
      subst e
      refine ⟨x, rfl, x, rfl, es, _, rfl, ite_yes (decide_eq_true rfl) ⟨x, rfl, x, d, b, rfl, h1, hb, x, rfl, x, d, b, rfl, h1, hb, rfl, _, rfl, ite_yes (decide_eq_true rfl) ⟨x, rfl, rfl, x, rfl, rfl, rfl, ?_⟩⟩⟩
      rw [decide_eq_true rfl]
      exact q H2 s2
    cases d with
    | none =>
      obtain rfl := hx1.inv_non
      obtain rfl := hy1.inv_non
      exact ite_yes rfl (go2 _ s1 hx1 hy1 rfl rfl false (by decide +kernel))
    | bool b =>
      obtain rfl := hx1.inv_bl
      obtain rfl := hy1.inv_bl
      refine ite_no rfl ⟨.bl b, rfl, by show 2 ≤ sizeLine; decide, fun p2 hp2 => ?_⟩
      have s2 := same_upd hp2 (.tup clsBS)
      exact ⟨.bl b, p2, .bool b, rfl, upd_same, hy1.mono s2, _, rfl, iteT (go2 _ (s1.trans s2) (hx1.mono s2) (hy1.mono s2) rfl rfl true (by show kitB "bool" "bool" = some true; decide +kernel))⟩
    | int i =>
      obtain rfl := hx1.inv_int
      obtain rfl := hy1.inv_int
      refine ite_no rfl ⟨.int i, rfl, by show 2 ≤ sizeLine; decide, fun p2 hp2 => ?_⟩
      have s2 := same_upd hp2 (.tup clsBS)
      refine ⟨.int i, p2, .int i, rfl, upd_same, hy1.mono s2, _, rfl, iteF ?_⟩
      refine ⟨.int i, rfl, .int i, .int i, true, rfl, .int i, (by show kitB "int" "int" = some true; decide +kernel), _, rfl, iteT ?_⟩
      refine ⟨.int i, rfl, .int i, .int i, false, rfl, .int i, (by show kitB "int" "bool" = some false; decide +kernel), _, rfl, _, rfl, iteT ?_⟩
      refine ⟨.int i, rfl, .int i, rfl, rfl, ?_⟩
      rw [decide_eq_true rfl]
      exact q _ (s1.trans s2)
    | str z =>
      obtain rfl := hx1.inv_str
      obtain rfl := hy1.inv_str
      refine ite_no rfl ⟨.str z, rfl, by show 2 ≤ sizeLine; decide, fun p2 hp2 => ?_⟩
      have s2 := same_upd hp2 (.tup clsBS)
      exact ⟨.str z, p2, .str z, rfl, upd_same, hy1.mono s2, _, rfl, iteT (go2 _ (s1.trans s2) (hx1.mono s2) (hy1.mono s2) rfl rfl false (by show kitB "str" "bool" = some false; decide +kernel))⟩
    | list ds => cases hf
    | tuple ds => cases hf
    | dict e => cases hx
  intro n
  induction n with
  | zero =>
    refine F.ok sc__law_same (fun vs H Q E h => ?_) (fun cdv A outer s H vs Q E hr h => ?_)
    · obtain ⟨x, y, d, rfl, _⟩ := h
      rfl
    obtain ⟨x, y, d, hv, hx, hy, ho, q⟩ := h
    exact flat cdv A outer s H vs Q E x y d hv hx hy (by cases d <;> first | rfl | exact nomatch (show false = true from ho)) q
  | succ n ih =>
    refine F.ok sc__law_same (fun vs H Q E h => ?_) (fun cdv A outer s H vs Q E hr h => ?_)
    · obtain ⟨x, y, d, rfl, _⟩ := h
      rfl
    obtain ⟨x, y, d, hv, hx, hy, ho, q⟩ := h
    have seq : ∀ {ds : List PyData}, (d = .list ds ∨ d = .tuple ds) → ds.length ≤ 1000 → (∀ e ∈ ds, okD n e) → ∃ t, PSs (cxOf CX0 P w K mg base n__law_same "_law_same" (defScope s__law_same) f cdv A outer s H E).nox (defBody s__law_same) t ∧ t { nx := fun _ H' => Q .non H', rt := Q } (L2.start n__law_same vs) H := by
      intro ds hd hl hds
      subst hv
      refine ⟨_, pss_cons (ps_if (pt_val (pe_callB call_isiD (by rfl) B.isi (by decide +kernel) (pa_cons (pv 1) (pa_cons (pe_tup (pa_cons (pe_bltn (v := .ty "list") (by rfl) B.lst (by decide +kernel) rfl) (pa_cons (pe_bltn (v := .ty "tuple") (by rfl) B.tup (by decide +kernel) rfl) pa_nil))) pa_nil))))
        (pss_cons (ps_if (PW.pt (pw_or (pt_cmpR op_ne (pe_callB (call_isiB "list") (by rfl) B.isi (by decide +kernel) (pa_cons (pv 0) (pa_cons (pe_bltn (v := .ty "list") (by rfl) B.lst (by decide +kernel) rfl) pa_nil))) (pe_callB (call_isiB "list") (by rfl) B.isi (by decide +kernel) (pa_cons (pv 1) (pa_cons (pe_bltn (v := .ty "list") (by rfl) B.lst (by decide +kernel) rfl) pa_nil))) (nomark _))
            (pw_or1 (pt_cmpR op_ne (pe_callB (call_isiB "tuple") (by rfl) B.isi (by decide +kernel) (pa_cons (pv 0) (pa_cons (pe_bltn (v := .ty "tuple") (by rfl) B.tup (by decide +kernel) rfl) pa_nil))) (pe_callB (call_isiB "tuple") (by rfl) B.isi (by decide +kernel) (pa_cons (pv 1) (pa_cons (pe_bltn (v := .ty "tuple") (by rfl) B.tup (by decide +kernel) rfl) pa_nil))) (nomark _))))) pss_never pss_nil)
        (pss_one (ps_ret (pe_and (pe_cmpR op_eq (pe_callB call_lenD' (by rfl) B.len PySem.boot_len (pa_cons (pv 0) pa_nil)) (pe_callB call_lenD' (by rfl) B.len PySem.boot_len (pa_cons (pv 1) pa_nil)) (nomark _))
          (pe_one (pe_callB (cr_all rfl) (by rfl) B.all (by decide +kernel) (pa_cons (pe_lc (own := [("_law_mine_so", 2), ("_law_own", 3)]) (g := gTup K 2 (gCons (gName 2) (gCons (gName 3) gNil))) (tt := tYes) (by rfl) nd (RZ.pi_zipA (by rfl) B.zip (pa_cons (pv 0) (pa_cons (pv 1) pa_nil))) (blkOk_by (N := n__law_same) (sc := defScope s__law_same) (by decide +kernel))
            (fun _ _ _ _ _ => pg_tup rfl (pgs_cons (pg_name (i := 2) nd rfl (Or.inl rfl)) (pgs_cons (pg_name (i := 3) nd rfl (Or.inl rfl)) pgs_nil))) (fun _ _ _ _ _ => pts_nil)
            (fun _ _ _ _ _ => pe_call ih hr (by rfl) gF F.kp bF .nil pass0 (pa_cons (pv 2) (pa_cons (pv 3) pa_nil)))) pa_nil))))))) pss_nil)
        pss_never, ?_⟩
      refine ⟨y, rfl, by show 2 ≤ sizeLine; decide, fun p hp => ?_⟩
      have s1 := same_upd hp (.tup clsLT)
      have hx1 := hx.mono s1
      have hy1 := hy.mono s1
      have hq : isSeq d = true := by rcases hd with e | e <;> rw [e] <;> rfl
      refine ⟨y, p, d, rfl, upd_same, hy1, _, rfl, ?_⟩
      rw [hq]
      refine iteT ?_
      obtain ⟨bL, eL⟩ : ∃ b, kitB (tyN d) "list" = some b := by
        rcases hd with e | e <;> rw [e]
        · exact ⟨true, by show kitB "list" "list" = some true; decide +kernel⟩
        · exact ⟨false, by show kitB "tuple" "list" = some false; decide +kernel⟩
      obtain ⟨bT, eT⟩ : ∃ b, kitB (tyN d) "tuple" = some b := by
        rcases hd with e | e <;> rw [e]
        · exact ⟨false, by show kitB "list" "tuple" = some false; decide +kernel⟩
        · exact ⟨true, by show kitB "tuple" "tuple" = some true; decide +kernel⟩
      refine ⟨x, rfl, x, d, bL, rfl, hx1, eL, y, rfl, y, d, bL, rfl, hy1, eL, rfl, _, rfl, ite_no (by rw [decide_eq_true rfl]; rfl) ?_⟩
      refine ⟨x, rfl, x, d, bT, rfl, hx1, eT, y, rfl, y, d, bT, rfl, hy1, eT, rfl, _, rfl, ite_no (by rw [decide_eq_true rfl]; rfl) ?_⟩
      have hor : ∀ {z : V}, Td (upd H p (.tup clsLT)) z d → Td (wo [] (upd H p (.tup clsLT))) z (.tuple ds) ∨ Td (wo [] (upd H p (.tup clsLT))) z (.list ds) := fun {z} hz => by
        rcases hd with e | e
        · rw [e] at hz; exact .inr (wo_nil_td hz)
        · rw [e] at hz; exact .inl (wo_nil_td hz)
      refine ⟨x, rfl, [], x, ds, rfl, hor hx1, y, rfl, [], y, ds, rfl, hor hy1, rfl, _, rfl, ite_yes (decide_eq_true rfl) ?_⟩
      rcases hd with e | e
      · subst e
        obtain ⟨a, xs, rfl, ha, hxs⟩ := hx1.inv_lst
        obtain ⟨b, ys, rfl, hb, hys⟩ := hy1.inv_lst
        refine ⟨.ref a, rfl, .ref b, rfl, a, b, xs, ys, rfl, .inl ⟨SqL.of ha, SqL.of hb, fun D hD => ?_⟩⟩
        refine lc_pairs (xs := xs) (ys := ys) (ds := ds) hD hxs hys hl (fun H2 sm => ⟨xs, ys, SqL.of (sm _ _ ha), SqL.of (sm _ _ hb), .inl (by rw [hxs.length]; exact Nat.le_refl _)⟩) (fun i H2 x y sm e1 e2 => ⟨xs, ys, x, y, SqL.of (sm _ _ ha), SqL.of (sm _ _ hb), e1, e2⟩)
          (fun i H2 z H3 sm hz => ?_) (fun x y T d' H2 R hd' eT' h1 h2 hR => ?_) (fun H2 sm eD => ?_)
        · obtain ⟨T, x, y, e0, e1, e2, f1, f2⟩ := hz
          exact ⟨T, x, y, e0, e1, e2, f1 _ (SqL.of (sm _ _ ha)), f2 _ (SqL.of (sm _ _ hb))⟩
        · exact ⟨T, _, rfl, SqT.of eT', rfl, x, [y], rfl, y, [], rfl, rfl, rfl, x, rfl, y, rfl, x, y, d', rfl, h1, h2, hds d' hd', hR⟩
        · refine ⟨D, _, rfl, SqL.of eD, ?_⟩
          rw [all_true]
          exact q _ (s1.trans sm)
      · subst e
        obtain ⟨a, xs, rfl, ha, hxs⟩ := hx1.inv_tup
        obtain ⟨b, ys, rfl, hb, hys⟩ := hy1.inv_tup
        refine ⟨.ref a, rfl, .ref b, rfl, a, b, xs, ys, rfl, .inr ⟨SqT.of ha, SqT.of hb, fun D hD => ?_⟩⟩
        refine lc_pairs (xs := xs) (ys := ys) (ds := ds) hD hxs hys hl (fun H2 sm => ⟨xs, ys, SqT.of (sm _ _ ha), SqT.of (sm _ _ hb), .inl (by rw [hxs.length]; exact Nat.le_refl _)⟩) (fun i H2 x y sm e1 e2 => ⟨xs, ys, x, y, SqT.of (sm _ _ ha), SqT.of (sm _ _ hb), e1, e2⟩)
          (fun i H2 z H3 sm hz => ?_) (fun x y T d' H2 R hd' eT' h1 h2 hR => ?_) (fun H2 sm eD => ?_)
        · obtain ⟨T, x, y, e0, e1, e2, f1, f2⟩ := hz
          exact ⟨T, x, y, e0, e1, e2, f1 _ (SqT.of (sm _ _ ha)), f2 _ (SqT.of (sm _ _ hb))⟩
        · exact ⟨T, _, rfl, SqT.of eT', rfl, x, [y], rfl, y, [], rfl, rfl, rfl, x, rfl, y, rfl, x, y, d', rfl, h1, h2, hds d' hd', hR⟩
        · refine ⟨D, _, rfl, SqL.of eD, ?_⟩
          rw [all_true]
          exact q _ (s1.trans sm)
    cases d with
    | list ds => exact seq (.inl rfl) ho.1 ho.2
    | tuple ds => exact seq (.inr rfl) ho.1 ho.2
    | none => exact flat cdv A outer s H vs Q E x y _ hv hx hy rfl q
    | bool _ => exact flat cdv A outer s H vs Q E x y _ hv hx hy rfl q
    | int _ => exact flat cdv A outer s H vs Q E x y _ hv hx hy rfl q
    | str _ => exact flat cdv A outer s H vs Q E x y _ hv hx hy rfl q
    | dict _ => exact nomatch (show false = true from ho)
end
end K2
/-! K2L4: the source of draws: _law_take, _law_box, _law_cells -/
namespace K2
open PySem PySem.Spec PyProof.Rows L2
/-- the urn behind at most N draws -/
def UrnO (N : Int) (o : HO) : Prop := ∃ x0 x1 x2 : Int, o = .lst [.int x0, .int x1, .int x2] ∧ 0 ≤ x2 ∧ x2 ≤ N
def spTake : Sp := fun vs H Q _ => ∃ (u : Addr) (c N : Int) (o : HO), vs = [.ref u, .int c] ∧ H u = some o ∧ UrnO N o ∧ N ≤ 1000000 ∧ 0 < c ∧ c ≤ 1000 ∧
  ∀ o' r, UrnO (N + 1) o' → 0 ≤ r → r < c → Q (.int r) (upd H u o')
section
variable {P : Program} {w : World} {K : PySem.W.Frag} {mg : Str → Option Value} {base : Heap} {f : Addr} {fd : FuncData}
theorem ok_law_take (F : Fun K "_law_take" "_law_take" s__law_take f fd) (mi : mg "int" = none) : FnOk P w K mg base CX0 1 f fd ["_law_urn", "_law_low_so"] spTake := by
  refine F.ok sc__law_take (fun vs H Q E h => ?_) (fun cdv A outer s H vs Q E hr h => ?_)
  · obtain ⟨u, c, N, o, rfl, _⟩ := h
    rfl
  obtain ⟨u, c, N, o, rfl, hu, ⟨x0, x1, x2, rfl, h0, h1⟩, hN, c0, c1, q⟩ := h
  have nd := sc__law_take.nd
  refine ⟨_, pss_cons (ps_if (pt_cmpR op_gt (pe_ix ix_list (pv 0) pe_int (fun _ _ => rfl)) pe_int (nomark _))
      (pss_cons (ps_set (i := 2) nd rfl (.inl rfl) (pe_op op_mod (pe_callTy call_int1 (by rfl) mi (by decide +kernel) (pa_cons (pe_ix ix_list (pv 0) pe_int (fun _ _ => rfl)) pa_nil)) (pv 1)))
      (pss_cons (ps_asg (pe_op op_fdiv (pe_ix ix_list (pv 0) pe_int (fun _ _ => rfl)) (pv 1)) (pg_sub (pv 0) pe_int set_list))
      (pss_one (ps_ret (pv 2))))) pss_nil)
    (pss_cons (ps_asg (pe_op op_add (pe_ix ix_list (pv 0) pe_int (fun _ _ => rfl)) pe_int) (pg_sub (pv 0) pe_int set_list))
    (pss_cons (ps_set (i := 3) nd rfl (.inl rfl) (pe_op op_mod (pe_callTy call_int1 (by rfl) mi (by decide +kernel) (pa_cons (pe_op op_mul (pe_op op_add (pe_ix ix_list (pv 0) pe_int (fun _ _ => rfl)) (pe_op op_mul pe_int (pe_ix ix_list (pv 0) pe_int (fun _ _ => rfl)))) (pe_op op_add pe_int (pe_ix ix_list (pv 0) pe_int (fun _ _ => rfl)))) pa_nil)) pe_int))
    (pss_cons (ps_set (i := 4) nd rfl (.inl rfl) (pe_op op_add (pe_op op_mod (pe_callTy call_int1 (by rfl) mi (by decide +kernel) (pa_cons (pv 3) pa_nil)) pe_int) pe_int))
    (pss_cons (ps_set (i := 5) nd rfl (.inl rfl) (pe_op op_mod (pe_callTy call_int1 (by rfl) mi (by decide +kernel) (pa_cons (pe_op op_mul (pe_op op_add (pe_op op_add (pv 3) (pe_ix ix_list (pv 0) pe_int (fun _ _ => rfl))) (pe_op op_fdiv (pe_ix ix_list (pv 0) pe_int (fun _ _ => rfl)) pe_int)) (pv 4)) pa_nil)) pe_int))
    (pss_one (ps_ret (pe_op op_mod (pe_callTy call_int1 (by rfl) mi (by decide +kernel) (pa_cons (pe_op op_fdiv (pe_op op_mod (pe_callTy call_int1 (by rfl) mi (by decide +kernel) (pa_cons (pe_op op_add (pe_op op_mul (pv 5) pe_int) (pv 3)) pa_nil)) pe_int) pe_int) pa_nil)) (pv 1)))))))), ?_⟩
  refine ⟨.ref u, rfl, u, _, 0, .int x0, rfl, rfl, SqL.of hu, atI_nat (j := 0) rfl, _, _, rfl, rfl, _, rfl, ite2 (fun cc => ?_) (fun cc => ?_)⟩
  · refine ⟨.ref u, rfl, u, _, 0, .int x0, rfl, rfl, SqL.of hu, atI_nat (j := 0) rfl, .inl ⟨x0, rfl, _, rfl, _, _, rfl, rfl, c0, ?_⟩⟩
    refine ⟨.ref u, rfl, u, _, 0, .int x0, rfl, rfl, SqL.of hu, atI_nat (j := 0) rfl, _, rfl, _, _, rfl, rfl, ⟨c0, by omega⟩, ?_⟩
    refine ⟨.ref u, rfl, u, _, 0, 0, rfl, rfl, hu, rfl, ?_⟩
    exact ⟨_, rfl, q _ _ ⟨_, x1, x2, rfl, h0, by omega⟩ (Int.emod_nonneg _ (by omega)) (Int.emod_lt_of_pos _ c0)⟩
  · refine ⟨.ref u, rfl, u, _, 2, .int x2, rfl, rfl, SqL.of hu, atI_nat (j := 2) rfl, _, _, rfl, rfl, ?_⟩
    refine ⟨.ref u, rfl, u, _, 2, 2, rfl, rfl, hu, rfl, ?_⟩
    have hu2 : (upd H u (.lst [.int x0, .int x1, .int (x2 + 1)])) u = some (.lst [.int x0, .int x1, .int (x2 + 1)]) := upd_same
    refine ⟨.ref u, rfl, u, _, 1, .int x1, rfl, rfl, SqL.of hu2, atI_nat (j := 1) rfl, .ref u, rfl, u, _, 2, .int (x2 + 1), rfl, rfl, SqL.of hu2, atI_nat (j := 2) rfl, _, _, rfl, rfl, .inl ⟨by decide, by decide⟩, _, _, rfl, rfl, .ref u, rfl, u, _, 2, .int (x2 + 1), rfl, rfl, SqL.of hu2, atI_nat (j := 2) rfl, _, _, rfl, rfl,
      _, _, rfl, rfl, .inr ⟨by omega, by omega⟩, .inl ⟨_, rfl, _, _, rfl, rfl, (by show (0 : Int) < _; decide), ?_⟩⟩
    refine ⟨_, rfl, .inl ⟨_, rfl, _, _, rfl, rfl, (by show (0 : Int) < _; decide), _, _, rfl, rfl, ?_⟩⟩
    refine ⟨_, rfl, .ref u, rfl, u, _, 2, .int (x2 + 1), rfl, rfl, SqL.of hu2, atI_nat (j := 2) rfl, _, _, rfl, rfl, .ref u, rfl, u, _, 1, .int x1, rfl, rfl, SqL.of hu2, atI_nat (j := 1) rfl, _, _, rfl, rfl, ⟨by decide, by decide⟩, _, _, rfl, rfl, _, rfl, _, _, rfl, rfl, .inr ⟨?_, ?_⟩, .inl ⟨_, rfl, _, _, rfl, rfl, (by show (0 : Int) < _; decide), ?_⟩⟩
    · have := Int.emod_nonneg (((x1 + 48271 * (x2 + 1)) * (39373 + (x2 + 1))) % 2147483647) (show (40009 : Int) ≠ 0 by decide)
      omega
    · have := Int.emod_lt_of_pos (((x1 + 48271 * (x2 + 1)) * (39373 + (x2 + 1))) % 2147483647) (show (0 : Int) < 40009 by decide)
      omega
    refine ⟨_, rfl, _, _, rfl, rfl, .inr ⟨by decide, by decide⟩, _, rfl, _, _, rfl, rfl, .inl ⟨_, rfl, _, _, rfl, rfl, (by show (0 : Int) < _; decide), _, _, rfl, rfl, ⟨by decide, by decide⟩, .inl ⟨_, rfl, _, rfl, _, _, rfl, rfl, c0, ?_⟩⟩⟩
    exact q _ _ ⟨x0, x1, x2 + 1, rfl, by omega, by omega⟩ (Int.emod_nonneg _ (by omega)) (Int.emod_lt_of_pos _ c0)
/-! ### _law_box -/
theorem b01 (b : Bool) : -(2 ^ 64) < (if b = true then (1 : Int) else 0) ∧ (if b = true then (1 : Int) else 0) < 2 ^ 64 := by cases b <;> exact ⟨by decide, by decide⟩
def spBox : Sp := fun vs H Q _ => ∃ (a : Addr) (c : Int), vs = [.ref a, .int 0] ∧ H a = some (.lst [.int c]) ∧ ∀ u o, H u = none → UrnO 0 o → Q (.ref u) (upd H u o)
theorem ok_law_box (F : Fun K "_law_box" "_law_box" s__law_box f fd) (ml : mg "len" = none) (ma : mg "abs" = none) (mi : mg "int" = none) : FnOk P w K mg base CX0 1 f fd ["_law_script", "_law_k"] spBox := by
  refine F.ok sc__law_box (fun vs H Q E h => ?_) (fun cdv A outer s H vs Q E hr h => ?_)
  · obtain ⟨a, c, rfl, _⟩ := h
    rfl
  obtain ⟨a, c, rfl, ha, q⟩ := h
  have nd := sc__law_box.nd
  refine ⟨_, pss_cons (ps_set (i := 2) nd rfl (.inl rfl) (pe_ifExp (pt_cmpR op_lt (pv 1) (pe_callB call_len_seq (by rfl) ml PySem.boot_len (pa_cons (pv 0) pa_nil)) (nomark _)) (pe_ix ix_list (pv 0) (pv 1) (fun _ _ => rfl)) pe_int))
    (pss_one (ps_ret (pe_lst (pa_cons (pe_op op_mul (pe_callB call_abs (by rfl) ma (by decide +kernel) (pa_cons (pv 2) pa_nil)) (pe_callTy call_int1 (by rfl) mi (by decide +kernel) (pa_cons (pe_cmpR op_ge (pe_callB call_abs (by rfl) ma (by decide +kernel) (pa_cons (pv 2) pa_nil)) (pe_op op_pow pe_int pe_int) (nomark _)) pa_nil)))
      (pa_cons (pe_op op_add (pe_op op_add (pe_op op_mod (pe_callTy call_int1 (by rfl) mi (by decide +kernel) (pa_cons (pv 2) pa_nil)) pe_int) (pe_op op_mul pe_int (pv 1))) pe_int) (pa_cons pe_int pa_nil)))))), ?_⟩
  refine ⟨_, rfl, .ref a, rfl, a, _, rfl, .inl (SqL.of ha), _, _, rfl, rfl, _, rfl, ite_yes (decide_eq_true (by show (0 : Int) < 1; decide)) ?_⟩
  refine ⟨.ref a, rfl, _, rfl, a, _, 0, .int c, rfl, rfl, SqL.of ha, atI_nat (j := 0) rfl, ?_⟩
  refine ⟨_, rfl, c, rfl, _, rfl, c, rfl, 10, 18, rfl, rfl, ⟨by decide, by decide, by decide⟩, _, _, rfl, rfl, .inr ⟨_, rfl, _, _, rfl, rfl, .inr ?_, ?_⟩⟩
  · exact b01 _
  refine ⟨_, rfl, .inl ⟨c, rfl, _, _, rfl, rfl, (by show (0 : Int) < _; decide), _, rfl, _, _, rfl, rfl, .inl ⟨by decide, by decide⟩, _, _, rfl, rfl, _, _, rfl, rfl, by show 3 ≤ sizeLine; decide, fun u hu => q u _ hu ⟨_, _, 0, rfl, by decide, by decide⟩⟩⟩
/-! ### _law_cells -/
def spCells (K : PySem.W.Frag) : Sp := fun vs H Q _ => ∃ (a : Addr) (ns : List Int), vs = [.ref a, .int 1] ∧ SqL K H a (ns.map V.int) ∧ ns.length ≤ 63 ∧ ∀ p c H', H' p = some (.lst [.int c]) → Q (.ref p) H'
theorem ok_law_cells (F : Fun K "_law_cells" "_law_cells" s__law_cells f fd) (ml : mg "list" = none) (me : mg "enumerate" = none) (mi : mg "int" = none) : FnOk P w K mg base CX0 1 f fd ["_law_script", "_law_top"] (spCells K) := by
  refine F.ok sc__law_cells (fun vs H Q E h => ?_) (fun cdv A outer s H vs Q E hr h => ?_)
  · obtain ⟨a, ns, rfl, _⟩ := h
    rfl
  obtain ⟨a, ns, rfl, hS, hl, q⟩ := h
  have nd := sc__law_cells.nd
  refine ⟨_, pss_cons (ps_set (i := 2) nd rfl (.inl rfl) (pe_orT (pe_callTy call_list_of (by rfl) ml (by decide +kernel) (pa_cons (pe_slice sl_list (pv 0) po_none (po_some (pv 1))) pa_nil)) (pe_one (pe_lst (pa_cons pe_int pa_nil)))))
    (pss_cons (ps_for PassesOwn.never rfl (pi_enum (by rfl) me (pa_cons (pe_slice sl_list (pv 0) (po_some (pv 1)) (po_some pe_int)) pa_nil)) (pg_tup rfl (pgs_cons (pg_name (i := 3) nd rfl (.inl rfl)) (pgs_cons (pg_name (i := 4) nd rfl (.inl rfl)) pgs_nil)))
      (pss_cons (ps_set (i := 5) nd rfl (.inl rfl) (pe_op op_mod (pe_callTy call_int1 (by rfl) mi (by decide +kernel) (pa_cons (pv 3) pa_nil)) (pv 1)))
      (pss_one (ps_asg (pe_op op_add (pe_ix ix_list (pv 2) (pv 5) (fun _ _ => rfl)) (pe_op op_mul (pv 4) (pe_op op_add (pv 3) pe_int))) (pg_sub (pv 2) (pv 5) set_list)))))
    (pss_one (ps_ret (pv 2)))), ?_⟩
  refine ⟨.ref a, rfl, _, rfl, 1, rfl, a, _, rfl, hS, fun p1 h1 => ?_⟩
  have e1 : cutV (ns.map V.int) none (some (1 : Int)) = (ns.map V.int).take 1 := cutA_to _ 1
  rw [e1]
  have s1 := same_upd h1 (.lst ((ns.map V.int).take 1))
  refine ⟨p1, _, rfl, .inl (SqL.of upd_same), fun p2 h2 => ?_⟩
  have s2 := same_upd h2 (.lst ((ns.map V.int).take 1))
  -- behind «or»: a list of one number at p
  have rest : ∀ (p : Addr) (c : Int) (H1 : Hp), Same H H1 → H p = none → H1 p = some (.lst [.int c]) → gName 2 (.ref p) (L2.start n__law_cells [.ref a, .int 1]) H1
      (tSeq (tFor (iEnum K (tCons (tSl (rSlL K) (tVar 0) (tPart (tVar 1)) (tPart (tC (.int 63)))) tNil)) (gTup K 2 (gCons (gName 3) (gCons (gName 4) gNil)))
        (tSeq (tAsg (tOp (rI (fun _ j => 0 < j) fun i j => .int (i % j)) (tCB (fun xs H Q => (∃ i, xs = [.int i] ∧ Q (.int i) H) ∨ ∃ k, xs = [.bl k] ∧ Q (.int (if k then 1 else 0)) H) (tCons (tVar 3) tNil)) (tVar 1)) (gName 5))
          (tAsg (tOp (rI0 fun i j => .int (i + j)) (tOp (rIxL K) (tVar 2) (tVar 5)) (tOp (rI CMul fun i j => .int (i * j)) (tVar 4) (tOp (rI0 fun i j => .int (i + j)) (tVar 3) (tC (.int 2))))) (gSub (tVar 2) (tVar 5) rSetL))))
        (tRet (tVar 2)) { nx := fun _ H' => Q .non H', rt := Q }) := by
    intro p c H1 sm hp e
    refine ⟨.ref a, rfl, _, rfl, 1, rfl, 63, rfl, a, _, rfl, sm.seq hS, fun c1 hc1 => ⟨c1, _, rfl, SqL.of upd_same, ?_⟩⟩
    generalize hys : cutV (ns.map V.int) (some (1 : Int)) (some 63) = ys
    have hyl : ys.length ≤ 63 := by
      rw [← hys]
      exact Nat.le_trans (cutV_length _ _ _) (by rw [List.length_map]; exact hl)
    have hyi : ∀ (i : Nat) (y : V), ys[i]? = some y → ∃ n : Int, y = .int n := fun i y hy => by
      rw [← hys] at hy
      have m := List.mem_of_mem_drop (List.mem_of_mem_take (List.mem_of_getElem? hy))
      obtain ⟨n, _, rfl⟩ := List.mem_map.mp m
      exact ⟨n, rfl⟩
    have ncp : p ≠ c1 := ne_of_none e hc1
    refine for_any (n := ys.length) (fun i σ H' => H' c1 = some (.lst ys) ∧ (∃ c', H' p = some (.lst [.int c'])) ∧ ∃ z1 z2 z3, σ = [some (.ref a), some (.int 1), some (.ref p), z1, z2, z3]) ⟨upd_same, ⟨c, (upd_ne ncp).trans e⟩, _, _, _, rfl⟩
      (fun σ H' h => ⟨ys, SqL.of h.1, Nat.le_refl _⟩) (fun i σ H' hi h => ⟨ys, ys[i], SqL.of h.1, List.getElem?_eq_getElem hi⟩) (fun i σ H' z H4 hi h hz => ?_) (fun σ H' h => ?_)
    · obtain ⟨ec1, ⟨c', ep⟩, z1, z2, z3, rfl⟩ := h
      obtain ⟨T, y, rfl, nT, rfl, f1⟩ := hz
      obtain ⟨n, rfl⟩ := hyi i y (f1 _ (SqL.of ec1))
      have sT := same_upd nT (.tup [.int (i : Nat), .int n])
      have ep2 := sT _ _ ep
      have ec2 := sT _ _ ec1
      refine ⟨T, _, rfl, SqT.of upd_same, rfl, _, [.int n], rfl, .int n, [], rfl, rfl, ?_⟩
      refine ⟨_, rfl, .inl ⟨_, rfl, _, rfl, _, _, rfl, rfl, (by show (0 : Int) < 1; decide), ?_⟩⟩
      have em : ((i : Nat) : Int) % 1 = 0 := Int.emod_one _
      refine ⟨.ref p, rfl, _, rfl, p, _, _, .int c', rfl, rfl, SqL.of ep2, (by rw [em]; exact atI_nat (j := 0) rfl), _, rfl, _, rfl, _, _, rfl, rfl, _, _, rfl, rfl, .inr ⟨by omega, by omega⟩, _, _, rfl, rfl, ?_⟩
      refine ⟨.ref p, rfl, _, rfl, p, _, _, 0, rfl, rfl, ep2, (by rw [em]; rfl), ?_⟩
      exact ⟨(upd_ne ncp.symm).trans ec2, ⟨_, upd_same⟩, _, _, _, rfl⟩
    · obtain ⟨ec1, ⟨c', ep⟩, z1, z2, z3, rfl⟩ := h
      exact ⟨.ref p, rfl, q p c' H' ep⟩
  have fp1 : H p1 = none := h1
  have fp2 : H p2 = none := s1.free h2
  cases hn : ns with
  | nil =>
    subst hn
    refine ⟨false, .inl ⟨[], SqL.of upd_same, rfl⟩, iteF ⟨by show 1 ≤ sizeLine; decide, fun p hp => ?_⟩⟩
    exact rest p 0 _ ((s1.trans s2).trans (same_upd hp _)) ((s1.trans s2).free hp) upd_same
  | cons n r =>
    subst hn
    refine ⟨true, .inl ⟨[.int n], SqL.of upd_same, rfl⟩, iteT ?_⟩
    exact rest p2 n _ (s1.trans s2) fp2 upd_same
end
end K2
/-! K2L5: _law_history, _law_telling -/
namespace K2
open PySem PySem.Spec PyProof.Rows L2
theorem UrnO.mono {N M : Int} {o : HO} (h : UrnO N o) (l : N ≤ M) : UrnO M o := by
  obtain ⟨x0, x1, x2, rfl, h0, h1⟩ := h
  exact ⟨x0, x1, x2, rfl, h0, by omega⟩
/-- the urn at u, the list that is made at l: ds so far -/
structure Mk2 (H : Hp) (u l : Addr) (M : Int) (ds : List PyData) (H' : Hp) : Prop where
  ne : l ≠ u
  urn : ∃ o, H' u = some o ∧ UrnO M o
  lst : ∃ ys, H' l = some (.lst ys) ∧ TdL (wo [l, u] H') ys ds
  same : Same (wo [u] H) (wo [l, u] H')
section
variable {H H' : Hp} {u l p : Addr} {M : Int} {ds : List PyData} {o : HO} {xs : List V} {d : PyData}
theorem Mk2.out (h : Mk2 H u l M ds H') : Out [l, u] H' := by
  obtain ⟨o, ho, _⟩ := h.urn
  obtain ⟨ys, hy, _⟩ := h.lst
  exact (Out.cons (Out.nil) ho).cons hy
theorem Mk2.take (h : Mk2 H u l M ds H') (ho : UrnO (M + 1) o) : Mk2 H u l (M + 1) ds (upd H' u o) := by
  obtain ⟨ys, hy, ht⟩ := h.lst
  refine ⟨h.ne, ⟨o, upd_same, ho⟩, ⟨ys, (upd_ne h.ne).trans hy, ?_⟩, ?_⟩
  · rw [wo_in (List.mem_cons_of_mem _ List.mem_cons_self)]; exact ht
  · rw [wo_in (List.mem_cons_of_mem _ List.mem_cons_self)]; exact h.same
theorem Mk2.push {ys : List V} {v : V} (h : Mk2 H u l M ds H') (hy : H' l = some (.lst ys)) (hv : Td (wo [l, u] H') v d) : Mk2 H u l M (ds ++ [d]) (upd H' l (.lst (ys ++ [v]))) := by
  obtain ⟨ys', hy', ht⟩ := h.lst
  rw [hy] at hy'
  cases hy'
  obtain ⟨o, ho, hu⟩ := h.urn
  refine ⟨h.ne, ⟨o, (upd_ne h.ne.symm).trans ho, hu⟩, ⟨_, upd_same, ?_⟩, ?_⟩
  · rw [wo_in List.mem_cons_self]; exact ht.append (.one hv)
  · rw [wo_in List.mem_cons_self]; exact h.same
theorem Mk2.new (h : Mk2 H u l M ds H') (hp : H' p = none) (xs : List V) : Mk2 H u l M ds (upd H' p (.tup xs)) := by
  obtain ⟨ys, hy, ht⟩ := h.lst
  obtain ⟨o, ho, hu⟩ := h.urn
  exact ⟨h.ne, ⟨o, same_upd hp _ _ _ ho, hu⟩, ⟨ys, same_upd hp _ _ _ hy, ht.mono (wo_upd hp _)⟩, h.same.trans (wo_upd hp _)⟩
end
def spHistory : Sp := fun vs H Q _ => ∃ (u : Addr) (L : Nat) (N : Int) (o : HO), vs = [.ref u, .int L, .int 58] ∧ H u = some o ∧ UrnO N o ∧ N ≤ 1000 ∧ 1 ≤ L ∧ L ≤ 4 ∧
  ∀ v H' o' hs, Same (wo [u] H) (wo [u] H') → H' u = some o' → UrnO (N + 200) o' → Td (wo [u] H') v (hist hs) → sound hs → lets L hs → hs.length ≤ 58 → Q v H'
section
variable {P : Program} {w : World} {K : PySem.W.Frag} {mg : Str → Option Value} {base : Heap} {f : Addr} {fd : FuncData} {fT : Addr} {fdT : FuncData}
set_option maxHeartbeats 4000000 in
theorem ok_law_history (F : Fun K "_law_history" "_law_history" s__law_history f fd) (mr : mg "range" = none) (mt : mg "tuple" = none) (CT : Cal P w K mg base CX0 1 "_law_take" ["_law_urn", "_law_low_so"] spTake fT fdT) : FnOk P w K mg base CX0 2 f fd ["_law_tin", "_law_letters", "_law_most"] spHistory := by
  refine F.ok sc__law_history (fun vs H Q E h => ?_) (fun cdv A outer s H vs Q E hr h => ?_)
  · obtain ⟨u, L, N, o, rfl, _⟩ := h
    rfl
  obtain ⟨u, L, N, o, rfl, hu, hU, hN, hL1, hL4, q⟩ := h
  have nd := sc__law_history.nd
  refine ⟨_, pss_cons (ps_par3 (i := 3) (j := 4) (l := 5) rfl nd rfl rfl rfl (by decide) (by decide) (by decide) rfl rfl rfl (pa_cons (pe_lst pa_nil) (pa_cons pe_int (pa_cons (pe_op op_add pe_int (pcall CT hr pass0 (pa_cons (pv 0) (pa_cons pe_int pa_nil)))) pa_nil))) (by rfl))
    (pss_cons (ps_for PassesOwn.never rfl (pi_range1 (by rfl) mr (pa_cons (pcall CT hr pass0 (pa_cons (pv 0) (pa_cons (pe_op op_add (pv 2) pe_int) pa_nil))) pa_nil)) (pg_name (i := 6) nd rfl (.inl rfl))
      (pss_one (ps_if (PW.pt (pw_and (pt_cmpR op_gt (pv 4) pe_int (nomark _)) (pw_and1 (pt_cmpR op_lt (pcall CT hr pass0 (pa_cons (pv 0) (pa_cons pe_int pa_nil))) (pv 5) (nomark _)))))
        (pss_cons (ps_expr (pe_bm PySem.F.plainAttrs_list PySem.F.slot_list_append PySem.F.type_list_append mt_append (pv 3) (pa_cons (pe_tup (pa_cons pe_str pa_nil)) pa_nil)))
        (pss_one (ps_set (i := 4) nd rfl (.inl rfl) (pe_op op_sub (pv 4) pe_int))))
        (pss_cons (ps_expr (pe_bm PySem.F.plainAttrs_list PySem.F.slot_list_append PySem.F.type_list_append mt_append (pv 3) (pa_cons (pe_tup (pa_cons pe_str (pa_cons (pe_op op_add pe_int (pcall CT hr pass0 (pa_cons (pv 0) (pa_cons (pv 1) pa_nil)))) pa_nil))) pa_nil)))
        (pss_one (ps_set (i := 4) nd rfl (.inl rfl) (pe_op op_add (pv 4) pe_int)))))))
    (pss_one (ps_ret (pe_callTy call_tuple_of (by rfl) mt (by decide +kernel) (pa_cons (pv 3) pa_nil))))), ?_⟩
  refine ⟨Nat.zero_le _, fun l hl => ?_⟩
  have nlu : l ≠ u := (ne_of_none hu hl).symm
  have m0 : Mk2 H u l N [] (upd H l (.lst [])) := ⟨nlu, ⟨o, (upd_ne nlu.symm).trans hu, hU⟩, ⟨[], upd_same, .nil⟩, by rw [wo_in List.mem_cons_self]; exact wo_l hl (Same.refl _)⟩
  refine ⟨.ref u, rfl, u, 3, N, o, rfl, (upd_ne nlu.symm).trans hu, hU, by omega, by decide, by decide, fun o1 r1 ho1 hr1 hr1' => ?_⟩
  have m1 := m0.take ho1
  refine ⟨_, _, rfl, rfl, _, _, _, rfl, ?_⟩
  refine ⟨.ref u, rfl, _, rfl, _, _, rfl, rfl, u, 59, N + 1, o1, rfl, upd_same, ho1, by omega, by decide, by decide, fun o2 r2 ho2 hr2 hr2' => ?_⟩
  have m2 := m1.take ho2
  refine ⟨r2, rfl, by omega, by omega, ?_⟩
  refine for_range (lo := 0) (n := r2.toNat) (fun i σ H' => ∃ hs : List (Option Int), Mk2 H u l (N + 2 + 2 * (i : Nat)) (hs.map dd) H' ∧ hs.length = i ∧ sound hs ∧ lets L hs ∧ ∃ z, σ = [some (.ref u), some (.int L), some (.int 58), some (.ref l), some (.int (bl hs hs.length)), some (.int (1 + r1)), z])
    ⟨[], ⟨m2.ne, (by obtain ⟨a, b, c⟩ := m2.urn; exact ⟨a, b, c.mono (by omega)⟩), m2.lst, m2.same⟩, rfl, sound_nil, lets_nil, none, rfl⟩ (fun i σ H' hi h => ?_) (fun σ H' h => ?_)
  · obtain ⟨hs, m, hlen, hso, hle, z, rfl⟩ := h
    have hi58 : i < 58 + 1 := by omega
    have fits : ∀ {H1 : Hp} {M : Int} {ys : List V}, Mk2 H u l M (hs.map dd) H1 → H1 l = some (.lst ys) → ys.length < sizeLine := fun {H1 M ys} m' e => by
      obtain ⟨ys', e', t⟩ := m'.lst
      rw [e] at e'
      cases e'
      rw [t.length, List.length_map]
      exact small (by omega)
    -- ('in', 1 + a draw)
    have els : ∀ (M : Int) (H1 : Hp) (R : Ends) (z : Option V), Mk2 H u l M (hs.map dd) H1 → M ≤ N + 2 + 2 * (i : Nat) + 1 →
        (∀ hs' H2, Mk2 H u l (N + 2 + 2 * ((i + 1 : Nat) : Int)) (hs'.map dd) H2 → hs'.length = i + 1 → sound hs' → lets L hs' → R.nx [some (.ref u), some (.int L), some (.int 58), some (.ref l), some (.int (bl hs' hs'.length)), some (.int (1 + r1)), z] H2) →
        tSeq (tDrop (tBM K "list" rAppend (tVar 3) (tCons (tTup (tCons (tC (.str "in")) (tCons (tOp (rI0 fun i j => .int (i + j)) (tC (.int 1)) (tCall spTake [] E0 (tCons (tVar 0) (tCons (tVar 1) tNil)))) tNil))) tNil)))
          (tAsg (tOp (rI0 fun i j => .int (i + j)) (tVar 4) (tC (.int 1))) (gName 4)) R [some (.ref u), some (.int L), some (.int 58), some (.ref l), some (.int (bl hs hs.length)), some (.int (1 + r1)), z] H1 := by
      intro M H1 R z mm hM hR
      obtain ⟨ys, hy, _⟩ := mm.lst
      obtain ⟨o3, ho3, hU3⟩ := mm.urn
      refine ⟨.ref l, rfl, .inl ⟨rfl, _, SqL.of hy⟩, .ref u, rfl, _, rfl, u, _, M, o3, rfl, ho3, hU3, by omega, by omega, by omega, fun o4 r4 ho4 hr4 hr4' => ?_⟩
      have m4 := mm.take ho4
      refine ⟨_, _, rfl, rfl, by show 2 ≤ sizeLine; decide, fun p hp => ?_⟩
      have m5 := m4.new hp [.str "in", .int (1 + r4)]
      have td : Td (wo [l, u] _) (.ref p) (dd (some (1 + r4))) := tup_new m4.out hp (.cons (.str _) (.one (.int _)))
      have hy5 : (upd (upd H1 u o4) p (.tup [.str "in", .int (1 + r4)])) l = some (.lst ys) := same_upd hp _ _ _ ((upd_ne nlu).trans hy)
      refine ⟨l, ys, .ref p, rfl, rfl, hy5, fits m5 hy5, ?_⟩
      have m6 := m5.push hy5 td
      refine ⟨_, rfl, _, _, rfl, rfl, ?_⟩
      have hb := bl_snoc_in (hs := hs) (l := 1 + r4)
      have hb0 : 0 ≤ bl hs hs.length := by
        have e := stt_len (q := true) (hs := hs) hs.length hso (Nat.le_refl _)
        omega
      have := hR (hs ++ [some (1 + r4)]) _ (by
        rw [List.map_append]
        exact ⟨m6.ne, (by obtain ⟨a, b, c⟩ := m6.urn; exact ⟨a, b, c.mono (by omega)⟩), m6.lst, m6.same⟩) (by rw [List.length_append, hlen]; rfl) (sound_snoc hso (by rw [hb]; omega)) (lets_snoc_in hle (by omega) (by omega))
      rw [hb] at this
      exact this
    refine ⟨_, rfl, _, _, rfl, rfl, _, rfl, ite2 (fun c => ?_) (fun c => ?_)⟩
    · have c' : 0 < bl hs hs.length := of_decide_eq_true c
      obtain ⟨o3, ho3, hU3⟩ := m.urn
      refine ⟨.ref u, rfl, u, 4, _, o3, rfl, ho3, hU3, by omega, by decide, by decide, fun o4 r4 ho4 hr4 hr4' => ?_⟩
      have m4 := m.take ho4
      refine ⟨_, rfl, _, _, rfl, rfl, _, rfl, ite2 (fun c2 => ?_) (fun c2 => ?_)⟩
      · obtain ⟨ys, hy, _⟩ := m4.lst
        refine ⟨.ref l, rfl, .inl ⟨rfl, _, SqL.of hy⟩, by show 1 ≤ sizeLine; decide, fun p hp => ?_⟩
        have m5 := m4.new hp [.str "out"]
        have td : Td (wo [l, u] _) (.ref p) (dd none) := tup_new m4.out hp (.one (.str _))
        have hy5 := same_upd hp (.tup [.str "out"]) _ _ hy
        refine ⟨l, ys, .ref p, rfl, rfl, hy5, fits m5 hy5, ?_⟩
        have m6 := m5.push hy5 td
        refine ⟨_, rfl, _, _, rfl, rfl, ?_⟩
        have hb := bl_snoc_out (hs := hs)
        refine ⟨hs ++ [none], ?_, by rw [List.length_append, hlen]; rfl, sound_snoc hso (by rw [hb]; omega), lets_snoc_out hle, _, by rw [hb]; rfl⟩
        rw [List.map_append]
        exact ⟨m6.ne, (by obtain ⟨a, b, c⟩ := m6.urn; exact ⟨a, b, c.mono (by omega)⟩), m6.lst, m6.same⟩
      · refine els _ _ _ _ m4 (by omega) ?_
        exact fun hs' H2 a b c d => ⟨hs', a, b, c, d, _, rfl⟩
    · refine els _ _ _ _ m (by omega) ?_
      exact fun hs' H2 a b c d => ⟨hs', a, b, c, d, _, rfl⟩
  · obtain ⟨hs, m, hlen, hso, hle, z, rfl⟩ := h
    obtain ⟨ys, hy, ht⟩ := m.lst
    obtain ⟨o3, ho3, hU3⟩ := m.urn
    refine ⟨.ref l, rfl, l, ys, rfl, .inl ⟨SqL.of hy, fun p hp => ?_⟩⟩
    have hO : Out [u] H' := Out.cons Out.nil ho3
    have sp := same_upd hp (.tup ys)
    refine q _ _ o3 hs (m.same.trans ((wo_cons (S := [u])).trans (wo_upd hp _))) (sp _ _ ho3) (hU3.mono (by omega)) (tup_new hO hp (ht.mono wo_cons)) hso hle (by omega)
/-! ### _law_telling -/
def spTelling : Sp := fun vs H Q _ => ∃ (u : Addr) (L : Nat) (N : Int) (o : HO), vs = [.ref u, .int L] ∧ H u = some o ∧ UrnO N o ∧ N ≤ 1000 ∧ 1 ≤ L ∧ L ≤ 4 ∧
  ∀ v H' o' tel, Same (wo [u] H) (wo [u] H') → H' u = some o' → UrnO (N + 10) o' → Td (wo [u] H') v (word tel) → tel.length = L → Q v H'
set_option maxHeartbeats 4000000 in
theorem ok_law_telling (F : Fun K "_law_telling" "_law_telling" s__law_telling f fd) (mr : mg "range" = none) (mt : mg "tuple" = none) (mm : mg "max" = none) (CT : Cal P w K mg base CX0 1 "_law_take" ["_law_urn", "_law_low_so"] spTake fT fdT) : FnOk P w K mg base CX0 2 f fd ["_law_tin", "_law_letters"] spTelling := by
  refine F.ok sc__law_telling (fun vs H Q E h => ?_) (fun cdv A outer s H vs Q E hr h => ?_)
  · obtain ⟨u, L, N, o, rfl, _⟩ := h
    rfl
  obtain ⟨u, L, N, o, rfl, hu, hU, hN, hL1, hL4, q⟩ := h
  have nd := sc__law_telling.nd
  refine ⟨_, pss_cons (ps_set (i := 2) nd rfl (.inl rfl) (pe_lst (pa_cons pe_int pa_nil)))
    (pss_cons (ps_for PassesOwn.never rfl (pi_range1 (by rfl) mr (pa_cons (pe_op op_sub (pv 1) pe_int) pa_nil)) (pg_name (i := 3) nd rfl (.inl rfl))
      (pss_one (ps_expr (pe_bm PySem.F.plainAttrs_list PySem.F.slot_list_append PySem.F.type_list_append mt_append (pv 2) (pa_cons (pcall CT hr pass0 (pa_cons (pv 0) (pa_cons (pe_op op_add (pe_callB (cr_max rfl) (by rfl) mm (by decide +kernel) (pa_cons (pv 2) pa_nil)) pe_int) pa_nil))) pa_nil)))))
    (pss_one (ps_ret (pe_callTy call_tuple_of (by rfl) mt (by decide +kernel) (pa_cons (pv 2) pa_nil))))), ?_⟩
  refine ⟨by show 1 ≤ sizeLine; decide, fun l hl => ?_⟩
  have nlu : l ≠ u := (ne_of_none hu hl).symm
  have m0 : Mk2 H u l N (([0] : List Int).map .int) (upd H l (.lst [.int 0])) := ⟨nlu, ⟨o, (upd_ne nlu.symm).trans hu, hU⟩, ⟨[.int 0], upd_same, .one (.int 0)⟩, by rw [wo_in List.mem_cons_self]; exact wo_l hl (Same.refl _)⟩
  refine ⟨_, rfl, _, _, rfl, rfl, _, rfl, by omega, by omega, ?_⟩
  refine for_range (lo := 0) (n := ((L : Int) - 1).toNat) (fun i σ H' => ∃ tel : List Int, Mk2 H u l (N + (i : Nat)) (tel.map .int) H' ∧ tel.length = i + 1 ∧ (∀ t ∈ tel, 0 ≤ t ∧ t ≤ (i : Int)) ∧ ∃ z, σ = [some (.ref u), some (.int L), some (.ref l), z])
    ⟨[0], ⟨m0.ne, (by obtain ⟨a, b, c⟩ := m0.urn; exact ⟨a, b, c.mono (by omega)⟩), m0.lst, m0.same⟩, rfl, (fun t ht => by rw [List.mem_singleton.mp ht]; exact ⟨by decide, by decide⟩), none, rfl⟩ (fun i σ H' hi h => ?_) (fun σ H' h => ?_)
  · obtain ⟨tel, m, hlen, hb, z, rfl⟩ := h
    obtain ⟨ys, hy, ht⟩ := m.lst
    obtain ⟨o3, ho3, hU3⟩ := m.urn
    have ey := ht.inv_ints
    subst ey
    refine ⟨.ref l, rfl, .inl ⟨rfl, _, SqL.of hy⟩, .ref u, rfl, .ref l, rfl, l, tel, rfl, SqL.of hy, by omega, fun mx hmx hge => ?_⟩
    obtain ⟨b0, b1⟩ := hb mx hmx
    refine ⟨_, _, rfl, rfl, u, _, _, o3, rfl, ho3, hU3, by omega, by omega, by omega, fun o4 r4 ho4 hr4 hr4' => ?_⟩
    have m4 := m.take ho4
    have hy4 : (upd H' u o4) l = some (.lst (tel.map V.int)) := (upd_ne nlu).trans hy
    refine ⟨l, _, .int r4, rfl, rfl, hy4, ?_, ?_⟩
    · rw [List.length_map]; exact small (by omega)
    · have m6 := m4.push hy4 (Td.int r4)
      refine ⟨tel ++ [r4], ?_, by rw [List.length_append, hlen]; rfl, fun t ht => ?_, _, rfl⟩
      · rw [List.map_append]
        exact ⟨m6.ne, (by obtain ⟨a, b, c⟩ := m6.urn; exact ⟨a, b, c.mono (by omega)⟩), m6.lst, m6.same⟩
      · rcases List.mem_append.mp ht with z | z
        · have := hb t z
          exact ⟨by omega, by omega⟩
        · obtain rfl := List.mem_singleton.mp z
          exact ⟨hr4, by omega⟩
  · obtain ⟨tel, m, hlen, hb, z, rfl⟩ := h
    obtain ⟨ys, hy, ht⟩ := m.lst
    obtain ⟨o3, ho3, hU3⟩ := m.urn
    refine ⟨.ref l, rfl, l, ys, rfl, .inl ⟨SqL.of hy, fun p hp => ?_⟩⟩
    have hO : Out [u] H' := Out.cons Out.nil ho3
    have sp := same_upd hp (.tup ys)
    exact q _ _ o3 tel (m.same.trans ((wo_cons (S := [u])).trans (wo_upd hp _))) (sp _ _ ho3) (hU3.mono (by omega)) (tup_new hO hp (ht.mono wo_cons)) (by omega)
end
end K2
/-! K2L6: _law_told -/
namespace K2
open PySem PySem.Spec PyProof.Rows L2
/-- isinstance(error, c), error the exception that the suite holds -/
theorem call_isE' {X : Cx} {a D : Addr} {oe : Obj} {cls : Value} {d : Option Addr} {pn : List (Addr × Obj)} (C : ExcC X.K D) (hz : Zc cls d oe) (hf : ∃ vs, oe.data = .fields vs) :
    CallR (X.suite a ((a, oe) :: pn)) (.builtin "isinstance") (fun xs H Q => (cls = .ref D ∧ d = none) ∧ rIsE X.K D a xs H Q) := fun pins s σ H xs us Q I r h => by
  obtain ⟨⟨e1, e2⟩, h⟩ := h
  subst e1 e2
  exact call_isE C hz hf pins s σ H xs us Q I r h
def spTold (m : Bool) (k : Nat) (hs : List (Option Int)) (tel : List Int) : PyData → Prop := fun r =>
  (¬ sound hs ∧ r = .list [.str "unfit", .bool true]) ∨ (sound hs ∧ ∃ l, firstBad tel.length hs = some l ∧ r = .list [.str "place", .int l]) ∨ (sound hs ∧ firstBad tel.length hs = none ∧ r = .list (heardR m k tel hs hs.length))
def spLawTold : Sp := fun vs H Q E => ∃ (S : List Addr) (m : Bool) (k : Nat) (x y : V) (d e : PyData) (hs : List (Option Int)) (tel : List Int), vs = [.str (md m), .int k, y, x] ∧ Out S H ∧ Td (wo S H) y e ∧ okD 2 e ∧ tupD e = word tel ∧
  Td (wo S H) x d ∧ IsHist d hs ∧ hs.length ≤ 900 ∧ (∀ l, some l ∈ hs → 1 ≤ l) ∧ ∀ v H' r, spTold m k hs tel r → Same H H' → Td (wo S H') v r → Q v H'
section
variable {P : Program} {w : World} {K : PySem.W.Frag} {mg : Str → Option Value} {base : Heap} {f : Addr} {fd : FuncData} {fH : Addr} {fdH : FuncData} {CU CN fI : Addr}
set_option maxHeartbeats 4000000 in
theorem ok_law_told (F : Fun K "_law_told" "_law_told" s__law_told f fd) (mi : mg "isinstance" = none) (mv : mg "ValueError" = none) (U : UfTxt K mg CU) (T : NpTxt K mg CN fI) (no : PySem.W.exmOne K (.ref CN) (.ref CU) = some false)
    (CH : Cal P w K mg base (L2.CX P w) 5 "heard_along" ["mode", "shown", "telling", "history"] (spHeard CU CN) fH fdH) : FnOk P w K mg base CX0 6 f fd ["_law_mode", "_law_shown", "_law_telling_here", "_law_history_here"] spLawTold := by
  refine F.ok sc__law_told (fun vs H Q E h => ?_) (fun cdv A outer s H vs Q E hr h => ?_)
  · obtain ⟨S, m, k, x, y, d, e, hs, tel, rfl, _⟩ := h
    rfl
  obtain ⟨S, m, k, x, y, d, e, hs, tel, rfl, hS, hy, hok, hte, hx, hd, hl, h1, q⟩ := h
  have nd := sc__law_told.nd
  refine ⟨_, pss_one (ps_try_manyAs (i := 4) rfl rfl nd rfl rfl takes0
    (fun W pn xe tk _ => pss_one (ps_ret (pe_callS CH.ok hr (by rfl) CH.g CH.kp CH.b (fun σ => passAt tk σ) (pa_cons (pv 0) (pa_cons (pv 1) (pa_cons (pv 2) (pa_cons (pv 3) pa_nil)))))))
    (.cons ⟨rfl, by decide, .inl U.gC⟩ (fun a oe cls d pn hz hf => pss_one (ps_ret (pe_lst (pa_cons pe_str (pa_cons (pe_callB (call_isE' U.ec hz hf) (by rfl) mi (by decide +kernel) (pa_cons (pv 4) (pa_cons (pe_bltn (v := .ty "ValueError") (by rfl) mv (by decide +kernel) rfl) pa_nil))) pa_nil)))))
    (.cons ⟨rfl, by decide, .inl T.gC⟩ (fun a oe cls d pn hz hf => pss_one (ps_ret (pe_lst (pa_cons pe_str (pa_cons (pe_xf T.xf T.noN hz hf (pv 4)) pa_nil))))) .nil))), ?_⟩
  refine ⟨_, rfl, _, rfl, y, rfl, x, rfl, S, m, k, x, y, d, e, hs, tel, rfl, hS, hy, hok, hte, hx, hd, hl, h1, fun hso H' sm => ?_, fun hso l hb H' dx sm hdx => ?_, fun hso hb v H' sm hv => ?_⟩
  · refine ⟨true, U.te, fun _ a ha => ?_, (fun z => nomatch z)⟩
    refine ⟨.ref a, rfl, ⟨rfl, rfl⟩, .ty "ValueError", .type "ValueError", true, rfl, fun u hu => hu, U.isV, by show 2 ≤ sizeLine; decide, fun p hp => ?_⟩
    exact q _ _ _ (.inl ⟨hso, rfl⟩) (sm.trans (same_upd hp _)) (lst_new (hS.mono sm) hp (.cons (.str _) (.one (.bl true))))
  · refine ⟨false, no, (fun z => nomatch z), fun _ => ⟨true, T.te, fun _ a ha => ?_, (fun z => nomatch z)⟩⟩
    refine ⟨.ref a, rfl, rfl, rfl, dx, _, .int l, rfl, hdx, by simp [List.lookup], by show 2 ≤ sizeLine; decide, fun p hp => ?_⟩
    exact q _ _ _ (.inr (.inl ⟨hso, l, hb, rfl⟩)) (sm.trans (same_upd hp _)) (lst_new (hS.mono sm) hp (.cons (.str _) (.one (.int l))))
  · exact q v H' _ (.inr (.inr ⟨hso, hb, rfl⟩)) sm hv
end
end K2
/-! K2L7: _law_by_hand_right -/
namespace K2
open PySem PySem.Spec PyProof.Rows L2
def hs0 : List (Option Int) := [some 1, some 2, none, some 2, none]
theorem hs0_sound : sound hs0 := by
  show ∀ j, j < 5 → 0 ≤ bl hs0 (j + 1)
  decide
theorem hs0_lets : ∀ l, some l ∈ hs0 → 1 ≤ l := by
  intro l hl
  have e : l = 1 ∨ l = 2 := by
    simp [hs0] at hl
    omega
  omega
def spHand : Sp := fun vs H Q _ => vs = [] ∧ ∀ H', Same H H' → Q (.bl true) H'
theorem two_fits : 2 ≤ sizeLine := by decide
theorem Td.no_wo {H : Hp} {x : V} {d : PyData} (h : Td (wo [] H) x d) : Td H x d := h.mono wo_sub
section
variable {P : Program} {w : World} {K : PySem.W.Frag} {mg : Str → Option Value} {base : Heap} {f : Addr} {fd : FuncData} {f1 f2 f3 f4 f5 : Addr} {d1 d2 d3 d4 d5 : FuncData}
set_option maxHeartbeats 4000000 in
theorem ok_law_by_hand_right (F : Fun K "_law_by_hand_right" "_law_by_hand_right" s__law_by_hand_right f fd) (C1 : Cal P w K mg base CX0 6 "stands" ["mode", "history"] spStands f1 d1) (C2 : Cal P w K mg base CX0 5 "letters_out" ["mode", "history"] spLettersOut f2 d2)
    (C3 : Cal P w K mg base CX0 4 "seen" ["mode", "word", "shown"] spSeen f3 d3) (C4 : Cal P w K mg base CX0 6 "_law_told" ["_law_mode", "_law_shown", "_law_telling_here", "_law_history_here"] spLawTold f4 d4) (C5 : Cal P w K mg base CX0 5 "_law_same" ["_law_got", "_law_goal"] (spSame 4) f5 d5) :
    FnOk P w K mg base CX0 7 f fd [] spHand := by
  refine F.ok sc__law_by_hand_right (fun vs H Q E h => ?_) (fun cdv A outer s H vs Q E hr h => ?_)
  · obtain ⟨rfl, _⟩ := h
    rfl
  obtain ⟨rfl, q⟩ := h
  have nd := sc__law_by_hand_right.nd
  refine ⟨_, pss_cons (ps_set (i := 0) nd rfl (.inl rfl) (pe_tup (pa_cons (pe_tup (pa_cons pe_str (pa_cons pe_int pa_nil))) (pa_cons (pe_tup (pa_cons pe_str (pa_cons pe_int pa_nil))) (pa_cons (pe_tup (pa_cons pe_str pa_nil)) (pa_cons (pe_tup (pa_cons pe_str (pa_cons pe_int pa_nil))) (pa_cons (pe_tup (pa_cons pe_str pa_nil)) pa_nil)))))))
    (pss_one (ps_ret (pcall C5 (hr.mono (by decide)) pass0 (pa_cons (pe_lst
      (pa_cons (pcall C1 hr pass0 (pa_cons pe_str (pa_cons (pv 0) pa_nil)))
      (pa_cons (pcall C1 hr pass0 (pa_cons pe_str (pa_cons (pv 0) pa_nil)))
      (pa_cons (pcall C2 (hr.mono (by decide)) pass0 (pa_cons pe_str (pa_cons (pv 0) pa_nil)))
      (pa_cons (pcall C3 (hr.mono (by decide)) pass0 (pa_cons pe_str (pa_cons (pe_tup (pa_cons pe_int (pa_cons pe_int (pa_cons pe_int pa_nil)))) (pa_cons pe_int pa_nil))))
      (pa_cons (pe_ix ix_D (pe_ix ix_D (pcall C4 hr pass0 (pa_cons pe_str (pa_cons pe_int (pa_cons (pe_tup (pa_cons pe_int (pa_cons pe_int pa_nil))) (pa_cons (pv 0) pa_nil))))) pe_int (fun _ _ => rfl)) pe_int (fun _ _ => rfl)) pa_nil))))))
      (pa_cons (pe_lst (pa_cons (pe_tup (pa_cons pe_int pa_nil)) (pa_cons (pe_tup (pa_cons pe_int pa_nil)) (pa_cons (pe_tup (pa_cons pe_int (pa_cons pe_int pa_nil))) (pa_cons (pe_tup (pa_cons pe_int (pa_cons pe_int pa_nil))) (pa_cons (pe_tup (pa_cons pe_str (pa_cons pe_int pa_nil))) pa_nil)))))) pa_nil))))), ?_⟩
  -- row
  refine ⟨two_fits, fun p1 h1 => ⟨two_fits, fun p2 h2 => ⟨by show 1 ≤ sizeLine; decide, fun p3 h3 => ⟨two_fits, fun p4 h4 => ⟨by show 1 ≤ sizeLine; decide, fun p5 h5 => ⟨by show 5 ≤ sizeLine; decide, fun p6 h6 => ?_⟩⟩⟩⟩⟩⟩
  have o0 : Out [] H := Out.nil
  have e1 : TdL (wo [] _) [.ref p1] [dd (some 1)] := .one (tup_new o0 h1 (.cons (.str _) (.one (.int 1))))
  have e2 : TdL (wo [] _) [.ref p1, .ref p2] [dd (some 1), dd (some 2)] := (e1.mono (wo_upd h2 _)).append (.one (tup_new Out.nil h2 (.cons (.str _) (.one (.int 2)))))
  have e3 : TdL (wo [] _) [.ref p1, .ref p2, .ref p3] [dd (some 1), dd (some 2), dd none] := (e2.mono (wo_upd h3 _)).append (.one (tup_new Out.nil h3 (.one (.str _))))
  have e4 : TdL (wo [] _) [.ref p1, .ref p2, .ref p3, .ref p4] [dd (some 1), dd (some 2), dd none, dd (some 2)] := (e3.mono (wo_upd h4 _)).append (.one (tup_new Out.nil h4 (.cons (.str _) (.one (.int 2)))))
  have e5 : TdL (wo [] _) [.ref p1, .ref p2, .ref p3, .ref p4, .ref p5] (hs0.map dd) := (e4.mono (wo_upd h5 _)).append (.one (tup_new Out.nil h5 (.one (.str _))))
  have row : Td (wo [] _) (.ref p6) (hist hs0) := tup_new Out.nil h6 e5
  have s06 := ((((same_upd h1 _).trans (same_upd h2 _)).trans (same_upd h3 _)).trans (same_upd h4 _)).trans ((same_upd h5 (.tup [.str "out"])).trans (same_upd h6 (.tup [.ref p1, .ref p2, .ref p3, .ref p4, .ref p5])))
  clear e1 e2 e3 e4 e5
  have ish : IsHist (hist hs0) hs0 := isHist (by decide)
  have len0 : hs0.length ≤ 900 := by decide
  -- stands, twice
  refine ⟨.ref p6, rfl, [], true, .ref p6, _, hs0, rfl, Out.nil, row, ish, len0, hs0_sound, fun v1 H7 s7 hv1 => ?_⟩
  have row7 := row.mono (wo_mono s7)
  refine ⟨.ref p6, rfl, [], false, .ref p6, _, hs0, rfl, Out.nil, row7, ish, len0, hs0_sound, fun v2 H8 s8 hv2 => ?_⟩
  have row8 := row7.mono (wo_mono s8)
  have e8 : TdL (wo [] H8) [v1, v2] [word [2], word [1]] := .cons (hv1.mono (wo_mono s8)) (.one hv2)
  -- letters_out
  refine ⟨.ref p6, rfl, [], false, .ref p6, _, hs0, rfl, Out.nil, row8, ish, len0, hs0_sound, fun v3 H9 s9 hv3 => ?_⟩
  have row9 := row8.mono (wo_mono s9)
  have e9 : TdL (wo [] H9) [v1, v2, v3] [word [2], word [1], word [2, 2]] := (e8.mono (wo_mono s9)).append (.one hv3)
  -- seen
  refine ⟨by show 3 ≤ sizeLine; decide, fun p10 h10 => ?_⟩
  have w3 : Td (wo [] _) (.ref p10) (word [1, 2, 3]) := tup_new Out.nil h10 (TdL.ints [1, 2, 3])
  refine ⟨[], false, .ref p10, [1, 2, 3], 2, rfl, Out.nil, w3, by decide, fun v4 H11 s11 hv4 => ?_⟩
  have row11 := (row9.mono (wo_upd h10 (.tup [.int 1, .int 2, .int 3]))).mono (wo_mono s11)
  have e11 : TdL (wo [] H11) [v1, v2, v3, v4] [word [2], word [1], word [2, 2], word [2, 3]] := ((e9.mono (wo_upd h10 (.tup [.int 1, .int 2, .int 3]))).mono (wo_mono s11)).append (.one hv4)
  -- told
  refine ⟨two_fits, fun p12 h12 => ?_⟩
  have w01 : Td (wo [] _) (.ref p12) (word [0, 1]) := tup_new Out.nil h12 (TdL.ints [0, 1])
  refine ⟨.ref p6, rfl, [], false, 0, .ref p6, .ref p12, _, _, hs0, [0, 1], rfl, Out.nil, w01, okD_mono (ok_word (by decide)) (by decide), tup_word _, row11.mono (wo_upd h12 _), ish, len0, hs0_lets, fun v5 H13 r hr13 s13 hv5 => ?_⟩
  have er : r = .list (heardR false 0 [0, 1] hs0 hs0.length) := by
    rcases hr13 with ⟨z, _⟩ | ⟨_, l, z, _⟩ | ⟨_, _, z⟩
    · exact absurd hs0_sound z
    · exact nomatch (show (none : Option Int) = some l from z)
    · exact z
  subst er
  have e13 := (e11.mono (wo_upd h12 (.tup [.int 0, .int 1]))).mono (wo_mono s13)
  refine ⟨[], _, 2, .tuple [.tuple [.str "out", .int 1], word []], rfl, .inr hv5, atI_nat (j := 2) rfl, fun v6 hv6 => ?_⟩
  refine ⟨[], _, 0, .tuple [.str "out", .int 1], rfl, .inl hv6, atI_nat (j := 0) rfl, fun v7 hv7 => ?_⟩
  have e14 : TdL (wo [] H13) [v1, v2, v3, v4, v7] [word [2], word [1], word [2, 2], word [2, 3], .tuple [.str "out", .int 1]] := e13.append (.one hv7)
  refine ⟨by show 5 ≤ sizeLine; decide, fun p14 h14 => ?_⟩
  have got : Td (wo [] _) (.ref p14) (.list [word [2], word [1], word [2, 2], word [2, 3], .tuple [.str "out", .int 1]]) := lst_new Out.nil h14 e14
  -- the goal
  refine ⟨by show 1 ≤ sizeLine; decide, fun q1 g1 => ⟨by show 1 ≤ sizeLine; decide, fun q2 g2 => ⟨two_fits, fun q3 g3 => ⟨two_fits, fun q4 g4 => ⟨two_fits, fun q5 g5 => ⟨by show 5 ≤ sizeLine; decide, fun q6 g6 => ?_⟩⟩⟩⟩⟩⟩
  have k1 : TdL (wo [] _) [.ref p14, .ref q1] [_, word [2]] := (TdL.one (got.mono (wo_upd g1 _))).append (.one (tup_new Out.nil g1 (.one (.int 2))))
  have k2 : TdL (wo [] _) [.ref p14, .ref q1, .ref q2] [_, word [2], word [1]] := (k1.mono (wo_upd g2 _)).append (.one (tup_new Out.nil g2 (.one (.int 1))))
  have k3 : TdL (wo [] _) [.ref p14, .ref q1, .ref q2, .ref q3] [_, word [2], word [1], word [2, 2]] := (k2.mono (wo_upd g3 _)).append (.one (tup_new Out.nil g3 (TdL.ints [2, 2])))
  have k4 : TdL (wo [] _) [.ref p14, .ref q1, .ref q2, .ref q3, .ref q4] [_, word [2], word [1], word [2, 2], word [2, 3]] := (k3.mono (wo_upd g4 _)).append (.one (tup_new Out.nil g4 (TdL.ints [2, 3])))
  have k5 : TdL (wo [] _) [.ref p14, .ref q1, .ref q2, .ref q3, .ref q4, .ref q5] [_, word [2], word [1], word [2, 2], word [2, 3], .tuple [.str "out", .int 1]] := (k4.mono (wo_upd g5 _)).append (.one (tup_new Out.nil g5 (.cons (.str _) (.one (.int 1)))))
  obtain ⟨y0, ys0, e0, gx, gy⟩ := k5.inv_cons
  cases e0
  have goal : Td (wo [] _) (.ref q6) (.list [word [2], word [1], word [2, 2], word [2, 3], .tuple [.str "out", .int 1]]) := lst_new Out.nil g6 gy
  have sg := ((((same_upd g1 (.tup [.int 2])).trans (same_upd g2 (.tup [.int 1]))).trans (same_upd g3 (.tup [.int 2, .int 2]))).trans (same_upd g4 (.tup [.int 2, .int 3]))).trans ((same_upd g5 (.tup [.str "out", .int 1])).trans (same_upd g6 (.lst [.ref q1, .ref q2, .ref q3, .ref q4, .ref q5])))
  have sa := (((s06.trans s7).trans s8).trans s9).trans (((same_upd h10 (.tup [.int 1, .int 2, .int 3])).trans s11).trans ((same_upd h12 (.tup [.int 0, .int 1])).trans s13))
  refine ⟨_, _, _, rfl, (gx.mono (wo_upd g6 _)).no_wo, goal.no_wo, ⟨by decide, fun e he => ?_⟩, fun H' s' => q H' ((sa.trans ((same_upd h14 _).trans sg)).trans s')⟩
  rcases List.mem_cons.mp he with z | he
  · rw [z]; exact okD_mono (ok_word (ws := [2]) (by decide)) (by decide)
  rcases List.mem_cons.mp he with z | he
  · rw [z]; exact okD_mono (ok_word (ws := [1]) (by decide)) (by decide)
  rcases List.mem_cons.mp he with z | he
  · rw [z]; exact okD_mono (ok_word (ws := [2, 2]) (by decide)) (by decide)
  rcases List.mem_cons.mp he with z | he
  · rw [z]; exact okD_mono (ok_word (ws := [2, 3]) (by decide)) (by decide)
  rw [List.mem_singleton.mp he]
  refine ⟨by decide, fun e he => ?_⟩
  rcases List.mem_cons.mp he with z | z
  · rw [z]; rfl
  · rw [List.mem_singleton.mp z]; rfl
end
end K2
/-! K2L8: plain facts for _law_right -/
namespace K2
open PySem PySem.Spec PyProof.Rows L2
theorem lay_all : ∀ {ds : List PyData}, (∀ d ∈ ds, d.canLay0 = true) → PyData.canLayAll0 ds = true
  | [], _ => rfl
  | d :: ds, h => by
    show (d.canLay0 && PyData.canLayAll0 ds) = true
    rw [h d List.mem_cons_self, lay_all fun e he => h e (List.mem_cons_of_mem _ he)]
    rfl
theorem depth_all {n : Nat} : ∀ {ds : List PyData}, (∀ d ∈ ds, d.depth ≤ n) → PyData.depthAll ds ≤ n
  | [], _ => Nat.zero_le _
  | d :: ds, h => by
    show max d.depth (PyData.depthAll ds) ≤ n
    have h1 := h d List.mem_cons_self
    have h2 := depth_all fun e he => h e (List.mem_cons_of_mem _ he)
    omega
/-- may be laid, and is so deep -/
def Lay (n : Nat) (d : PyData) : Prop := d.canLay0 = true ∧ d.depth ≤ n
theorem Lay.list {n : Nat} {ds : List PyData} (h : ∀ d ∈ ds, Lay n d) : Lay (n + 1) (.list ds) := ⟨lay_all fun d hd => (h d hd).1, Nat.succ_le_succ (depth_all fun d hd => (h d hd).2)⟩
theorem Lay.tuple {n : Nat} {ds : List PyData} (h : ∀ d ∈ ds, Lay n d) : Lay (n + 1) (.tuple ds) := ⟨lay_all fun d hd => (h d hd).1, Nat.succ_le_succ (depth_all fun d hd => (h d hd).2)⟩
theorem Lay.shaped {n : Nat} {d : PyData} (h : Lay n d) (hn : n ≤ 64) : SeqAt.shaped d = true := by
  unfold SeqAt.shaped
  rw [h.1, decide_eq_true (Nat.le_trans h.2 hn)]
  rfl
theorem lay_int (i : Int) : Lay 0 (.int i) := ⟨rfl, Nat.le_refl _⟩
theorem lay_ints (ws : List Int) : ∀ d ∈ ws.map PyData.int, Lay 0 d := fun d hd => by
  obtain ⟨i, _, rfl⟩ := List.mem_map.mp hd
  exact lay_int i
theorem lay_word (ws : List Int) : Lay 1 (word ws) := Lay.tuple (lay_ints ws)
theorem lay_in : Lay 0 (.str "in") := ⟨by decide +kernel, Nat.le_refl _⟩
theorem lay_out : Lay 0 (.str "out") := ⟨by decide +kernel, Nat.le_refl _⟩
theorem lay_pair {a b : PyData} {n : Nat} (h1 : Lay n a) (h2 : Lay n b) : ∀ d ∈ [a, b], Lay n d := fun d hd => by
  rcases List.mem_cons.mp hd with z | z
  · rw [z]; exact h1
  · rw [List.mem_singleton.mp z]; exact h2
theorem lay_heardD {m : Bool} {tel : List Int} {hs : List (Option Int)} {i : Nat} : Lay 1 (heardD m tel hs i) := by
  unfold heardD
  split
  · exact Lay.tuple (lay_pair lay_in (lay_int _))
  · exact Lay.tuple (lay_pair lay_out (lay_int _))
theorem lay_heard {m : Bool} {k n : Nat} {tel : List Int} {hs : List (Option Int)} : Lay 3 (.list (heardR m k tel hs n)) := Lay.list fun d hd => by
  obtain ⟨i, _, rfl⟩ := List.mem_map.mp hd
  exact Lay.tuple (lay_pair lay_heardD (lay_word _))
def unfitD : PyData := .list [.str "unfit", .bool true]
theorem lay_unfit : Lay 1 unfitD := ⟨by decide +kernel, by decide⟩
theorem unfit_same : PyData.eqv unfitD unfitD = true := by decide +kernel
theorem heard_unfit {m : Bool} {k n : Nat} {tel : List Int} {hs : List (Option Int)} (h : 0 < n) : PyData.eqv (.list (heardR m k tel hs n)) unfitD = false := by
  cases n with
  | zero => omega
  | succ n =>
    unfold heardR
    rw [List.range_succ_eq_map, List.map_cons]
    rfl
theorem more_nil : PyData.eqv (.list []) (.list []) = true := rfl
theorem more_cons {a : Int} {r : List Int} : PyData.eqv (.list ((a :: r).map .int)) (.list []) = false := rfl
/-! ### what is seen of a row, as data -/
def seenD (m : Bool) (k : Nat) : PyData → PyData
  | .tuple ds => .tuple (if m then ds.take k else ds.drop (ds.length - k))
  | d => d
theorem seenD_word {m : Bool} {k : Nat} {ws : List Int} : seenD m k (word ws) = word (seenW m ws k) := by
  cases m with
  | true =>
    show PyData.tuple ((ws.map .int).take k) = .tuple ((ws.take k).map .int)
    rw [List.map_take]
  | false =>
    show PyData.tuple ((ws.map .int).drop ((ws.map PyData.int).length - k)) = .tuple ((ws.drop (ws.length - k)).map .int)
    rw [List.map_drop, List.length_map]
/-- the last four rows -/
def last4 (m : Bool) (hs : List (Option Int)) : List PyData := cutA ((rows m hs).map word) (some (-4)) none
theorem mem_cutA {α : Type} {xs : List α} {lo hi : Option Int} {x : α} (h : x ∈ cutA xs lo hi) : x ∈ xs := List.mem_of_mem_drop (List.mem_of_mem_take h)
theorem last4_word {m : Bool} {hs : List (Option Int)} {d : PyData} (h : d ∈ last4 m hs) : ∃ ws : List Int, d = word ws ∧ ws.length ≤ hs.length := by
  have h1 := mem_cutA h
  obtain ⟨ws, hw, rfl⟩ := List.mem_map.mp h1
  obtain ⟨i, hi, rfl⟩ := List.mem_map.mp hw
  have := stt_le (q := m) (hs := hs) i
  have := List.mem_range.mp hi
  exact ⟨_, rfl, by omega⟩
theorem last4_len {m : Bool} {hs : List (Option Int)} (h : hs.length ≤ 900) : (last4 m hs).length ≤ 1000 := by
  have e : (last4 m hs).length ≤ ((rows m hs).map word).length := by
    simp only [last4, cutA, List.length_take, List.length_drop]
    omega
  rw [List.length_map] at e
  have : (rows m hs).length = hs.length + 1 := rowsR_len
  omega
/-- what the law has of the program in a mode -/
def gotD (m : Bool) (k : Nat) (hs : List (Option Int)) : PyData := .list [rowsD m hs, word (stt m hs hs.length), word (goneR m hs hs.length), .list ((last4 m hs).map (seenD m k))]
theorem ok_gotD {m : Bool} {k : Nat} {hs : List (Option Int)} (h : hs.length ≤ 58) : okD 4 (gotD m k hs) := by
  have hst := stt_le (q := m) (hs := hs) hs.length
  have hgo := goneR_len (q := m) (hs := hs) hs.length
  refine ⟨(by show 4 ≤ 1000; decide), fun e he => ?_⟩
  rcases List.mem_cons.mp he with z | he
  · rw [z]
    refine ⟨?_, fun e he => ?_⟩
    · rw [List.length_map]
      have : (rows m hs).length = hs.length + 1 := rowsR_len
      omega
    · obtain ⟨ws, hw, rfl⟩ := List.mem_map.mp he
      obtain ⟨i, hi, rfl⟩ := List.mem_map.mp hw
      have := stt_le (q := m) (hs := hs) i
      have := List.mem_range.mp hi
      exact okD_mono (ok_word (by omega)) (by decide)
  rcases List.mem_cons.mp he with z | he
  · rw [z]; exact okD_mono (ok_word (by omega)) (by decide)
  rcases List.mem_cons.mp he with z | he
  · rw [z]; exact okD_mono (ok_word (by omega)) (by decide)
  rw [List.mem_singleton.mp he]
  refine ⟨?_, fun e he => ?_⟩
  · rw [List.length_map]; exact last4_len (by omega)
  · obtain ⟨d, hd, rfl⟩ := List.mem_map.mp he
    obtain ⟨ws, rfl, hw⟩ := last4_word hd
    rw [seenD_word]
    refine okD_mono (ok_word ?_) (by decide)
    cases m with
    | true =>
      show (ws.take k).length ≤ 1000
      rw [List.length_take]; omega
    | false =>
      show (ws.drop _).length ≤ 1000
      rw [List.length_drop]; omega
theorem ok_heard {m : Bool} {k : Nat} {tel : List Int} {hs : List (Option Int)} (h : hs.length ≤ 58) : okD 4 (.list (heardR m k tel hs hs.length)) := by
  refine ⟨by rw [heardR_len]; omega, fun e he => ?_⟩
  obtain ⟨i, hi, rfl⟩ := List.mem_map.mp he
  have lti : i < hs.length := List.mem_range.mp hi
  refine ⟨(by show 2 ≤ 1000; decide), fun e he => ?_⟩
  rcases List.mem_cons.mp he with z | he
  · rw [z]
    unfold heardD
    split
    · exact okD_mono (flat_dd (d := some _)) (by decide)
    · refine ⟨(by show 2 ≤ 1000; decide), fun e he => ?_⟩
      rcases List.mem_cons.mp he with z | he
      · rw [z]; rfl
      · rw [List.mem_singleton.mp he]; rfl
  · rw [List.mem_singleton.mp he]
    have := stt_le (q := m) (hs := hs) (i + 1)
    refine okD_mono (ok_word ?_) (by decide)
    cases m with
    | true =>
      show ((stt true hs (i + 1)).take k).length ≤ 1000
      rw [List.length_take]; omega
    | false =>
      show ((stt false hs (i + 1)).drop _).length ≤ 1000
      rw [List.length_drop]; omega
/-! ### lists in the place of tuples, taken back -/
theorem lst_dd (d : Option Int) : tupD (lstD (dd d)) = dd d := by cases d <;> rfl
theorem okD_lst : ∀ {n : Nat} {d : PyData}, okD n d → okD n (lstD d)
  | n, .none, _ => by cases n <;> rfl
  | n, .bool _, _ => by cases n <;> rfl
  | n, .int _, _ => by cases n <;> rfl
  | n, .str _, _ => by cases n <;> rfl
  | n, .dict _, h => by cases n <;> exact nomatch (show false = true from h)
  | 0, .list _, h => nomatch (show false = true from h)
  | 0, .tuple _, h => nomatch (show false = true from h)
  | n + 1, .list ds, h => by
    rw [lstD, lstDs_map]
    refine ⟨by rw [List.length_map]; exact h.1, fun e he => ?_⟩
    rcases List.mem_map.mp he with ⟨d, ind, rfl⟩
    exact okD_lst (h.2 d ind)
  | n + 1, .tuple ds, h => by
    rw [lstD, lstDs_map]
    refine ⟨by rw [List.length_map]; exact h.1, fun e he => ?_⟩
    rcases List.mem_map.mp he with ⟨d, ind, rfl⟩
    exact okD_lst (h.2 d ind)
theorem lst_hist {hs : List (Option Int)} (h : hs.length ≤ 1000) : IsHist (lstD (hist hs)) hs := by
  refine ⟨okD_lst (ok_hist h), ?_, h⟩
  unfold hist
  rw [lstD, lstDs_map, tupD, tupDs_map, List.map_map, List.map_map]
  congr 1
  exact List.map_congr_left fun d _ => lst_dd d
theorem lst_word (ws : List Int) : tupD (lstD (word ws)) = word ws := by
  unfold word
  rw [lstD, lstDs_map, tupD, tupDs_map, List.map_map, List.map_map]
  rfl
/-! ### the history with too many outs -/
def badH (hs : List (Option Int)) (k n : Nat) : List (Option Int) := hs.take k ++ List.replicate n none ++ hs.drop k
theorem badH_lets {L : Nat} {hs : List (Option Int)} {k n : Nat} (h : lets L hs) : lets L (badH hs k n) := fun l hl => by
  rcases List.mem_append.mp hl with z | z
  · rcases List.mem_append.mp z with z | z
    · exact h l (List.mem_of_mem_take z)
    · exact nomatch (List.eq_of_mem_replicate z)
  · exact h l (List.mem_of_mem_drop z)
theorem badH_len {hs : List (Option Int)} {k n : Nat} : (badH hs k n).length = hs.length + n := by
  unfold badH
  rw [List.length_append, List.length_append, List.length_replicate, List.length_take, List.length_drop]
  omega
theorem badH_data {hs : List (Option Int)} {k n : Nat} : PyData.tuple ((hs.map dd).take k ++ (List.replicate n [dd none]).flatten ++ (hs.map dd).drop k) = hist (badH hs k n) := by
  unfold hist badH
  rw [List.map_append, List.map_append, List.map_take, List.map_drop, List.map_replicate]
  congr 3
  induction n with
  | zero => rfl
  | succ n ih => rw [List.replicate_succ, List.flatten_cons, ih, List.replicate_succ]; rfl
theorem ints_rep {n : Nat} : (List.replicate n [PyData.int 1]).flatten = (List.replicate n (1 : Int)).map .int := by
  induction n with
  | zero => rfl
  | succ n ih => rw [List.replicate_succ, List.flatten_cons, ih, List.replicate_succ]; rfl
theorem put_data {ws : List Int} : PyData.tuple ((ws.map some).map dd ++ (List.replicate ws.length [dd none]).flatten) = hist (putOut ws) := by
  unfold hist putOut
  rw [List.map_append, List.map_replicate]
  congr 2
  generalize ws.length = n
  induction n with
  | zero => rfl
  | succ n ih => rw [List.replicate_succ, List.flatten_cons, ih, List.replicate_succ]; rfl
end K2
/-! K2L9: _law_right -/
namespace K2
open PySem PySem.Spec PyProof.Rows L2
/-- what stands all through _law_right: the urn, the pair of modes, the history, the telling -/
structure Env (u pm : Addr) (N : Int) (hv tv : V) (hs : List (Option Int)) (tel : List Int) (H : Hp) : Prop where
  urn : ∃ o, H u = some o ∧ UrnO N o
  pm : H pm = some (.tup [.str (md true), .str (md false)])
  hh : Td (wo [u] H) hv (hist hs)
  tt : Td (wo [u] H) tv (word tel)
section
variable {u pm : Addr} {N : Int} {hv tv v : V} {hs : List (Option Int)} {tel : List Int} {H H' : Hp} {o : HO} {d : PyData}
theorem Env.mono (e : Env u pm N hv tv hs tel H) (s : Same H H') : Env u pm N hv tv hs tel H' := by
  obtain ⟨o, h1, h2⟩ := e.urn
  exact ⟨⟨o, s _ _ h1, h2⟩, s _ _ e.pm, e.hh.mono (wo_mono s), e.tt.mono (wo_mono s)⟩
theorem Env.out (e : Env u pm N hv tv hs tel H) : Out [u] H := by
  obtain ⟨o, h1, h2⟩ := e.urn
  exact Out.cons Out.nil h1
theorem td_take (h : Td (wo [u] H) v d) (o : HO) : Td (wo [u] (upd H u o)) v d := by
  rw [wo_in List.mem_cons_self]; exact h
theorem Env.take (e : Env u pm N hv tv hs tel H) (ho : UrnO (N + 1) o) : Env u pm (N + 1) hv tv hs tel (upd H u o) := by
  obtain ⟨o', h1, x0, x1, x2, rfl, _⟩ := e.urn
  refine ⟨⟨o, upd_same, ho⟩, ?_, td_take e.hh o, td_take e.tt o⟩
  rw [upd_ne (fun z => by have q := e.pm; rw [z, h1] at q; cases q)]
  exact e.pm
end
def spRight : Sp := fun vs H Q _ => ∃ (u : Addr) (o : HO), vs = [.ref u] ∧ H u = some o ∧ UrnO 0 o ∧ ∀ H', Q (.bl true) H'
structure RightC (P : Program) (w : World) (K : PySem.W.Frag) (mg : Str → Option Value) (base : Heap) : Prop where
  take : ∃ f fd, Cal P w K mg base CX0 1 "_law_take" ["_law_urn", "_law_low_so"] spTake f fd
  history : ∃ f fd, Cal P w K mg base CX0 2 "_law_history" ["_law_tin", "_law_letters", "_law_most"] spHistory f fd
  telling : ∃ f fd, Cal P w K mg base CX0 2 "_law_telling" ["_law_tin", "_law_letters"] spTelling f fd
  rows : ∃ f fd, Cal P w K mg base CX0 1 "_law_rows" ["_law_mode", "_law_history_here"] spLawRows f fd
  standings : ∃ f fd C, Cal P w K mg base CX0 5 "standings" ["mode", "history"] (spStandings C) f fd
  lists : ∃ f fd, Cal P w K mg base CX0 3 "_law_lists" ["_law_matter"] (spLst 2) f fd
  stands : ∃ f fd, Cal P w K mg base CX0 6 "stands" ["mode", "history"] spStands f fd
  lettersOut : ∃ f fd, Cal P w K mg base CX0 5 "letters_out" ["mode", "history"] spLettersOut f fd
  seen : ∃ f fd, Cal P w K mg base CX0 4 "seen" ["mode", "word", "shown"] spSeen f fd
  same : ∃ f fd, Cal P w K mg base CX0 5 "_law_same" ["_law_got", "_law_goal"] (spSame 4) f fd
  lawSeen : ∃ f fd, Cal P w K mg base CX0 1 "_law_seen" ["_law_mode", "_law_word", "_law_shown"] spLawSeen f fd
  told : ∃ f fd, Cal P w K mg base CX0 6 "_law_told" ["_law_mode", "_law_shown", "_law_telling_here", "_law_history_here"] spLawTold f fd
  heard : ∃ f fd, Cal P w K mg base CX0 2 "_law_heard" ["_law_mode", "_law_shown", "_law_telling_here", "_law_history_here"] spLawHeard f fd
  puts : ∃ f fd, Cal P w K mg base CX0 1 "puts" ["word"] spPuts f fd
  outs : ∃ f fd, Cal P w K mg base CX0 1 "outs" ["many"] spOuts f fd
  isSound : ∃ f fd, Cal P w K mg base CX0 4 "is_sound" ["history"] spSound f fd
  lawSound : ∃ f fd, Cal P w K mg base CX0 1 "_law_is_sound" ["_law_history_here"] spLawSound f fd
  len : mg "len" = none
theorem take_at {P : Program} {u : Addr} {N : Int} {H : Hp} {c : Int} {Q : VK} {E : XK} (hU : ∃ o, H u = some o ∧ UrnO N o) (hN : N ≤ 1000000) (h0 : 0 < c) (h1 : c ≤ 1000) (q : ∀ o' r, UrnO (N + 1) o' → 0 ≤ r → r < c → Q (.int r) (upd H u o')) : spTake [.ref u, .int c] H Q E := by
  obtain ⟨o, ho, hu⟩ := hU
  exact ⟨u, c, N, o, rfl, ho, hu, hN, h0, h1, q⟩
section
variable {P : Program} {w : World} {K : PySem.W.Frag} {mg : Str → Option Value} {base : Heap} {f : Addr} {fd : FuncData}
set_option maxHeartbeats 0 in
theorem ok_law_right (F : Fun K "_law_right" "_law_right" s__law_right f fd) (R : RightC P w K mg base) : FnOk P w K mg base CX0 7 f fd ["_law_tin"] spRight := by
  obtain ⟨_, _, CTake⟩ := R.take
  obtain ⟨_, _, CHist⟩ := R.history
  obtain ⟨_, _, CTell⟩ := R.telling
  obtain ⟨_, _, CRows⟩ := R.rows
  obtain ⟨_, _, _, CStandings⟩ := R.standings
  obtain ⟨_, _, CLists⟩ := R.lists
  obtain ⟨_, _, CStands⟩ := R.stands
  obtain ⟨_, _, COut⟩ := R.lettersOut
  obtain ⟨_, _, CSeen⟩ := R.seen
  obtain ⟨_, _, CSame⟩ := R.same
  obtain ⟨_, _, CLSeen⟩ := R.lawSeen
  obtain ⟨_, _, CTold⟩ := R.told
  obtain ⟨_, _, CHeard⟩ := R.heard
  obtain ⟨_, _, CPuts⟩ := R.puts
  obtain ⟨_, _, COuts⟩ := R.outs
  obtain ⟨_, _, CSound⟩ := R.isSound
  obtain ⟨_, _, CLSound⟩ := R.lawSound
  have ml := R.len
  refine F.ok sc__law_right (fun vs H Q E h => ?_) (fun cdv A outer s H vs Q E hr h => ?_)
  · obtain ⟨u, o, rfl, _⟩ := h
    rfl
  obtain ⟨u, o, rfl, hu, hU, q⟩ := h
  have nd := sc__law_right.nd
  have r1 : Room 1 _ := hr.mono (by decide)
  have r2 : Room 2 _ := hr.mono (by decide)
  have r3 : Room 3 _ := hr.mono (by decide)
  have r4 : Room 4 _ := hr.mono (by decide)
  have r5 : Room 5 _ := hr.mono (by decide)
  refine ⟨_, pss_cons (ps_asg (pe_tup (pa_cons (pe_op op_add pe_int (pcall CTake r1 pass0 (pa_cons (pv 0) (pa_cons pe_int pa_nil)))) (pa_cons (pcall CTake r1 pass0 (pa_cons (pv 0) (pa_cons pe_int pa_nil))) pa_nil))) (pg_tup rfl (pgs_cons (pg_name (i := 1) nd rfl (.inl rfl)) (pgs_cons (pg_name (i := 2) nd rfl (.inr rfl)) pgs_nil))))
    (pss_cons (ps_par (i := 3) (j := 4) rfl nd rfl rfl (by decide) rfl rfl (pa_cons (pcall CHist r2 pass0 (pa_cons (pv 0) (pa_cons (pv 1) (pa_cons pe_int pa_nil)))) (pa_cons (pcall CTell r2 pass0 (pa_cons (pv 0) (pa_cons (pv 1) pa_nil))) pa_nil)) (by rfl))
    (pss_cons (ps_for PassesOwn.never rfl (pi_tup (pe_tup (pa_cons pe_str (pa_cons pe_str pa_nil)))) (pg_name (i := 5) nd rfl (.inr rfl))
      (pss_cons (ps_asg (pcall CRows r1 pass0 (pa_cons (pv 5) (pa_cons (pv 3) pa_nil))) (pg_tup rfl (pgs_cons (pg_name (i := 6) nd rfl (.inl rfl)) (pgs_cons (pg_name (i := 7) nd rfl (.inl rfl)) pgs_nil))))
      (pss_cons (ps_set (i := 8) nd rfl (.inl rfl) (pe_lst
        (pa_cons (pcall CStandings r5 pass0 (pa_cons (pv 5) (pa_cons (pcall CLists r3 pass0 (pa_cons (pv 3) pa_nil)) pa_nil)))
        (pa_cons (pcall CStands hr pass0 (pa_cons (pv 5) (pa_cons (pv 3) pa_nil)))
        (pa_cons (pcall COut r5 pass0 (pa_cons (pv 5) (pa_cons (pv 3) pa_nil)))
        (pa_cons (pe_lc (own := [("_law_own", 13)]) (g := gName 13) (tt := tYes) (by rfl) nd (pi_list (pe_slice sl_list (pv 6) (po_some (pe_un un_neg pe_int)) po_none)) (blkOk_by (N := n__law_right) (sc := defScope s__law_right) (by decide +kernel)) (fun _ _ _ _ _ => pg_name (i := 13) nd rfl (Or.inl rfl)) (fun _ _ _ _ _ => pts_nil)
          (fun _ _ _ _ _ => pcall CSeen r4 pass0 (pa_cons (pv 5) (pa_cons (pv 13) (pa_cons (pv 2) pa_nil))))) pa_nil))))))
      (pss_cons (ps_if (pt_not (pt_val (pcall CSame r5 pass0 (pa_cons (pv 8) (pa_cons (pe_lst
        (pa_cons (pv 6)
        (pa_cons (pe_ix ix_D (pv 6) (pe_un un_neg pe_int) (fun _ _ => rfl))
        (pa_cons (pv 7)
        (pa_cons (pe_lc (own := [("_law_own", 13)]) (g := gName 13) (tt := tYes) (by rfl) nd (pi_list (pe_slice sl_list (pv 6) (po_some (pe_un un_neg pe_int)) po_none)) (blkOk_by (N := n__law_right) (sc := defScope s__law_right) (by decide +kernel)) (fun _ _ _ _ _ => pg_name (i := 13) nd rfl (Or.inl rfl)) (fun _ _ _ _ _ => pts_nil)
          (fun _ _ _ _ _ => pcall CLSeen r1 pass0 (pa_cons (pv 5) (pa_cons (pv 13) (pa_cons (pv 2) pa_nil))))) pa_nil))))) pa_nil))))) (pss_one (ps_ret pe_bl)) pss_nil)
      (pss_cons (ps_if (pt_not (pt_val (pcall CSame r5 pass0 (pa_cons (pcall CTold hr pass0 (pa_cons (pv 5) (pa_cons (pv 2) (pa_cons (pcall CLists r3 pass0 (pa_cons (pv 4) pa_nil)) (pa_cons (pv 3) pa_nil)))))
        (pa_cons (pcall CHeard r2 pass0 (pa_cons (pv 5) (pa_cons (pv 2) (pa_cons (pv 4) (pa_cons (pv 3) pa_nil))))) pa_nil))))) (pss_one (ps_ret pe_bl)) pss_nil)
      (pss_cons (ps_setLc (i := 9) (own := [("_law_deed", 14)]) (g := gName 14) (by rfl) nd rfl rfl (sw_true rfl rfl rfl (by decide +kernel)) (pi_tup (pv 3)) (blkOk_by (N := n__law_right) (sc := defScope s__law_right) (by decide +kernel)) (fun _ _ _ _ _ => pg_name (i := 14) nd rfl (Or.inl rfl))
        (fun _ _ _ _ _ => pts_one (PW.pt (pw_and (pt_cmpR op_eq (pe_ix ix_D (pv 14) pe_int (fun _ _ => rfl)) pe_str (nomark _)) (pw_and1 (pt_cmpR op_gt (pe_ix ix_D (pv 14) pe_int (fun _ _ => rfl)) pe_int (nomark _))))))
        (fun _ _ _ _ _ => pe_ix ix_D (pv 14) pe_int (fun _ _ => rfl)))
      (pss_cons (ps_if (PW.pt (pw_and (pt_cmpR (op_neD hr.units) (pv 9) (pe_lst pa_nil) (nomark _)) (pw_and1 (pt_not (pt_val (pcall CSame r5 pass0 (pa_cons (pcall CTold hr pass0 (pa_cons (pv 5) (pa_cons (pv 2) (pa_cons (pe_tup (pa_cons pe_int pa_nil)) (pa_cons (pv 3) pa_nil)))))
        (pa_cons (pe_lst (pa_cons pe_str (pa_cons (pe_ix ix_D (pv 9) pe_int (fun _ _ => rfl)) pa_nil))) pa_nil)))))))) (pss_one (ps_ret pe_bl)) pss_nil)
      (pss_cons (ps_set (i := 10) nd rfl (.inl rfl) (pe_op op_catD (pe_ix ix_D (pv 6) (pe_un un_neg pe_int) (fun _ _ => rfl)) (pe_op op_repD (pe_tup (pa_cons pe_int pa_nil)) (pcall CTake r1 pass0 (pa_cons (pv 0) (pa_cons pe_int pa_nil))))))
      (pss_one (ps_if (pt_not (pt_val (pcall CSame r5 pass0 (pa_cons (pcall CStands hr pass0 (pa_cons (pv 5) (pa_cons (pe_op op_catD (pcall CPuts r1 pass0 (pa_cons (pv 10) pa_nil)) (pe_op op_repD (pcall COuts r1 pass0 (pa_cons pe_int pa_nil)) (pe_callB call_lenD' (by rfl) ml PySem.boot_len (pa_cons (pv 10) pa_nil)))) pa_nil)))
        (pa_cons (pe_tup pa_nil) pa_nil))))) (pss_one (ps_ret pe_bl)) pss_nil))))))))))
    (pss_cons (ps_set (i := 11) nd rfl (.inl rfl) (pcall CTake r1 pass0 (pa_cons (pv 0) (pa_cons (pe_op op_add (pe_callB call_lenD' (by rfl) ml PySem.boot_len (pa_cons (pv 3) pa_nil)) pe_int) pa_nil))))
    (pss_cons (ps_set (i := 12) nd rfl (.inl rfl) (pe_op op_catD (pe_op op_catD (pe_slice sl_tupD (pv 3) po_none (po_some (pv 11))) (pe_op op_repD (pe_tup (pa_cons (pe_tup (pa_cons pe_str pa_nil)) pa_nil)) (pe_op op_add pe_int (pcall CTake r1 pass0 (pa_cons (pv 0) (pa_cons pe_int pa_nil)))))) (pe_slice sl_tupD (pv 3) (po_some (pv 11)) po_none)))
    (pss_one (ps_ret (pcall CSame r5 pass0 (pa_cons (pe_lst
      (pa_cons (pcall CSound r4 pass0 (pa_cons (pv 3) pa_nil))
      (pa_cons (pcall CSound r4 pass0 (pa_cons (pcall CLists r3 pass0 (pa_cons (pv 12) pa_nil)) pa_nil))
      (pa_cons (pe_cmpR (op_eqD hr.units) (pcall CTold hr pass0 (pa_cons pe_str (pa_cons (pv 2) (pa_cons (pv 4) (pa_cons (pv 12) pa_nil))))) (pe_lst (pa_cons pe_str (pa_cons pe_bl pa_nil))) (nomark _)) pa_nil))))
      (pa_cons (pe_lst (pa_cons pe_bl (pa_cons (pcall CLSound r1 pass0 (pa_cons (pv 12) pa_nil)) (pa_cons (pe_not (pcall CLSound r1 pass0 (pa_cons (pv 12) pa_nil))) pa_nil)))) pa_nil))))))))), ?_⟩
  -- letters, shown
  refine ⟨.ref u, rfl, u, 4, 0, o, rfl, hu, hU, by decide, by decide, by decide, fun o1 x1 hU1 a1 b1 => ?_⟩
  refine ⟨_, _, rfl, rfl, .ref u, rfl, u, 7, 0 + 1, o1, rfl, upd_same, hU1, by decide, by decide, by decide, fun o2 x2 hU2 a2 b2 => ?_⟩
  refine ⟨two_fits, fun pT hT => ⟨pT, _, rfl, SqT.of upd_same, rfl, _, _, rfl, _, _, rfl, rfl, ?_⟩⟩
  obtain ⟨l0, rfl⟩ := Int.eq_ofNat_of_zero_le a1
  obtain ⟨k, rfl⟩ := Int.eq_ofNat_of_zero_le a2
  have eL : (1 + (l0 : Int)) = ((1 + l0 : Nat) : Int) := by omega
  have hu2 : (upd (upd (upd H u o1) u o2) pT (.tup [.int (1 + (l0 : Int)), .int (k : Int)])) u = some o2 := same_upd hT _ _ _ upd_same
  -- history, telling
  refine ⟨.ref u, rfl, _, rfl, u, 1 + l0, 0 + 1 + 1, o2, by rw [← eL]; rfl, hu2, hU2, by decide, by omega, by omega, fun hv0 H3 o3 hs sw3 hu3 hU3 hh3 hso hle hlen => ?_⟩
  refine ⟨.ref u, rfl, _, rfl, u, 1 + l0, _, o3, by rw [← eL]; rfl, hu3, hU3, by decide, by omega, by omega, fun tv H4 o4 tel sw4 hu4 hU4 ht4 htl => ?_⟩
  obtain ⟨a, xs0, rfl, _, _⟩ := hist_inv hh3
  refine ⟨.ref a, tv, rfl, ?_⟩
  have hle' : lets tel.length hs := by rw [htl]; exact hle
  have fb : firstBad tel.length hs = none := firstBad_none hle' (Nat.le_refl _)
  -- the modes
  refine ⟨two_fits, fun pm hpm => ⟨pm, rfl, ⟨_, SqT.of upd_same⟩, ?_⟩⟩
  have env0 : Env u pm (212 + ((0 : Nat) : Int)) (.ref a) tv hs tel (upd H4 pm (.tup [.str "queue", .str "pile"])) :=
    ⟨⟨o4, same_upd hpm _ _ _ hu4, hU4.mono (by decide)⟩, upd_same, (hh3.mono sw4).mono (wo_upd hpm _), ht4.mono (wo_upd hpm _)⟩
  refine for_tup (xs := [.str (md true), .str (md false)]) (fun i σ H' => Env u pm (212 + (i : Nat)) (.ref a) tv hs tel H' ∧ ∃ z5 z6 z7 z8 z9 z10 z11 z12 z13 z14, σ = [some (.ref u), some (.int (1 + (l0 : Int))), some (.int (k : Int)), some (.ref a), some tv, z5, z6, z7, z8, z9, z10, z11, z12, z13, z14])
    ⟨env0, none, none, none, none, none, none, none, none, none, none, rfl⟩ (fun i σ H' _ h => SqT.of h.1.pm) (fun i x σ H' hi h => ?_) (fun σ H' h => ?_)
  · obtain ⟨e, z5, z6, z7, z8, z9, z10, z11, z12, z13, z14, rfl⟩ := h
    have hi2 : i < 2 := lt_of_get' hi
    obtain ⟨m, rfl⟩ : ∃ m, x = .str (md m) := by
      match i, hi with
      | 0, hi => exact ⟨true, (Option.some.inj hi).symm⟩
      | 1, hi => exact ⟨false, (Option.some.inj hi).symm⟩
    -- the law's own rows
    refine ⟨_, rfl, .ref a, rfl, [u], m, .ref a, hs, rfl, e.out, e.hh, by omega, hso, fun v1 H6 s6 hv1 => ?_⟩
    have e6 := e.mono s6
    obtain ⟨ta, ts, rfl, et, tts⟩ := hv1.inv_tup
    obtain ⟨r, ts, rfl, hR6, tts⟩ := tts.inv_cons
    obtain ⟨g, ts, rfl, hG6, tts⟩ := tts.inv_cons
    rw [tts.inv_nil] at et
    obtain ⟨ra, ys, rfl, _, _⟩ := hR6.inv_lst
    refine ⟨ta, _, rfl, SqT.of (wo_of et), rfl, .ref ra, [g], rfl, g, [], rfl, rfl, ?_⟩
    have elast : atI ((rows m hs).map word) (-1) = some (word (stt m hs hs.length)) := by
      rw [show rows m hs = rowsR m hs (hs.length + 1) from rfl, rowsR_succ, List.map_append]
      exact atI_last _ _
    -- standings, stands, letters_out
    refine ⟨_, rfl, .ref a, rfl, [u], .ref a, hist hs, rfl, e6.out, e6.hh, ok_hist (by omega), fun lv H7 s7 hlv => ?_⟩
    have e7 := e6.mono s7
    refine ⟨[u], m, lv, _, hs, rfl, e7.out, hlv, lst_hist (by omega), by omega, hso, fun w1 H8 s8 hw1 => ?_⟩
    have e8 := e7.mono s8
    refine ⟨_, rfl, .ref a, rfl, [u], m, .ref a, _, hs, rfl, e8.out, e8.hh, isHist (by omega), by omega, hso, fun w2 H9 s9 hw2 => ?_⟩
    have e9 := e8.mono s9
    refine ⟨_, rfl, .ref a, rfl, [u], m, .ref a, _, hs, rfl, e9.out, e9.hh, isHist (by omega), by omega, hso, fun w3 H10 s10 hw3 => ?_⟩
    have e10 := e9.mono s10
    have s610 := ((s7.trans s8).trans s9).trans s10
    have hR10 := hR6.mono (wo_mono s610)
    have hG10 := hG6.mono (wo_mono s610)
    obtain ⟨ra', ys, era, eya, tys⟩ := hR10.inv_lst
    cases era
    refine ⟨.ref ra, rfl, 4, rfl, -4, rfl, ra, ys, rfl, SqL.of (wo_of eya), fun c hc => ⟨c, rfl, ⟨_, SqL.of upd_same⟩, fun D hD => ?_⟩⟩
    have sc := same_upd hc (.lst (cutV ys (some (-4)) none))
    have ec := e10.mono sc
    refine lc_eachL (S := [u]) (G := seenD m k) ec.out hD upd_same ((tys.cut (some (-4)) none).mono (wo_mono sc)) (last4_len (by omega)) (fun y d H2 R hd sm hO hyd hR => ?_) (fun H11 zs s11 eD hzs => ?_)
    · obtain ⟨ws, rfl, hw⟩ := last4_word hd
      exact ⟨rfl, _, rfl, y, rfl, _, rfl, D :: [u], m, y, ws, k, rfl, hO, hyd, by omega, fun v H' s hv' => hR v H' s (by rw [seenD_word]; exact hv')⟩
    have s1011 := sc.trans s11
    have e11 := e10.mono s1011
    refine ⟨by show 4 ≤ sizeLine; decide, fun pg hpg => ?_⟩
    have hD11 : Td (wo [u] H11) (.ref D) (.list ((last4 m hs).map (seenD m k))) := lst_done (ec.out.not_mem hD) eD hzs
    have got : Td (wo [u] _) (.ref pg) (gotD m k hs) := lst_new e11.out hpg (.cons (hw1.mono (wo_mono ((s9.trans s10).trans s1011))) (.cons (hw2.mono (wo_mono (s10.trans s1011))) (.cons (hw3.mono (wo_mono s1011)) (.one hD11))))
    have sg := same_upd hpg (.lst [w1, w2, w3, .ref D])
    have e12 := e11.mono sg
    have hR12 := hR10.mono (wo_mono (s1011.trans sg))
    have hG12 := hG10.mono (wo_mono (s1011.trans sg))
    clear hw1 hw2 hw3 hD11 hlv
    -- the law's own beside it
    refine ⟨.ref pg, rfl, .ref ra, rfl, .ref ra, rfl, 1, rfl, [u], _, -1, _, rfl, .inr hR12, elast, fun w5 hw5 => ?_⟩
    obtain ⟨ra', ys2, era, eya2, tys2⟩ := hR12.inv_lst
    cases era
    refine ⟨g, rfl, .ref ra, rfl, 4, rfl, -4, rfl, ra, ys2, rfl, SqL.of (wo_of eya2), fun c2 hc2 => ⟨c2, rfl, ⟨_, SqL.of upd_same⟩, fun D2 hD2 => ?_⟩⟩
    have sc2 := same_upd hc2 (.lst (cutV ys2 (some (-4)) none))
    have ec2 := e12.mono sc2
    refine lc_eachL (S := [u]) (G := seenD m k) ec2.out hD2 upd_same ((tys2.cut (some (-4)) none).mono (wo_mono sc2)) (last4_len (by omega)) (fun y d H2 R hd sm hO hyd hR => ?_) (fun H13 zs2 s13 eD2 hzs2 => ?_)
    · obtain ⟨ws, rfl, hw⟩ := last4_word hd
      exact ⟨rfl, _, rfl, y, rfl, _, rfl, D2 :: [u], m, y, ws, k, rfl, hO, hyd, fun v H' s hv' => hR v H' s (by rw [seenD_word]; exact hv')⟩
    have s1213 := sc2.trans s13
    have e13 := e12.mono s1213
    refine ⟨by show 4 ≤ sizeLine; decide, fun pl hpl => ?_⟩
    have hD13 : Td (wo [u] H13) (.ref D2) (.list ((last4 m hs).map (seenD m k))) := lst_done (ec2.out.not_mem hD2) eD2 hzs2
    have own : Td (wo [u] _) (.ref pl) (gotD m k hs) := lst_new e13.out hpl (.cons (hR12.mono (wo_mono s1213)) (.cons (hw5.mono (wo_mono s1213)) (.cons (hG12.mono (wo_mono s1213)) (.one hD13))))
    have sl := same_upd hpl (.lst [.ref ra, w5, g, .ref D2])
    refine ⟨.ref pg, .ref pl, gotD m k hs, rfl, (got.mono (wo_mono (s1213.trans sl))).mono wo_sub, own.mono wo_sub, ok_gotD hlen, fun H14 s14 => ⟨true, rfl, ite_no rfl ?_⟩⟩
    have s1214 := (s1213.trans sl).trans s14
    have e14 := e12.mono s1214
    have hR14 := hR12.mono (wo_mono s1214)
    clear got own hD13 hw5 tys tys2
    -- what is heard
    refine ⟨_, rfl, _, rfl, tv, rfl, [u], tv, word tel, rfl, e14.out, e14.tt, okD_mono (ok_word (by omega)) (by decide), fun lt H15 s15 hlt => ?_⟩
    have e15 := e14.mono s15
    refine ⟨.ref a, rfl, [u], m, k, .ref a, lt, hist hs, lstD (word tel), hs, tel, rfl, e15.out, hlt, okD_lst (okD_mono (ok_word (by omega)) (by decide)), lst_word tel, e15.hh, isHist (by omega), by omega, (fun l hl => (hle l hl).1), fun tdv H16 rr hrr s16 htd => ?_⟩
    have er : rr = .list (heardR m k tel hs hs.length) := by
      rcases hrr with ⟨z, _⟩ | ⟨_, l, z, _⟩ | ⟨_, _, z⟩
      · exact absurd hso z
      · rw [fb] at z; cases z
      · exact z
    subst er
    have e16 := e15.mono s16
    refine ⟨_, rfl, _, rfl, tv, rfl, .ref a, rfl, [u], m, k, .ref a, tv, hs, tel, rfl, e16.out, e16.tt, e16.hh, by omega, hso, hle', fun hdv H17 s17 hhd => ?_⟩
    have e17 := e16.mono s17
    refine ⟨tdv, hdv, _, rfl, (htd.mono (wo_mono s17)).mono wo_sub, hhd.mono wo_sub, ok_heard hlen, fun H18 s18 => ⟨true, rfl, ite_no rfl ?_⟩⟩
    have e18 := e17.mono s18
    have hR18 := hR14.mono (wo_mono (((s15.trans s16).trans s17).trans s18))
    clear htd hhd hlt
    -- more
    obtain ⟨a', xs, eaa, eha, hxs⟩ := hist_inv e18.hh
    cases eaa
    have hlx : xs.length = hs.length := by rw [hxs.length, List.length_map]
    refine ⟨.ref a, rfl, a, rfl, ⟨xs, SqT.of (wo_of eha)⟩, fun DM hDM => ?_⟩
    refine lc_tup (xs := xs) (fun j H' => Same H18 H' ∧ H' DM = some (.lst (((hs.take j).filterMap (tooBig 1)).map V.int))) ⟨same_upd hDM _, upd_same⟩ (fun j H' _ h => SqT.of (h.1 _ _ (wo_of eha))) (fun j x H' hj h => ?_) (fun H19 h => ?_)
    · obtain ⟨sm, eDM⟩ := h
      obtain ⟨dv, hdv', hx⟩ := hist_at hxs hj
      have hx2 : Td (wo [] H') x (dd dv) := wo_nil_td (hx.mono (fun b o' q' => sm _ _ (wo_of q')))
      have tk := List.take_add_one (l := hs) (i := j)
      rw [hdv', Option.toList_some] at tk
      cases dv with
      | none =>
        refine ⟨rfl, x, rfl, [], _, 0, .str "out", rfl, .inl hx2, atI_nat (j := 0) rfl, fun v0 hv0 => ?_⟩
        rw [hv0.inv_str]
        refine ⟨rfl, _, rfl, ite_no str_out_in (iteF ⟨sm, ?_⟩)⟩
        rw [tk, List.filterMap_append, eDM]
        simp [tooBig]
      | some l =>
        refine ⟨rfl, x, rfl, [], _, 0, .str "in", rfl, .inl hx2, atI_nat (j := 0) rfl, fun v0 hv0 => ?_⟩
        rw [hv0.inv_str]
        refine ⟨rfl, _, rfl, ite_yes str_in ⟨x, rfl, [], _, 1, .int l, rfl, .inl hx2, atI_nat (j := 1) rfl, fun v1 hv1 => ?_⟩⟩
        rw [hv1.inv_int]
        refine ⟨_, _, rfl, rfl, _, rfl, ite2 (fun cc => ?_) (fun cc => ?_)⟩
        · have c' : (1 : Int) < l := of_decide_eq_true cc
          refine ⟨x, rfl, [], _, 1, .int l, rfl, .inl hx2, atI_nat (j := 1) rfl, fun v2 hv2 => ?_⟩
          rw [hv2.inv_int]
          have etb : tooBig 1 (some l) = some l := if_pos c'
          have fl : ((hs.take j).filterMap (tooBig 1)).length ≤ hs.length := Nat.le_trans (List.length_filterMap_le _ _) (by rw [List.length_take]; omega)
          refine ⟨_, eDM, by rw [List.length_map]; exact small (by omega), same_in hDM sm _, ?_⟩
          rw [upd_same, tk, List.filterMap_append, List.filterMap_cons, etb, List.map_append]
          rfl
        · have c' : ¬ (1 : Int) < l := of_decide_eq_false (Bool.eq_false_iff.mpr cc)
          have etb : tooBig 1 (some l) = none := if_neg c'
          refine ⟨sm, ?_⟩
          rw [tk, List.filterMap_append, eDM, List.filterMap_cons, etb]
          simp
    obtain ⟨s19, eDM⟩ := h
    rw [hlx, List.take_length] at eDM
    have e19 := e18.mono s19
    have hR19 := hR18.mono (wo_mono s19)
    have hM19 : Td (wo [u] H19) (.ref DM) (.list ((hs.filterMap (tooBig 1)).map .int)) := .lst ((wo_out (e18.out.not_mem hDM)).trans eDM) (.ints _)
    -- behind «more»: the row that is put and taken out
    have rest : ∀ (H20 : Hp) (D2 : Ends) (z : Option V), Env u pm (212 + (i : Nat)) (.ref a) tv hs tel H20 → Td (wo [u] H20) (.ref ra) (rowsD m hs) →
        (∀ H' z10, Env u pm (212 + (i : Nat) + 1) (.ref a) tv hs tel H' → D2.nx [some (.ref u), some (.int (1 + (l0 : Int))), some (.int (k : Int)), some (.ref a), some tv, some (.str (md m)), some (.ref ra), some g, some (.ref pg), some (.ref DM), z10, z11, z12, z13, z14] H') →
        tSeq (tAsg (tOp rCatD (tOp rIxD (tVar 6) (tUn (rU fun i => .int (-i)) (tC (.int 1)))) (tOp rRepD (tTup (tCons (tC (.int 1)) tNil)) (tCall spTake [] E0 (tCons (tVar 0) (tCons (tC (.int 3)) tNil))))) (gName 10))
          (tIfS (tNot (tB (tCall (spSame 4) [] E0 (tCons (tCall spStands [] E0 (tCons (tVar 5) (tCons (tOp rCatD (tCall spPuts [] E0 (tCons (tVar 10) tNil)) (tOp rRepD (tCall spOuts [] E0 (tCons (tC (.int 1)) tNil)) (tCB rLenD (tCons (tVar 10) tNil)))) tNil))) (tCons (tTup tNil) tNil))))) (tRet (tC (.bl false))) tNext)
          D2 [some (.ref u), some (.int (1 + (l0 : Int))), some (.int (k : Int)), some (.ref a), some tv, some (.str (md m)), some (.ref ra), some g, some (.ref pg), some (.ref DM), z, z11, z12, z13, z14] H20 := by
      intro H20 D2 z e20 hR20 hD2
      refine ⟨.ref ra, rfl, 1, rfl, [u], _, -1, _, rfl, .inr hR20, elast, fun w6 hw6 => ?_⟩
      refine ⟨by show 1 ≤ sizeLine; decide, fun p1 hp1 => ?_⟩
      have sp1 := same_upd hp1 (.tup [.int 1])
      have t1 : Td (wo [u] _) (.ref p1) (.tuple [.int 1]) := tup_new e20.out hp1 (.one (.int 1))
      have e21 := e20.mono sp1
      obtain ⟨o5, ho5, hU5⟩ := e21.urn
      refine ⟨.ref u, rfl, u, 3, _, o5, rfl, ho5, hU5, by omega, by decide, by decide, fun o6 x6 hU6 a6 b6 => ?_⟩
      have e22 := e21.take hU6
      refine ⟨[u], _, x6, rfl, e22.out, td_take t1 _, List.cons_ne_nil _ _, a6, by omega, (by show 1 ≤ 1000; decide), fun v7 H23 s23 hv7 => ?_⟩
      have e23 := e22.mono s23
      have hst := stt_le (q := m) (hs := hs) hs.length
      rw [ints_rep] at hv7
      refine ⟨[u], _, _, e23.out, (td_take (hw6.mono (wo_mono sp1)) o6).mono (wo_mono s23), hv7, ?_, fun bk H24 s24 hbk => ?_⟩
      · rw [List.length_map, List.length_map, List.length_replicate]
        omega
      rw [← List.map_append] at hbk
      have e24 := e23.mono s24
      generalize hbw : stt m hs hs.length ++ List.replicate x6.toNat (1 : Int) = bw at hbk
      have hbl : bw.length ≤ 61 := by
        rw [← hbw, List.length_append, List.length_replicate]
        omega
      have hbk' : Td (wo [u] H24) bk (word bw) := hbk
      refine ⟨_, rfl, bk, rfl, [u], bk, bw, rfl, e24.out, hbk', by omega, fun pv' H25 s25 hpv => ?_⟩
      have e25 := e24.mono s25
      refine ⟨[u], rfl, e25.out, fun ov H26 s26 hov => ?_⟩
      have e26 := e25.mono s26
      refine ⟨bk, rfl, [u], bk, _, rfl, .inl (hbk'.mono (wo_mono (s25.trans s26))), ?_⟩
      refine ⟨[u], [dd none], _, rfl, e26.out, hov, List.cons_ne_nil _ _, by omega, by rw [List.length_map]; omega, (by show 1 ≤ 1000; decide), fun rv H27 s27 hrv => ?_⟩
      have e27 := e26.mono s27
      rw [Int.toNat_natCast, List.length_map] at hrv
      have rl : (List.replicate bw.length [dd none]).flatten.length ≤ 61 := by
        have e1 : ∀ n : Nat, (List.replicate n [dd none]).flatten.length = n := fun n => by
          induction n with
          | zero => rfl
          | succ n ih => rw [List.replicate_succ, List.flatten_cons, List.length_append, ih]; show 1 + n = n + 1; omega
        rw [e1]; exact hbl
      refine ⟨[u], _, _, e27.out, hpv.mono (wo_mono (s26.trans s27)), hrv, by rw [List.length_map, List.length_map]; omega, fun cv H28 s28 hcv => ?_⟩
      rw [put_data] at hcv
      have e28 := e27.mono s28
      have pl := putOut_len (ws := bw)
      refine ⟨[u], m, cv, _, putOut bw, rfl, e28.out, hcv, isHist (by omega), by omega, sound_putOut, fun sv H29 s29 hsv => ?_⟩
      rw [stt_putOut] at hsv
      have e29 := e28.mono s29
      refine ⟨Nat.zero_le _, fun pe hpe => ?_⟩
      have spe := same_upd hpe (.tup [])
      refine ⟨sv, .ref pe, word [], rfl, (hsv.mono (wo_mono spe)).mono wo_sub, (tup_new e29.out hpe .nil).mono wo_sub, okD_mono (ok_word (ws := []) (by decide)) (by decide), fun H30 s30 => ⟨true, rfl, ite_no rfl ?_⟩⟩
      exact hD2 H30 _ ((e29.mono spe).mono s30)
    have fin : ∀ (H' : Hp) (z10 : Option V), Env u pm (212 + (i : Nat) + 1) (.ref a) tv hs tel H' → Env u pm (212 + ((i + 1 : Nat) : Int)) (.ref a) tv hs tel H' ∧ ∃ y5 y6 y7 y8 y9 y10 y11 y12 y13 y14, [some (.ref u), some (.int (1 + (l0 : Int))), some (.int (k : Int)), some (.ref a), some tv, some (.str (md m)), some (.ref ra), some g, some (.ref pg), some (.ref DM), z10, z11, z12, z13, z14] = [some (.ref u), some (.int (1 + (l0 : Int))), some (.int (k : Int)), some (.ref a), some tv, y5, y6, y7, y8, y9, y10, y11, y12, y13, y14] := fun H' z10 e' => by
      refine ⟨?_, _, _, _, _, _, _, _, _, _, _, rfl⟩
      rw [show (212 : Int) + ((i + 1 : Nat) : Int) = 212 + (i : Nat) + 1 by omega]
      exact e'
    refine ⟨.ref DM, rfl, Nat.zero_le _, fun pe hpe => ?_⟩
    have spe := same_upd hpe (.lst [])
    have e20 := e19.mono spe
    have hR20 := hR19.mono (wo_mono spe)
    have hM20 := hM19.mono (wo_mono spe)
    have hE20 : Td (wo [u] _) (.ref pe) (.list []) := lst_new e19.out hpe .nil
    refine ⟨_, _, (hM20.mono wo_sub).dp, (hE20.mono wo_sub).dp, (Lay.list (lay_ints _)).shaped (by decide), (Lay.list (n := 0) (ds := []) (fun _ h => nomatch h)).shaped (by decide), _, rfl, ?_⟩
    cases hms : hs.filterMap (tooBig 1) with
    | nil => exact ite_no rfl (iteF (rest _ _ _ e20 hR20 fin))
    | cons l ms =>
      refine ite_yes rfl ?_
      rw [hms] at hM20
      refine ⟨_, rfl, _, rfl, by show 1 ≤ sizeLine; decide, fun p0 hp0 => ?_⟩
      have sp0 := same_upd hp0 (.tup [.int 0])
      have t0 : Td (wo [u] _) (.ref p0) (word [0]) := tup_new e20.out hp0 (.one (.int 0))
      have e21 := e20.mono sp0
      refine ⟨.ref a, rfl, [u], m, k, .ref a, .ref p0, hist hs, word [0], hs, [0], rfl, e21.out, t0, okD_mono (ok_word (by decide)) (by decide), tup_word _, e21.hh, isHist (by omega), by omega, (fun l hl => (hle l hl).1), fun tdv2 H22 rr hrr s22 htd2 => ?_⟩
      have fb1 : firstBad 1 hs = some l := by unfold firstBad; rw [hms]; rfl
      have er2 : rr = .list [.str "place", .int l] := by
        rcases hrr with ⟨z, _⟩ | ⟨_, l', z, q'⟩ | ⟨_, z, _⟩
        · exact absurd hso z
        · have z' := (show firstBad 1 hs = some l' from z)
          rw [fb1] at z'
          rw [q', Option.some.inj z']
        · have z' := (show firstBad 1 hs = none from z)
          rw [fb1] at z'; cases z'
      subst er2
      have e22 := e21.mono s22
      have s2022 := sp0.trans s22
      refine ⟨.ref DM, rfl, [u], _, 0, .int l, rfl, .inr (hM20.mono (wo_mono s2022)), atI_nat (j := 0) rfl, fun v8 hv8 => ?_⟩
      refine ⟨two_fits, fun pl2 hpl2 => ?_⟩
      have spl2 := same_upd hpl2 (.lst [.str "place", v8])
      refine ⟨tdv2, .ref pl2, _, rfl, (htd2.mono (wo_mono spl2)).mono wo_sub, (lst_new e22.out hpl2 (.cons (.str _) (.one hv8))).mono wo_sub, ⟨(by show 2 ≤ 1000; decide), fun e he => ?_⟩, fun H24 s24 => ⟨true, rfl, iteF ?_⟩⟩
      · rcases List.mem_cons.mp he with z | z
        · rw [z]; rfl
        · rw [List.mem_singleton.mp z]; rfl
      · exact rest _ _ _ ((e22.mono spl2).mono s24) (hR20.mono (wo_mono ((s2022.trans spl2).trans s24))) fin
  · obtain ⟨e, z5, z6, z7, z8, z9, z10, z11, z12, z13, z14, rfl⟩ := h
    have hlx : ((hs.map dd).length : Int) = hs.length := by rw [List.length_map]
    -- the place
    refine ⟨.ref u, rfl, .ref a, rfl, [u], .ref a, _, rfl, .inl e.hh, _, _, rfl, rfl, ?_⟩
    obtain ⟨o4', ho4', hU4'⟩ := e.urn
    refine ⟨u, ((hs.map dd).length : Int) + 1, _, o4', rfl, ho4', hU4', by decide, by omega, by omega, fun o5 kk hU5 a5 b5 => ?_⟩
    have e5 := e.take hU5
    obtain ⟨kn, rfl⟩ := Int.eq_ofNat_of_zero_le a5
    -- the history with the outs
    refine ⟨.ref a, rfl, .int kn, rfl, kn, rfl, [u], _, e5.out, e5.hh, fun v6 H6 s6 hv6 => ?_⟩
    rw [cutA_to] at hv6
    have e6 := e5.mono s6
    refine ⟨by show 1 ≤ sizeLine; decide, fun p1 hp1 => ?_⟩
    have sp1 := same_upd hp1 (.tup [.str "out"])
    have t1 : Td (wo [u] _) (.ref p1) (dd none) := tup_new e6.out hp1 (.one (.str "out"))
    have e7 := e6.mono sp1
    refine ⟨by show 1 ≤ sizeLine; decide, fun p2 hp2 => ?_⟩
    have sp2 := same_upd hp2 (.tup [.ref p1])
    have t2 : Td (wo [u] _) (.ref p2) (.tuple [dd none]) := tup_new e7.out hp2 (.one t1)
    have e8 := e7.mono sp2
    obtain ⟨o8, ho8, hU8⟩ := e8.urn
    refine ⟨.ref u, rfl, u, 9, _, o8, rfl, ho8, hU8, by decide, by decide, by decide, fun o9 x9 hU9 a9 b9 => ?_⟩
    have e9 := e8.take hU9
    refine ⟨_, _, rfl, rfl, [u], [dd none], 1 + x9, rfl, e9.out, td_take t2 _, List.cons_ne_nil _ _, by omega, by omega, (by show 1 ≤ 1000; decide), fun v10 H10 s10 hv10 => ?_⟩
    have e10 := e9.mono s10
    have rl : (List.replicate (1 + x9).toNat [dd none]).flatten.length = (1 + x9).toNat := by
      generalize (1 + x9).toNat = n
      induction n with
      | zero => rfl
      | succ n ih => rw [List.replicate_succ, List.flatten_cons, List.length_append, ih]; show 1 + n = n + 1; omega
    have tl : ((hs.map dd).take kn).length ≤ 58 := by rw [List.length_take, List.length_map]; omega
    have dl : ((hs.map dd).drop kn).length ≤ 58 := by rw [List.length_drop, List.length_map]; omega
    refine ⟨[u], _, _, e10.out, (td_take (hv6.mono (wo_mono (sp1.trans sp2))) o9).mono (wo_mono s10), hv10, by omega, fun v11 H11 s11 hv11 => ?_⟩
    have e11 := e10.mono s11
    refine ⟨.ref a, rfl, .int kn, rfl, kn, rfl, [u], _, e11.out, e11.hh, fun v12 H12 s12 hv12 => ?_⟩
    rw [cutA_from] at hv12
    have e12 := e11.mono s12
    refine ⟨[u], _, _, e12.out, hv11.mono (wo_mono s12), hv12, by rw [List.length_append]; omega, fun bv H13 s13 hbv => ?_⟩
    rw [badH_data] at hbv
    have e13 := e12.mono s13
    have bl : (badH hs kn (1 + x9).toNat).length ≤ 67 ∧ 0 < (badH hs kn (1 + x9).toNat).length := by rw [badH_len]; omega
    have ble : lets tel.length (badH hs kn (1 + x9).toNat) := badH_lets hle'
    generalize badH hs kn (1 + x9).toNat = bd at hbv bl ble
    -- what the program says of both
    refine ⟨.ref a, rfl, .ref a, _, hs, rfl, e13.hh.mono wo_sub, isHist (by omega), fun b1 H14 hb1 s14 => ?_⟩
    have e14 := e13.mono s14
    have eb1 : b1 = true := hb1.mpr hso
    subst eb1
    have hbv14 := hbv.mono (wo_mono s14)
    refine ⟨bv, rfl, [u], bv, _, rfl, e14.out, hbv14, ok_hist (by omega), fun lb H15 s15 hlb => ?_⟩
    have e15 := e14.mono s15
    refine ⟨lb, _, bd, rfl, hlb.mono wo_sub, lst_hist (by omega), fun b2 H16 hb2 s16 => ?_⟩
    have e16 := e15.mono s16
    have hbv16 := hbv14.mono (wo_mono (s15.trans s16))
    refine ⟨_, rfl, tv, rfl, bv, rfl, [u], false, k, bv, tv, hist bd, word tel, bd, tel, rfl, e16.out, e16.tt, okD_mono (ok_word (by omega)) (by decide), tup_word _, hbv16, isHist (by omega), by omega, (fun l hl => (ble l hl).1), fun tdv H17 rr hrr s17 htd => ?_⟩
    have e17 := e16.mono s17
    have er : (∃ n, Lay n rr ∧ n ≤ 64) ∧ PyData.eqv rr unfitD = !b2 := by
      rcases hrr with ⟨z, q'⟩ | ⟨_, l, z, _⟩ | ⟨z, _, q'⟩
      · have eb : b2 = false := Bool.eq_false_iff.mpr fun c => z (hb2.mp c)
        rw [q', eb]
        exact ⟨⟨1, lay_unfit, by decide⟩, unfit_same⟩
      · rw [firstBad_none ble (Nat.le_refl _)] at z; cases z
      · have eb : b2 = true := hb2.mpr z
        rw [q', eb]
        exact ⟨⟨3, lay_heard, by decide⟩, heard_unfit bl.2⟩
    obtain ⟨⟨n, lr, hn⟩, er⟩ := er
    refine ⟨two_fits, fun pu hpu => ?_⟩
    have spu := same_upd hpu (.lst [.str "unfit", .bl true])
    have tu : Td (wo [u] _) (.ref pu) unfitD := lst_new e17.out hpu (.cons (.str _) (.one (.bl _)))
    have e18 := e17.mono spu
    refine ⟨_, _, ((htd.mono (wo_mono spu)).mono wo_sub).dp, (tu.mono wo_sub).dp, lr.shaped hn, lay_unfit.shaped (by decide), ?_⟩
    rw [er]
    refine ⟨by show 3 ≤ sizeLine; decide, fun pg hpg => ?_⟩
    have spg := same_upd hpg (.lst [.bl true, .bl b2, .bl (!b2)])
    have tg : Td (wo [u] _) (.ref pg) (.list [.bool true, .bool b2, .bool (!b2)]) := lst_new e18.out hpg (.cons (.bl _) (.cons (.bl _) (.one (.bl _))))
    have e19 := e18.mono spg
    have hbv19 := hbv16.mono (wo_mono ((s17.trans spu).trans spg))
    refine ⟨bv, rfl, bv, bd, rfl, hbv19.mono wo_sub, fun b3 hb3 => ⟨bv, rfl, bv, bd, rfl, hbv19.mono wo_sub, fun b4 hb4 => ?_⟩⟩
    have e3 : b3 = b2 := Bool.eq_iff_iff.mpr (hb3.trans hb2.symm)
    have e4 : b4 = b2 := Bool.eq_iff_iff.mpr (hb4.trans hb2.symm)
    subst e3
    subst e4
    refine ⟨_, rfl, by show 3 ≤ sizeLine; decide, fun pw hpw => ?_⟩
    have tw : Td (wo [u] _) (.ref pw) (.list [.bool true, .bool b4, .bool (!b4)]) := lst_new e19.out hpw (.cons (.bl _) (.cons (.bl _) (.one (.bl _))))
    refine ⟨.ref pg, .ref pw, _, rfl, (tg.mono (wo_upd hpw _)).mono wo_sub, tw.mono wo_sub, ⟨by show 3 ≤ 1000; decide, fun e he => ?_⟩, fun H20 s20 => q H20⟩
    rcases List.mem_cons.mp he with z | he
    · rw [z]; rfl
    rcases List.mem_cons.mp he with z | he
    · rw [z]; rfl
    · rw [List.mem_singleton.mp he]; rfl
end
end K2
/-! K2L10: law -/
namespace K2
open PySem PySem.Spec PyProof.Rows L2
def spLaw (K : PySem.W.Frag) : Sp := fun vs H Q _ => ∃ (a : Addr) (ns : List Int), vs = [.ref a] ∧ SqL K H a (ns.map V.int) ∧ ns.length ≤ 63 ∧ ∀ H', Q (.bl true) H'
section
variable {P : Program} {w : World} {K : PySem.W.Frag} {mg : Str → Option Value} {base : Heap} {f : Addr} {fd : FuncData} {f1 f2 f3 f4 : Addr} {d1 d2 d3 d4 : FuncData}
theorem ok_law (F : Fun K "law" "law" s_law f fd) (C1 : Cal P w K mg base CX0 7 "_law_by_hand_right" [] spHand f1 d1) (C2 : Cal P w K mg base CX0 7 "_law_right" ["_law_tin"] spRight f2 d2)
    (C3 : Cal P w K mg base CX0 1 "_law_box" ["_law_script", "_law_k"] spBox f3 d3) (C4 : Cal P w K mg base CX0 1 "_law_cells" ["_law_script", "_law_top"] (spCells K) f4 d4) : FnOk P w K mg base CX0 8 f fd ["_law_script"] (spLaw K) := by
  refine F.ok sc_law (fun vs H Q E h => ?_) (fun cdv A outer s H vs Q E hr h => ?_)
  · obtain ⟨a, ns, rfl, _⟩ := h
    rfl
  obtain ⟨a, ns, rfl, hS, hl, q⟩ := h
  have r1 : Room 1 _ := hr.mono (by decide)
  refine ⟨_, pss_cons (ps_if (pt_not (pt_val (pe_call0 C1.ok hr (by rfl) C1.g C1.kp C1.b .nil pass0))) (pss_one (ps_ret pe_bl)) pss_nil)
    (pss_one (ps_ret (pcall C2 hr pass0 (pa_cons (pcall C3 r1 pass0 (pa_cons (pcall C4 r1 pass0 (pa_cons (pv 0) (pa_cons pe_int pa_nil))) (pa_cons pe_int pa_nil))) pa_nil)))), ?_⟩
  refine ⟨rfl, fun H1 s1 => ⟨true, rfl, ite_no rfl ?_⟩⟩
  refine ⟨.ref a, rfl, a, ns, rfl, s1.seq hS, hl, fun p c H2 hp => ?_⟩
  exact ⟨p, c, rfl, hp, fun u o hu hU => ⟨u, o, rfl, upd_same, hU, q⟩⟩
end
end K2
/-! K2E: the top -/
namespace K2
open PySem PySem.Spec PyProof.Rows L2
theorem exm_is {K : PySem.W.Frag} {C D : Addr} {b : Bool} (h1 : PySem.W.subIn K (.ref D) (.type "BaseException") = some true) (h2 : PySem.W.isClsIn K D = true) (h3 : PySem.W.typeIn K (.ref D) = some (.type "type")) (h4 : PySem.W.subIn K (.ref C) (.ref D) = some b) :
    PySem.W.exmOne K (.ref C) (.ref D) = some b := by
  have e1 : (PySem.W.subIn K (.ref D) (.type "BaseException") == some true) = true := by rw [h1] <;> rfl
  have e2 : ((PySem.W.clsIn K D).isSome && PySem.W.typeIn K (.ref D) == some (.type "type")) = true := by
    have h2' : (PySem.W.clsIn K D).isSome = true := h2
    rw [h2', h3] <;> rfl
  show (if (PySem.W.subIn K (.ref D) (.type "BaseException") == some true) = true then (if ((PySem.W.clsIn K D).isSome && PySem.W.typeIn K (.ref D) == some (.type "type")) = true then PySem.W.subIn K (.ref C) (.ref D) else none) else none) = some b
  rw [if_pos e1, if_pos e2]
  exact h4
theorem kit_is {K : PySem.W.Frag} {C : Addr} {T : String} (m : PySem.W.kitMeta T = true) (h : PySem.W.subIn K (.ref C) (.type T) = some true) : PySem.W.kitOne K (.ref C) (.type T) = some true := by
  have e : ((Value.ref C) == (Value.type T)) = false := rfl
  show (if ((Value.ref C) == (Value.type T)) = true then some true else (if PySem.W.kitMeta T = true then PySem.W.subIn K (.ref C) (.type T) else none)) = some true
  rw [e, if_pos m]
  exact h
/-- the def x stands at the top as the text says -/
def TopF (K : PySem.W.Frag) (x : Str) (st : Stmt) : Prop := ∃ f fd, PySem.W.nsIn K mainGlobals x = some (some (.ref f)) ∧ Fun K x x st f fd
theorem topF {K : PySem.W.Frag} {x : Str} {st : Stmt} {f : Addr} {oc : Value} {od an : Option Addr} {osl : Array (Option Value)} {kV doc pm cdv ct : Value} (a : PySem.W.nsIn K mainGlobals x = some (some (.ref f)))
    (l : K.lookup f = some ⟨oc, od, .func (PySem.W.fnOf x x (defArgs st) (defBody st) (defScope st) .none kV doc pm an cdv ct), osl⟩) (c : PySem.W.codeIn K cdv x = true) (k : PySem.W.keepIn K (.ref f) = true) : TopF K x st := ⟨_, _, a, fun_mk l c k⟩
/-- the class Unfit as the text says -/
structure UfIn (K : PySem.W.Frag) (C : Addr) : Prop where
  ei : PySem.W.excIn K C [.type "ValueError", .type "Exception", .type "BaseException", .type "object"] "ValueError.__new__" = true
  kC : PySem.W.keepIn K (.ref C) = true
  exC : PySem.W.subIn K (.ref C) (.type "BaseException") = some true
  tyC : PySem.W.typeIn K (.ref C) = some (.type "type")
  isC : PySem.W.isClsIn K C = true
  sC : PySem.W.subIn K (.ref C) (.ref C) = some true
  sV : PySem.W.subIn K (.ref C) (.type "ValueError") = some true
  ec : ExcC K C
/-- the class NoPlace as the text says, its __init__ at fI -/
structure NpIn (K : PySem.W.Frag) (C fI : Addr) : Prop where
  ei : PySem.W.excInitIn K C leTail "LookupError.__new__" = true
  eo : PySem.W.excOver K C leTail = true
  hd : PySem.W.hasDictIn K C = true
  sa : PySem.W.findIn K (.ref C) "__setattr__" = some (some (.builtin "object.__setattr__"))
  ga : PySem.W.findIn K (.ref C) "__getattribute__" = some (some (.builtin "BaseException.__getattribute__"))
  gg : PySem.W.findIn K (.ref C) "__getattr__" = some none
  noN : PySem.W.findIn K (.ref C) "place" = some none
  tk : PySem.W.takerIn K C "place" = some none
  iC : PySem.W.findIn K (.ref C) "__init__" = some (some (.ref fI))
  tI : PySem.W.typeIn K (.ref fI) = some (.type "function")
  kC : PySem.W.keepIn K (.ref C) = true
  exC : PySem.W.subIn K (.ref C) (.type "BaseException") = some true
  tyC : PySem.W.typeIn K (.ref C) = some (.type "type")
  isC : PySem.W.isClsIn K C = true
  sC : PySem.W.subIn K (.ref C) (.ref C) = some true
  fn : ∃ fd, Fun K "__init__" "NoPlace.__init__" s_init fI fd
theorem initF {K : PySem.W.Frag} {f : Addr} {oc : Value} {od an : Option Addr} {osl : Array (Option Value)} {kV doc pm cdv ct : Value}
    (l : K.lookup f = some ⟨oc, od, .func (PySem.W.fnOf "__init__" "NoPlace.__init__" (defArgs s_init) (defBody s_init) (defScope s_init) .none kV doc pm an cdv ct), osl⟩) (c : PySem.W.codeIn K cdv "NoPlace.__init__" = true) (k : PySem.W.keepIn K (.ref f) = true) : ∃ fd, Fun K "__init__" "NoPlace.__init__" s_init f fd := ⟨_, fun_mk l c k⟩

set_option maxHeartbeats 0 in
theorem all_mk {P : Program} {w : World} {K : PySem.W.Frag} {h : Heap} {mg : Str → Option Value} {fa CU CN fI : Addr} (X : K.In h) (G : h.Ns mainGlobals mg) (hfa : mg "law" = some (.ref fa))
    (aU : PySem.W.nsIn K mainGlobals "Unfit" = some (some (.ref CU))) (U0 : UfIn K CU) (aN : PySem.W.nsIn K mainGlobals "NoPlace" = some (some (.ref CN))) (T0 : NpIn K CN fI) (sNU : PySem.W.subIn K (.ref CN) (.ref CU) = some false)
    (y_isinstance : PySem.W.nsIn K mainGlobals "isinstance" = some none)
    (y_list : PySem.W.nsIn K mainGlobals "list" = some none)
    (y_tuple : PySem.W.nsIn K mainGlobals "tuple" = some none)
    (y_len : PySem.W.nsIn K mainGlobals "len" = some none)
    (y_zip : PySem.W.nsIn K mainGlobals "zip" = some none)
    (y_max : PySem.W.nsIn K mainGlobals "max" = some none)
    (y_min : PySem.W.nsIn K mainGlobals "min" = some none)
    (y_enumerate : PySem.W.nsIn K mainGlobals "enumerate" = some none)
    (y_abs : PySem.W.nsIn K mainGlobals "abs" = some none)
    (y_int : PySem.W.nsIn K mainGlobals "int" = some none)
    (y_all : PySem.W.nsIn K mainGlobals "all" = some none)
    (y_bool : PySem.W.nsIn K mainGlobals "bool" = some none)
    (y_str : PySem.W.nsIn K mainGlobals "str" = some none)
    (y_range : PySem.W.nsIn K mainGlobals "range" = some none)
    (y_ValueError : PySem.W.nsIn K mainGlobals "ValueError" = some none)
    (t_tuple_of : TopF K "tuple_of" s_tuple_of)
    (t_is_sound_in : TopF K "is_sound_in" s_is_sound_in)
    (t_is_sound : TopF K "is_sound" s_is_sound)
    (t_sure_history : TopF K "sure_history" s_sure_history)
    (t_puts : TopF K "puts" s_puts)
    (t_outs : TopF K "outs" s_outs)
    (t_behind : TopF K "behind" s_behind)
    (t_standings_in : TopF K "standings_in" s_standings_in)
    (t_standings : TopF K "standings" s_standings)
    (t_stands : TopF K "stands" s_stands)
    (t_gone_in : TopF K "gone_in" s_gone_in)
    (t_letters_out : TopF K "letters_out" s_letters_out)
    (t_seen_in : TopF K "seen_in" s_seen_in)
    (t_seen : TopF K "seen" s_seen)
    (t_heard_along : TopF K "heard_along" s_heard_along)
    (t__law_box : TopF K "_law_box" s__law_box)
    (t__law_take : TopF K "_law_take" s__law_take)
    (t__law_cells : TopF K "_law_cells" s__law_cells)
    (t__law_same : TopF K "_law_same" s__law_same)
    (t__law_lists : TopF K "_law_lists" s__law_lists)
    (t__law_is_sound : TopF K "_law_is_sound" s__law_is_sound)
    (t__law_rows : TopF K "_law_rows" s__law_rows)
    (t__law_seen : TopF K "_law_seen" s__law_seen)
    (t__law_heard : TopF K "_law_heard" s__law_heard)
    (t__law_history : TopF K "_law_history" s__law_history)
    (t__law_telling : TopF K "_law_telling" s__law_telling)
    (t__law_told : TopF K "_law_told" s__law_told)
    (t__law_by_hand_right : TopF K "_law_by_hand_right" s__law_by_hand_right)
    (t__law_right : TopF K "_law_right" s__law_right)
    (t_law : TopF K "law" s_law) :
    ∃ fd : FuncData, (∀ (s : Shared) (u : Value), BindsTo s fd ⟨[u], []⟩ [("_law_script", u)]) ∧ ∀ base : Heap, K.In base → base.Ns mainGlobals mg → FnOk P w K mg base CX0 8 fa fd ["_law_script"] (spLaw K) := by
  have z_isinstance := PySem.W.mg_none_of X G y_isinstance
  have z_list := PySem.W.mg_none_of X G y_list
  have z_tuple := PySem.W.mg_none_of X G y_tuple
  have z_len := PySem.W.mg_none_of X G y_len
  have z_zip := PySem.W.mg_none_of X G y_zip
  have z_max := PySem.W.mg_none_of X G y_max
  have z_min := PySem.W.mg_none_of X G y_min
  have z_enumerate := PySem.W.mg_none_of X G y_enumerate
  have z_abs := PySem.W.mg_none_of X G y_abs
  have z_int := PySem.W.mg_none_of X G y_int
  have z_all := PySem.W.mg_none_of X G y_all
  have z_bool := PySem.W.mg_none_of X G y_bool
  have z_str := PySem.W.mg_none_of X G y_str
  have z_range := PySem.W.mg_none_of X G y_range
  have z_ValueError := PySem.W.mg_none_of X G y_ValueError
  have U : UfTxt K mg CU := ⟨PySem.W.mg_of X G aU, U0.ei, U0.kC, U0.exC, U0.tyC, exm_is U0.exC U0.isC U0.tyC U0.sC, kit_is (by decide) U0.sV, U0.ec⟩
  have T : NpTxt K mg CN fI := ⟨PySem.W.mg_of X G aN, T0.ei, T0.eo, T0.hd, T0.sa, T0.ga, T0.gg, T0.noN, T0.tk, T0.iC, T0.tI, T0.kC, T0.exC, T0.tyC, exm_is T0.exC T0.isC T0.tyC T0.sC, T0.fn⟩
  have no : PySem.W.exmOne K (.ref CN) (.ref CU) = some false := exm_is U0.exC U0.isC U0.tyC sNU
  obtain ⟨fl, fdl, al, Fl⟩ := t_law
  have e := hfa.symm.trans (PySem.W.mg_of X G al)
  cases e
  refine ⟨fdl, ?_, fun base _ _ => ?_⟩
  · obtain ⟨oc, od, kV, doc, pm, an, cdv, ct, osl, rfl, lk, hcd⟩ := Fl.ex
    exact fun s u => .of_eq rfl
  obtain ⟨f_tuple_of, fd_tuple_of, C_tuple_of⟩ : ∃ f fd, Cal P w K mg base CX0 3 "tuple_of" ["thing"] (spTup 2) f fd := by
    obtain ⟨f, fd, a, F⟩ := t_tuple_of
    have b : Binds K fd ["thing"] [] := F.binds (ps := ["thing"]) fun _ _ _ _ _ _ us hl => match us, hl with | [_], _ => rfl
    exact ⟨f, fd, ok_tuple_of F b (PySem.W.mg_of X G a) z_isinstance z_list z_tuple 2, b, PySem.W.mg_of X G a, F.kp⟩
  obtain ⟨f_is_sound_in, fd_is_sound_in, C_is_sound_in⟩ : ∃ f fd, Cal P w K mg base CX0 1 "is_sound_in" ["history"] spSoundIn f fd := by
    obtain ⟨f, fd, a, F⟩ := t_is_sound_in
    have b : Binds K fd ["history"] [] := F.binds (ps := ["history"]) fun _ _ _ _ _ _ us hl => match us, hl with | [_], _ => rfl
    exact ⟨f, fd, ok_is_sound_in F, b, PySem.W.mg_of X G a, F.kp⟩
  obtain ⟨f_is_sound, fd_is_sound, C_is_sound⟩ : ∃ f fd, Cal P w K mg base CX0 4 "is_sound" ["history"] spSound f fd := by
    obtain ⟨f, fd, a, F⟩ := t_is_sound
    have b : Binds K fd ["history"] [] := F.binds (ps := ["history"]) fun _ _ _ _ _ _ us hl => match us, hl with | [_], _ => rfl
    exact ⟨f, fd, ok_is_sound F C_tuple_of C_is_sound_in, b, PySem.W.mg_of X G a, F.kp⟩
  obtain ⟨f_sure_history, fd_sure_history, C_sure_history⟩ : ∃ f fd, Cal P w K mg base (L2.CX P w) 4 "sure_history" ["history"] (spSure CU) f fd := by
    obtain ⟨f, fd, a, F⟩ := t_sure_history
    have b : Binds K fd ["history"] [] := F.binds (ps := ["history"]) fun _ _ _ _ _ _ us hl => match us, hl with | [_], _ => rfl
    exact ⟨f, fd, ok_sure_history F U C_tuple_of C_is_sound_in, b, PySem.W.mg_of X G a, F.kp⟩
  obtain ⟨f_puts, fd_puts, C_puts⟩ : ∃ f fd, Cal P w K mg base CX0 1 "puts" ["word"] spPuts f fd := by
    obtain ⟨f, fd, a, F⟩ := t_puts
    have b : Binds K fd ["word"] [] := F.binds (ps := ["word"]) fun _ _ _ _ _ _ us hl => match us, hl with | [_], _ => rfl
    exact ⟨f, fd, ok_puts F z_tuple, b, PySem.W.mg_of X G a, F.kp⟩
  obtain ⟨f_outs, fd_outs, C_outs⟩ : ∃ f fd, Cal P w K mg base CX0 1 "outs" ["many"] spOuts f fd := by
    obtain ⟨f, fd, a, F⟩ := t_outs
    have b : Binds K fd ["many"] [] := F.binds (ps := ["many"]) fun _ _ _ _ _ _ us hl => match us, hl with | [_], _ => rfl
    exact ⟨f, fd, ok_outs F, b, PySem.W.mg_of X G a, F.kp⟩
  obtain ⟨f_behind, fd_behind, C_behind⟩ : ∃ f fd, Cal P w K mg base CX0 1 "behind" ["mode", "word", "deed"] spBehind f fd := by
    obtain ⟨f, fd, a, F⟩ := t_behind
    have b : Binds K fd ["mode", "word", "deed"] [] := F.binds (ps := ["mode", "word", "deed"]) fun _ _ _ _ _ _ us hl => match us, hl with | [_, _, _], _ => rfl
    exact ⟨f, fd, ok_behind F, b, PySem.W.mg_of X G a, F.kp⟩
  obtain ⟨f_standings_in, fd_standings_in, C_standings_in⟩ : ∃ f fd, Cal P w K mg base CX0 2 "standings_in" ["mode", "history"] spStandIn f fd := by
    obtain ⟨f, fd, a, F⟩ := t_standings_in
    have b : Binds K fd ["mode", "history"] [] := F.binds (ps := ["mode", "history"]) fun _ _ _ _ _ _ us hl => match us, hl with | [_, _], _ => rfl
    exact ⟨f, fd, ok_standings_in F C_behind, b, PySem.W.mg_of X G a, F.kp⟩
  obtain ⟨f_standings, fd_standings, C_standings⟩ : ∃ f fd, Cal P w K mg base CX0 5 "standings" ["mode", "history"] (spStandings CU) f fd := by
    obtain ⟨f, fd, a, F⟩ := t_standings
    have b : Binds K fd ["mode", "history"] [] := F.binds (ps := ["mode", "history"]) fun _ _ _ _ _ _ us hl => match us, hl with | [_, _], _ => rfl
    exact ⟨f, fd, ok_standings F C_standings_in C_sure_history, b, PySem.W.mg_of X G a, F.kp⟩
  obtain ⟨f_stands, fd_stands, C_stands⟩ : ∃ f fd, Cal P w K mg base CX0 6 "stands" ["mode", "history"] spStands f fd := by
    obtain ⟨f, fd, a, F⟩ := t_stands
    have b : Binds K fd ["mode", "history"] [] := F.binds (ps := ["mode", "history"]) fun _ _ _ _ _ _ us hl => match us, hl with | [_, _], _ => rfl
    exact ⟨f, fd, ok_stands F C_standings, b, PySem.W.mg_of X G a, F.kp⟩
  obtain ⟨f_gone_in, fd_gone_in, C_gone_in⟩ : ∃ f fd, Cal P w K mg base CX0 1 "gone_in" ["mode", "word"] spGone f fd := by
    obtain ⟨f, fd, a, F⟩ := t_gone_in
    have b : Binds K fd ["mode", "word"] [] := F.binds (ps := ["mode", "word"]) fun _ _ _ _ _ _ us hl => match us, hl with | [_, _], _ => rfl
    exact ⟨f, fd, ok_gone_in F, b, PySem.W.mg_of X G a, F.kp⟩
  obtain ⟨f_letters_out, fd_letters_out, C_letters_out⟩ : ∃ f fd, Cal P w K mg base CX0 5 "letters_out" ["mode", "history"] spLettersOut f fd := by
    obtain ⟨f, fd, a, F⟩ := t_letters_out
    have b : Binds K fd ["mode", "history"] [] := F.binds (ps := ["mode", "history"]) fun _ _ _ _ _ _ us hl => match us, hl with | [_, _], _ => rfl
    exact ⟨f, fd, ok_letters_out F z_tuple z_zip C_standings_in C_sure_history C_gone_in, b, PySem.W.mg_of X G a, F.kp⟩
  obtain ⟨f_seen_in, fd_seen_in, C_seen_in⟩ : ∃ f fd, Cal P w K mg base CX0 1 "seen_in" ["mode", "word", "shown"] spSeenIn f fd := by
    obtain ⟨f, fd, a, F⟩ := t_seen_in
    have b : Binds K fd ["mode", "word", "shown"] [] := F.binds (ps := ["mode", "word", "shown"]) fun _ _ _ _ _ _ us hl => match us, hl with | [_, _, _], _ => rfl
    exact ⟨f, fd, ok_seen_in F z_max z_len, b, PySem.W.mg_of X G a, F.kp⟩
  obtain ⟨f_seen, fd_seen, C_seen⟩ : ∃ f fd, Cal P w K mg base CX0 4 "seen" ["mode", "word", "shown"] spSeen f fd := by
    obtain ⟨f, fd, a, F⟩ := t_seen
    have b : Binds K fd ["mode", "word", "shown"] [] := F.binds (ps := ["mode", "word", "shown"]) fun _ _ _ _ _ _ us hl => match us, hl with | [_, _, _], _ => rfl
    exact ⟨f, fd, ok_seen F C_seen_in C_tuple_of, b, PySem.W.mg_of X G a, F.kp⟩
  obtain ⟨f_heard_along, fd_heard_along, C_heard_along⟩ : ∃ f fd, Cal P w K mg base (L2.CX P w) 5 "heard_along" ["mode", "shown", "telling", "history"] (spHeard CU CN) f fd := by
    obtain ⟨f, fd, a, F⟩ := t_heard_along
    have b : Binds K fd ["mode", "shown", "telling", "history"] [] := F.binds (ps := ["mode", "shown", "telling", "history"]) fun _ _ _ _ _ _ us hl => match us, hl with | [_, _, _, _], _ => rfl
    exact ⟨f, fd, ok_heard_along F z_len z_enumerate T C_sure_history C_tuple_of C_standings_in C_gone_in C_seen_in, b, PySem.W.mg_of X G a, F.kp⟩
  obtain ⟨f__law_box, fd__law_box, C__law_box⟩ : ∃ f fd, Cal P w K mg base CX0 1 "_law_box" ["_law_script", "_law_k"] spBox f fd := by
    obtain ⟨f, fd, a, F⟩ := t__law_box
    have b : Binds K fd ["_law_script", "_law_k"] [] := F.binds (ps := ["_law_script", "_law_k"]) fun _ _ _ _ _ _ us hl => match us, hl with | [_, _], _ => rfl
    exact ⟨f, fd, ok_law_box F z_len z_abs z_int, b, PySem.W.mg_of X G a, F.kp⟩
  obtain ⟨f__law_take, fd__law_take, C__law_take⟩ : ∃ f fd, Cal P w K mg base CX0 1 "_law_take" ["_law_urn", "_law_low_so"] spTake f fd := by
    obtain ⟨f, fd, a, F⟩ := t__law_take
    have b : Binds K fd ["_law_urn", "_law_low_so"] [] := F.binds (ps := ["_law_urn", "_law_low_so"]) fun _ _ _ _ _ _ us hl => match us, hl with | [_, _], _ => rfl
    exact ⟨f, fd, ok_law_take F z_int, b, PySem.W.mg_of X G a, F.kp⟩
  obtain ⟨f__law_cells, fd__law_cells, C__law_cells⟩ : ∃ f fd, Cal P w K mg base CX0 1 "_law_cells" ["_law_script", "_law_top"] (spCells K) f fd := by
    obtain ⟨f, fd, a, F⟩ := t__law_cells
    have b : Binds K fd ["_law_script", "_law_top"] [] := F.binds (ps := ["_law_script", "_law_top"]) fun _ _ _ _ _ _ us hl => match us, hl with | [_, _], _ => rfl
    exact ⟨f, fd, ok_law_cells F z_list z_enumerate z_int, b, PySem.W.mg_of X G a, F.kp⟩
  obtain ⟨f__law_same, fd__law_same, C__law_same⟩ : ∃ f fd, Cal P w K mg base CX0 5 "_law_same" ["_law_got", "_law_goal"] (spSame 4) f fd := by
    obtain ⟨f, fd, a, F⟩ := t__law_same
    have b : Binds K fd ["_law_got", "_law_goal"] [] := F.binds (ps := ["_law_got", "_law_goal"]) fun _ _ _ _ _ _ us hl => match us, hl with | [_, _], _ => rfl
    exact ⟨f, fd, ok_law_same F b (PySem.W.mg_of X G a) ⟨z_isinstance, z_list, z_tuple, z_len, z_all, z_zip, z_bool, z_str, z_int⟩ 4, b, PySem.W.mg_of X G a, F.kp⟩
  obtain ⟨f__law_lists, fd__law_lists, C__law_lists⟩ : ∃ f fd, Cal P w K mg base CX0 3 "_law_lists" ["_law_matter"] (spLst 2) f fd := by
    obtain ⟨f, fd, a, F⟩ := t__law_lists
    have b : Binds K fd ["_law_matter"] [] := F.binds (ps := ["_law_matter"]) fun _ _ _ _ _ _ us hl => match us, hl with | [_], _ => rfl
    exact ⟨f, fd, ok_law_lists F b (PySem.W.mg_of X G a) z_isinstance z_list z_tuple 2, b, PySem.W.mg_of X G a, F.kp⟩
  obtain ⟨f__law_is_sound, fd__law_is_sound, C__law_is_sound⟩ : ∃ f fd, Cal P w K mg base CX0 1 "_law_is_sound" ["_law_history_here"] spLawSound f fd := by
    obtain ⟨f, fd, a, F⟩ := t__law_is_sound
    have b : Binds K fd ["_law_history_here"] [] := F.binds (ps := ["_law_history_here"]) fun _ _ _ _ _ _ us hl => match us, hl with | [_], _ => rfl
    exact ⟨f, fd, ok_law_is_sound F, b, PySem.W.mg_of X G a, F.kp⟩
  obtain ⟨f__law_rows, fd__law_rows, C__law_rows⟩ : ∃ f fd, Cal P w K mg base CX0 1 "_law_rows" ["_law_mode", "_law_history_here"] spLawRows f fd := by
    obtain ⟨f, fd, a, F⟩ := t__law_rows
    have b : Binds K fd ["_law_mode", "_law_history_here"] [] := F.binds (ps := ["_law_mode", "_law_history_here"]) fun _ _ _ _ _ _ us hl => match us, hl with | [_, _], _ => rfl
    exact ⟨f, fd, ok_law_rows F z_len z_tuple, b, PySem.W.mg_of X G a, F.kp⟩
  obtain ⟨f__law_seen, fd__law_seen, C__law_seen⟩ : ∃ f fd, Cal P w K mg base CX0 1 "_law_seen" ["_law_mode", "_law_word", "_law_shown"] spLawSeen f fd := by
    obtain ⟨f, fd, a, F⟩ := t__law_seen
    have b : Binds K fd ["_law_mode", "_law_word", "_law_shown"] [] := F.binds (ps := ["_law_mode", "_law_word", "_law_shown"]) fun _ _ _ _ _ _ us hl => match us, hl with | [_, _, _], _ => rfl
    exact ⟨f, fd, ok_law_seen F z_min z_len, b, PySem.W.mg_of X G a, F.kp⟩
  obtain ⟨f__law_heard, fd__law_heard, C__law_heard⟩ : ∃ f fd, Cal P w K mg base CX0 2 "_law_heard" ["_law_mode", "_law_shown", "_law_telling_here", "_law_history_here"] spLawHeard f fd := by
    obtain ⟨f, fd, a, F⟩ := t__law_heard
    have b : Binds K fd ["_law_mode", "_law_shown", "_law_telling_here", "_law_history_here"] [] := F.binds (ps := ["_law_mode", "_law_shown", "_law_telling_here", "_law_history_here"]) fun _ _ _ _ _ _ us hl => match us, hl with | [_, _, _, _], _ => rfl
    exact ⟨f, fd, ok_law_heard F z_enumerate C__law_rows C__law_seen, b, PySem.W.mg_of X G a, F.kp⟩
  obtain ⟨f__law_history, fd__law_history, C__law_history⟩ : ∃ f fd, Cal P w K mg base CX0 2 "_law_history" ["_law_tin", "_law_letters", "_law_most"] spHistory f fd := by
    obtain ⟨f, fd, a, F⟩ := t__law_history
    have b : Binds K fd ["_law_tin", "_law_letters", "_law_most"] [] := F.binds (ps := ["_law_tin", "_law_letters", "_law_most"]) fun _ _ _ _ _ _ us hl => match us, hl with | [_, _, _], _ => rfl
    exact ⟨f, fd, ok_law_history F z_range z_tuple C__law_take, b, PySem.W.mg_of X G a, F.kp⟩
  obtain ⟨f__law_telling, fd__law_telling, C__law_telling⟩ : ∃ f fd, Cal P w K mg base CX0 2 "_law_telling" ["_law_tin", "_law_letters"] spTelling f fd := by
    obtain ⟨f, fd, a, F⟩ := t__law_telling
    have b : Binds K fd ["_law_tin", "_law_letters"] [] := F.binds (ps := ["_law_tin", "_law_letters"]) fun _ _ _ _ _ _ us hl => match us, hl with | [_, _], _ => rfl
    exact ⟨f, fd, ok_law_telling F z_range z_tuple z_max C__law_take, b, PySem.W.mg_of X G a, F.kp⟩
  obtain ⟨f__law_told, fd__law_told, C__law_told⟩ : ∃ f fd, Cal P w K mg base CX0 6 "_law_told" ["_law_mode", "_law_shown", "_law_telling_here", "_law_history_here"] spLawTold f fd := by
    obtain ⟨f, fd, a, F⟩ := t__law_told
    have b : Binds K fd ["_law_mode", "_law_shown", "_law_telling_here", "_law_history_here"] [] := F.binds (ps := ["_law_mode", "_law_shown", "_law_telling_here", "_law_history_here"]) fun _ _ _ _ _ _ us hl => match us, hl with | [_, _, _, _], _ => rfl
    exact ⟨f, fd, ok_law_told F z_isinstance z_ValueError U T no C_heard_along, b, PySem.W.mg_of X G a, F.kp⟩
  obtain ⟨f__law_by_hand_right, fd__law_by_hand_right, C__law_by_hand_right⟩ : ∃ f fd, Cal P w K mg base CX0 7 "_law_by_hand_right" [] spHand f fd := by
    obtain ⟨f, fd, a, F⟩ := t__law_by_hand_right
    have b : Binds K fd [] [] := F.binds (ps := []) fun _ _ _ _ _ _ us hl => match us, hl with | [], _ => rfl
    exact ⟨f, fd, ok_law_by_hand_right F C_stands C_letters_out C_seen C__law_told C__law_same, b, PySem.W.mg_of X G a, F.kp⟩
  obtain ⟨f__law_right, fd__law_right, C__law_right⟩ : ∃ f fd, Cal P w K mg base CX0 7 "_law_right" ["_law_tin"] spRight f fd := by
    obtain ⟨f, fd, a, F⟩ := t__law_right
    have b : Binds K fd ["_law_tin"] [] := F.binds (ps := ["_law_tin"]) fun _ _ _ _ _ _ us hl => match us, hl with | [_], _ => rfl
    exact ⟨f, fd, ok_law_right F ⟨⟨_, _, C__law_take⟩, ⟨_, _, C__law_history⟩, ⟨_, _, C__law_telling⟩, ⟨_, _, C__law_rows⟩, ⟨_, _, _, C_standings⟩, ⟨_, _, C__law_lists⟩, ⟨_, _, C_stands⟩, ⟨_, _, C_letters_out⟩, ⟨_, _, C_seen⟩, ⟨_, _, C__law_same⟩, ⟨_, _, C__law_seen⟩, ⟨_, _, C__law_told⟩, ⟨_, _, C__law_heard⟩, ⟨_, _, C_puts⟩, ⟨_, _, C_outs⟩, ⟨_, _, C_is_sound⟩, ⟨_, _, C__law_is_sound⟩, z_len⟩, b, PySem.W.mg_of X G a, F.kp⟩
  exact ok_law Fl C__law_by_hand_right C__law_right C__law_box C__law_cells
end K2
open PySem PySem.W PyProof.Rows
set_option maxHeartbeats 0 in
theorem PySem.Challenge.cw_gonetold_k02_whole_what_stands_and_is_he_holds : PySem.Challenge.rw_gonetold_k02_whole_what_stands_and_is_he.Holds := by
  w_on; o_law; k_head; (case hw => w_witness2)
  k_fill
  refine L2.walk_ofK (l := PySem.Challenge.rw_gonetold_k02_whole_what_stands_and_is_he) (n := 63) (k := 8) (x := "_law_script") (CX := L2.CX0) (sp := K2.spLaw) rfl (by decide) rfl ⟨rfl, by decide, by decide⟩ (fun w h Y => PySem.W.kIn_of Y) ?F (fun _ _ a ns hl _ hS => ⟨a, ns, rfl, hS, hl, fun _ => rfl⟩) fun _ _ _ _ z => z
  case F =>
    intro w mg fa h KX G hmg
    refine' K2.all_mk KX G hmg ?aU ?U0 ?aN ?T0 ?sNU ?y_isinstance ?y_list ?y_tuple ?y_len ?y_zip ?y_max ?y_min ?y_enumerate ?y_abs ?y_int ?y_all ?y_bool ?y_str ?y_range ?y_ValueError ?t_tuple_of ?t_is_sound_in ?t_is_sound ?t_sure_history ?t_puts ?t_outs ?t_behind ?t_standings_in ?t_standings ?t_stands ?t_gone_in ?t_letters_out ?t_seen_in ?t_seen ?t_heard_along ?t__law_box ?t__law_take ?t__law_cells ?t__law_same ?t__law_lists ?t__law_is_sound ?t__law_rows ?t__law_seen ?t__law_heard ?t__law_history ?t__law_telling ?t__law_told ?t__law_by_hand_right ?t__law_right ?t_law
    (case aU => k_is); (case aN => k_is); (case sNU => k_is)
    case U0 =>
      refine' ⟨?ei, ?kC, ?exC, ?tyC, ?isC, ?sC, ?sV, ⟨?hg, ?hk, ?hs, ?hd, ?ha, ?hn, ?ht, ?hm⟩⟩
      (case ei => k_exc); (case kC => k_is); (case exC => k_is); (case tyC => k_is); (case isC => k_is); (case sC => k_is); (case sV => k_is); (case hg => k_is); (case hk => k_is); (case hs => k_is); (case hd => k_is); (case ha => k_is); (case hn => k_is); (case ht => k_is); (case hm => k_is)
    case T0 =>
      refine' ⟨?ei, ?eo, ?hd, ?sa, ?ga, ?gg, ?noN, ?tk, ?iC, ?tI, ?kC, ?exC, ?tyC, ?isC, ?sC, ?fn⟩
      (case iC => k_is); (case ei => kernel_rfl); (case eo => kernel_rfl); (case hd => k_is); (case sa => k_is); (case ga => k_is); (case gg => k_is); (case noN => k_is); (case tk => k_is); (case tI => k_is); (case kC => k_is); (case exC => k_is); (case tyC => k_is); (case isC => k_is); (case sC => k_is)
      (case fn => refine' K2.initF ?l ?c ?k; (case l => k_is); (case c => k_is); (case k => k_is))
    (case y_isinstance => k_is); (case y_list => k_is); (case y_tuple => k_is); (case y_len => k_is); (case y_zip => k_is); (case y_max => k_is); (case y_min => k_is); (case y_enumerate => k_is); (case y_abs => k_is); (case y_int => k_is); (case y_all => k_is); (case y_bool => k_is); (case y_str => k_is); (case y_range => k_is); (case y_ValueError => k_is)
    (case t_tuple_of => refine' K2.topF ?a ?l ?c ?k; (case a => k_is); (case l => k_is); (case c => k_is); (case k => k_is))
    (case t_is_sound_in => refine' K2.topF ?a ?l ?c ?k; (case a => k_is); (case l => k_is); (case c => k_is); (case k => k_is))
    (case t_is_sound => refine' K2.topF ?a ?l ?c ?k; (case a => k_is); (case l => k_is); (case c => k_is); (case k => k_is))
    (case t_sure_history => refine' K2.topF ?a ?l ?c ?k; (case a => k_is); (case l => k_is); (case c => k_is); (case k => k_is))
    (case t_puts => refine' K2.topF ?a ?l ?c ?k; (case a => k_is); (case l => k_is); (case c => k_is); (case k => k_is))
    (case t_outs => refine' K2.topF ?a ?l ?c ?k; (case a => k_is); (case l => k_is); (case c => k_is); (case k => k_is))
    (case t_behind => refine' K2.topF ?a ?l ?c ?k; (case a => k_is); (case l => k_is); (case c => k_is); (case k => k_is))
    (case t_standings_in => refine' K2.topF ?a ?l ?c ?k; (case a => k_is); (case l => k_is); (case c => k_is); (case k => k_is))
    (case t_standings => refine' K2.topF ?a ?l ?c ?k; (case a => k_is); (case l => k_is); (case c => k_is); (case k => k_is))
    (case t_stands => refine' K2.topF ?a ?l ?c ?k; (case a => k_is); (case l => k_is); (case c => k_is); (case k => k_is))
    (case t_gone_in => refine' K2.topF ?a ?l ?c ?k; (case a => k_is); (case l => k_is); (case c => k_is); (case k => k_is))
    (case t_letters_out => refine' K2.topF ?a ?l ?c ?k; (case a => k_is); (case l => k_is); (case c => k_is); (case k => k_is))
    (case t_seen_in => refine' K2.topF ?a ?l ?c ?k; (case a => k_is); (case l => k_is); (case c => k_is); (case k => k_is))
    (case t_seen => refine' K2.topF ?a ?l ?c ?k; (case a => k_is); (case l => k_is); (case c => k_is); (case k => k_is))
    (case t_heard_along => refine' K2.topF ?a ?l ?c ?k; (case a => k_is); (case l => k_is); (case c => k_is); (case k => k_is))
    (case t__law_box => refine' K2.topF ?a ?l ?c ?k; (case a => k_is); (case l => k_is); (case c => k_is); (case k => k_is))
    (case t__law_take => refine' K2.topF ?a ?l ?c ?k; (case a => k_is); (case l => k_is); (case c => k_is); (case k => k_is))
    (case t__law_cells => refine' K2.topF ?a ?l ?c ?k; (case a => k_is); (case l => k_is); (case c => k_is); (case k => k_is))
    (case t__law_same => refine' K2.topF ?a ?l ?c ?k; (case a => k_is); (case l => k_is); (case c => k_is); (case k => k_is))
    (case t__law_lists => refine' K2.topF ?a ?l ?c ?k; (case a => k_is); (case l => k_is); (case c => k_is); (case k => k_is))
    (case t__law_is_sound => refine' K2.topF ?a ?l ?c ?k; (case a => k_is); (case l => k_is); (case c => k_is); (case k => k_is))
    (case t__law_rows => refine' K2.topF ?a ?l ?c ?k; (case a => k_is); (case l => k_is); (case c => k_is); (case k => k_is))
    (case t__law_seen => refine' K2.topF ?a ?l ?c ?k; (case a => k_is); (case l => k_is); (case c => k_is); (case k => k_is))
    (case t__law_heard => refine' K2.topF ?a ?l ?c ?k; (case a => k_is); (case l => k_is); (case c => k_is); (case k => k_is))
    (case t__law_history => refine' K2.topF ?a ?l ?c ?k; (case a => k_is); (case l => k_is); (case c => k_is); (case k => k_is))
    (case t__law_telling => refine' K2.topF ?a ?l ?c ?k; (case a => k_is); (case l => k_is); (case c => k_is); (case k => k_is))
    (case t__law_told => refine' K2.topF ?a ?l ?c ?k; (case a => k_is); (case l => k_is); (case c => k_is); (case k => k_is))
    (case t__law_by_hand_right => refine' K2.topF ?a ?l ?c ?k; (case a => k_is); (case l => k_is); (case c => k_is); (case k => k_is))
    (case t__law_right => refine' K2.topF ?a ?l ?c ?k; (case a => k_is); (case l => k_is); (case c => k_is); (case k => k_is))
    (case t_law => refine' K2.topF ?a ?l ?c ?k; (case a => k_is); (case l => k_is); (case c => k_is); (case k => k_is))
