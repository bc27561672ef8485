import PyProof.Rows.All
import Wide.All
import OpenK.AllK
import Wide.FinOn
import HandS.ForMost
import HandS.Defaults
import HandS.Exc
import HandS.ExcInit
import HandS.ExcField
import HandS.HeadEnd
import HandS.Head2
import HandS.HeadHook4
import HandS.Evl
import HandS.TupAny
import PySem.Challenge.RW_joinshelf_k92_whole_lines_taken_back
import HandS.Strs
import HandS.TupSets
import HandS.SetFor
import HandS.TryMany
import HandS.SortRule
import HandS.Walk
import HandS.Zip
import KE.GoesEnum
import HandS.ExcOwn
import HandS.Small
import HandS.IsInst
import HandS.Codes
import HandS.StrSplit
import HandS.SetKeys
import HandS.Deep
import HandS.Text
import HandS.Head0
import HandS.Head1
import HandS.HeadHook1
import HandS.HeadHook2
import Lean
set_option Elab.async false
set_option linter.all false
set_option maxRecDepth 100000
set_option maxHeartbeats 0
/-! ### the head's facts, read off a part of the heap whose objects are written out first -/
namespace Hj
open PySem PySem.Spec PyProof.Rows L2 HandSHeadRun
section
variable {α : Type}
def frL {β : Type} (fr : β → (β → α) → α) : List β → (List β → α) → α
  | [], k => k []
  | a :: r, k => fr a fun a => frL fr r fun r => k (a :: r)
theorem frL_eq {β : Type} {fr : β → (β → α) → α} (h : ∀ a k, fr a k = k a) : ∀ (l : List β) (k : List β → α), frL fr l k = k l
  | [], k => rfl
  | a :: r, k => by
    show fr a (fun a => frL fr r fun r => k (a :: r)) = k (a :: r)
    rw [h, frL_eq h r]
def frV (v : Value) (k : Value → α) : α := match v with
  | .ref a => frNat a fun a => k (.ref a)
  | .str x t => k (.str x t)
  | .int i t => k (.int i t)
  | .type n => k (.type n)
  | .builtin n => k (.builtin n)
  | .none => k .none
  | v => k v
theorem frV_eq (v : Value) (k : Value → α) : frV v k = k v := by
  cases v with
  | ref a => exact frNat_eq a fun a => k (.ref a)
  | _ => rfl
def frE (e : DictEntry) (k : DictEntry → α) : α := match e with
  | ⟨h, key, v⟩ => frV key fun key => frV v fun v => k ⟨h, key, v⟩
theorem frE_eq (e : DictEntry) (k : DictEntry → α) : frE e k = k e := by
  obtain ⟨h, key, v⟩ := e
  show (frV key fun key => frV v fun v => k ⟨h, key, v⟩) = _
  rw [frV_eq, frV_eq]
def frD (d : Data) (k : Data → α) : α := match d with
  | .dict es n => frL frE es.toList fun l => k (.dict l.toArray n)
  | .seq its n => frL frV its.toList fun l => k (.seq l.toArray n)
  | .fields vs => frL frV vs.toList fun l => k (.fields l.toArray)
  | .cls cd => (match cd with
    | ⟨nm, bs, mro, ns, qn, hd, sn, sub, ab, col, dl⟩ => frL frV mro fun mro => frNat ns fun ns => k (.cls ⟨nm, bs, mro, ns, qn, hd, sn, sub, ab, col, dl⟩))
  | .func fd => k (.func fd)
  | d => k d
theorem frD_eq (d : Data) (k : Data → α) : frD d k = k d := by
  cases d with
  | dict es n =>
    show (frL frE es.toList fun l => k (.dict l.toArray n)) = _
    rw [frL_eq frE_eq]
  | seq its n =>
    show (frL frV its.toList fun l => k (.seq l.toArray n)) = _
    rw [frL_eq frV_eq]
  | fields vs =>
    show (frL frV vs.toList fun l => k (.fields l.toArray)) = _
    rw [frL_eq frV_eq]
  | cls cd =>
    obtain ⟨nm, bs, mro, ns, qn, hd, sn, sub, ab, col, dl⟩ := cd
    show (frL frV mro fun mro => frNat ns fun ns => k (.cls ⟨nm, bs, mro, ns, qn, hd, sn, sub, ab, col, dl⟩)) = _
    rw [frL_eq frV_eq, frNat_eq]
  | _ => rfl
def frOb (o : Obj) (k : Obj → α) : α := match o with
  | ⟨c, d, dt, sl⟩ => frV c fun c => frD dt fun dt => k ⟨c, d, dt, sl⟩
theorem frOb_eq (o : Obj) (k : Obj → α) : frOb o k = k o := by
  obtain ⟨c, d, dt, sl⟩ := o
  show (frV c fun c => frD dt fun dt => k ⟨c, d, dt, sl⟩) = _
  rw [frV_eq, frD_eq]
/-- the objects at some addresses, written out -/
def layK (g : Addr → Option Obj) : List Addr → (PySem.W.Frag → α) → α
  | [], k => k []
  | a :: r, k => frNat a fun a => match g a with
    | some o => frOb o fun o => layK g r fun K => k ((a, o) :: K)
    | none => layK g r k
theorem layK_eq (g : Addr → Option Obj) : ∀ (as : List Addr) (k : PySem.W.Frag → α), layK g as k = k (He.frG g as)
  | [], k => rfl
  | a :: r, k => by
    show (frNat a fun a => match g a with
      | some o => frOb o fun o => layK g r fun K => k ((a, o) :: K)
      | none => layK g r k) = _
    rw [frNat_eq]
    unfold He.frG
    rw [List.filterMap_cons]
    cases e : g a with
    | none => exact layK_eq g r k
    | some o =>
      show (frOb o fun o => layK g r fun K => k ((a, o) :: K)) = _
      rw [frOb_eq, layK_eq g r]
      rfl
end
/-! ### which objects -/
def refsOf (o : Obj) : List Addr := match o.data with
  | .cls cd => [cd.ns]
  | .func fd => He.refV fd.code
  | .dict es _ => es.toList.flatMap fun e => He.refV e.val
  | _ => []
def refs1 (K : PySem.W.Frag) : List Addr := K.flatMap fun p => refsOf p.2
def gs0 (g : Addr → Option Obj) : PySem.W.Frag := He.frG g [mainGlobals]
def gs1 (g : Addr → Option Obj) : PySem.W.Frag := He.frG g (refs1 (gs0 g))
def gs2 (g : Addr → Option Obj) : PySem.W.Frag := He.frG g (refs1 (gs1 g))
def gs3 (g : Addr → Option Obj) : PySem.W.Frag := He.frG g (refs1 (gs2 g))
def gs4 (g : Addr → Option Obj) : PySem.W.Frag := He.frG g (refs1 (gs3 g))
def gsA (g : Addr → Option Obj) : PySem.W.Frag := gs0 g ++ (gs1 g ++ (gs2 g ++ (gs3 g ++ gs4 g)))
def layA {α : Type} (g : Addr → Option Obj) (k : PySem.W.Frag → α) : α :=
  layK g [mainGlobals] fun K0 => layK g (refs1 K0) fun K1 => layK g (refs1 K1) fun K2 => layK g (refs1 K2) fun K3 => layK g (refs1 K3) fun K4 => k (K0 ++ (K1 ++ (K2 ++ (K3 ++ K4))))
theorem layA_eq {α : Type} (g : Addr → Option Obj) (k : PySem.W.Frag → α) : layA g k = k (gsA g) := by
  unfold layA
  rw [layK_eq, layK_eq, layK_eq, layK_eq, layK_eq]
  rfl
theorem frag_app {K L : PySem.W.Frag} {h : Heap} (a : K.In h) (b : L.In h) : (K ++ L : PySem.W.Frag).In h := fun x o e => by
  have key : ∀ (K : PySem.W.Frag), (∀ y u, K.lookup y = some u → h.get? y = some u) → ∀ y u, (K ++ L : PySem.W.Frag).lookup y = some u → h.get? y = some u := by
    intro K
    induction K with
    | nil =>
      intro _ y u e
      exact b y u e
    | cons p r ih =>
      intro a y u e
      obtain ⟨c, ob⟩ := p
      have e2 : (match y == c with | true => some ob | false => (r ++ L : PySem.W.Frag).lookup y) = some u := e
      have a2 : ∀ z v, (match z == c with | true => some ob | false => (r : PySem.W.Frag).lookup z) = some v → h.get? z = some v := a
      cases q : (y == c) with
      | true =>
        rw [q] at e2
        exact a2 y u (by rw [q]; exact e2)
      | false =>
        rw [q] at e2
        by_cases hr : (r : PySem.W.Frag).lookup y = none
        · -- not in r: in L
          have skip : ∀ (l : PySem.W.Frag), l.lookup y = none → (l ++ L : PySem.W.Frag).lookup y = L.lookup y := by
            intro l
            induction l with
            | nil => intro _; rfl
            | cons p2 r2 ih2 =>
              intro hn
              obtain ⟨c2, o2⟩ := p2
              have hn2 : (match y == c2 with | true => some o2 | false => (r2 : PySem.W.Frag).lookup y) = none := hn
              show (match y == c2 with | true => some o2 | false => (r2 ++ L : PySem.W.Frag).lookup y) = _
              cases q2 : (y == c2) with
              | true => rw [q2] at hn2; cases hn2
              | false => rw [q2] at hn2; exact ih2 hn2
          have e3 : (r ++ L : PySem.W.Frag).lookup y = some u := e2
          rw [skip r hr] at e3
          exact b y u e3
        · obtain ⟨v, hv⟩ := Option.ne_none_iff_exists'.mp hr
          have keep : ∀ (l : PySem.W.Frag), l.lookup y = some v → (l ++ L : PySem.W.Frag).lookup y = some v := by
            intro l
            induction l with
            | nil => intro hn; cases hn
            | cons p2 r2 ih2 =>
              intro hn
              obtain ⟨c2, o2⟩ := p2
              have hn2 : (match y == c2 with | true => some o2 | false => (r2 : PySem.W.Frag).lookup y) = some v := hn
              show (match y == c2 with | true => some o2 | false => (r2 ++ L : PySem.W.Frag).lookup y) = _
              cases q2 : (y == c2) with
              | true => rw [q2] at hn2; exact hn2
              | false => rw [q2] at hn2; exact ih2 hn2
          have e3 : (r ++ L : PySem.W.Frag).lookup y = some u := e2
          rw [keep r hv] at e3
          have ev : v = u := Option.some.inj e3
          exact a2 y u (by rw [q]; rw [← ev]; exact hv)
  exact key K a x o e
theorem gsA_in {h : Heap} : (gsA h.get?).In h := frag_app He.frG_in (frag_app He.frG_in (frag_app He.frG_in (frag_app He.frG_in He.frG_in)))
/-! ### the Hook -/
abbrev AlJ : Type := He.AlT × Bool
def obsK (fa : List He.Fa) (fn : List He.DefD) (ts : List He.Tab) (ex : PySem.W.Frag → Bool) (K : PySem.W.Frag) : AlJ := (He.obsT fa fn ts K, ex K)
def obsJ (fa : List He.Fa) (fn : List He.DefD) (ts : List He.Tab) (ex : PySem.W.Frag → Bool) (g : Addr → Option Obj) : AlJ := layA g (obsK fa fn ts ex)
def valJ (fn : List He.DefD) (ts : List He.Tab) (w : World) : AlJ := (He.valT fn ts w, true)
structure SaysJ (fa : List He.Fa) (fn : List He.DefD) (ts : List He.Tab) (ex : PySem.W.Frag → Bool) (w : World) (K : PySem.W.Frag) : Prop where
  t : He.SaysT fa fn ts w K
  more : ex K = true
def hookJ (fa : List He.Fa) (fn : List He.DefD) (ts : List He.Tab) (ex : PySem.W.Frag → Bool) : PySem.W.Hook where
  α := AlJ
  obs := fun s => obsJ fa fn ts ex s.heap.get?
  val := fun w => valJ fn ts w
  says := fun w h => ∃ K : PySem.W.Frag, K.In h ∧ SaysJ fa fn ts ex w K
  of := fun _ _ e => ⟨_, gsA_in, by
    have e2 := (layA_eq _ _).symm.trans e
    exact ⟨congrArg (fun z : AlJ => z.1) e2, congrArg (fun z : AlJ => z.2) e2⟩⟩
  keeps := fun _ _ _ ⟨K, hK, c⟩ k => ⟨K, PySem.W.Frag.In.keeps hK k, c⟩
theorem obsJ_eq {fa : List He.Fa} {fn : List He.DefD} {ts : List He.Tab} {ex : PySem.W.Frag → Bool} {g : Addr → Option Obj} {s : Shared} (h : ∀ a, g a = s.heap.get? a) : obsJ fa fn ts ex g = (hookJ fa fn ts ex).obs s := by
  have e : g = s.heap.get? := funext h
  rw [e] <;> rfl
end Hj
namespace Js
open PySem PySem.Spec PyProof.Rows L2
def top (i : Nat) : Stmt := PySem.Challenge.pw_joinshelf_k92_whole_lines_taken_back.main.body.getD i (.Pass ⟨0, 0, 0, 0⟩)
abbrev s_NoName_init : Stmt := inClass (top 13) 0
abbrev s_is_integer : Stmt := top 15
abbrev s_is_within : Stmt := top 16
abbrev s_is_pair : Stmt := top 17
abbrev s_is_ascending : Stmt := top 18
abbrev s_check_number : Stmt := top 21
abbrev s_check_many : Stmt := top 22
abbrev s_is_key : Stmt := top 27
abbrev s_check_key : Stmt := top 28
abbrev s_is_told : Stmt := top 29
abbrev s_is_batch : Stmt := top 30
abbrev s_Feed_init : Stmt := inClass (top 31) 0
abbrev s_versions_of : Stmt := top 34
abbrev s_needed_of : Stmt := top 35
abbrev s_without_struck : Stmt := top 36
abbrev s_made_run : Stmt := top 37
abbrev s_check_most : Stmt := top 56
abbrev s_pair_word : Stmt := top 63
abbrev s_pairs_text : Stmt := top 64
abbrev s_begins_text : Stmt := top 65
abbrev s_number_of : Stmt := top 69
abbrev s_value_of : Stmt := top 70
abbrev s_pair_of : Stmt := top 71
abbrev s_pairs_of : Stmt := top 72
abbrev s_State_init : Stmt := inClass (top 74) 0
abbrev s_State_last : Stmt := inClass (top 74) 1
abbrev s_State_with_batch : Stmt := inClass (top 74) 2
abbrev s_State_with_kept : Stmt := inClass (top 74) 3
abbrev s_State_runs_up_to : Stmt := inClass (top 74) 4
abbrev s_Store_init : Stmt := inClass (top 75) 0
abbrev s_Store_change : Stmt := inClass (top 75) 1
abbrev s_Store_put : Stmt := inClass (top 75) 2
abbrev s_Store_keep : Stmt := inClass (top 75) 3
abbrev s_Store_runs : Stmt := inClass (top 75) 4
abbrev s_Store_stretch : Stmt := inClass (top 75) 7
abbrev s_Store_rows : Stmt := inClass (top 75) 8
abbrev s_Store_plan : Stmt := inClass (top 75) 10
abbrev s_Store_copy : Stmt := inClass (top 75) 13
abbrev s_is_name : Stmt := top 81
abbrev s_told_by : Stmt := top 82
abbrev s_values_of : Stmt := top 83
abbrev s_words_or_none : Stmt := top 84
abbrev s_run_word : Stmt := top 87
abbrev s_Desk_init : Stmt := inClass (top 88) 0
abbrev s_Desk_undoable : Stmt := inClass (top 88) 1
abbrev s_Desk_tell : Stmt := inClass (top 88) 2
abbrev s_Desk_keep : Stmt := inClass (top 88) 3
abbrev s_Desk_put_under : Stmt := inClass (top 88) 4
abbrev s_Desk_undo : Stmt := inClass (top 88) 5
abbrev s_Desk_store_under : Stmt := inClass (top 88) 6
abbrev s_Desk_change : Stmt := inClass (top 88) 7
abbrev s_Desk_answer : Stmt := inClass (top 88) 8
abbrev s_law_hand : Stmt := top 90
abbrev s_law_draw : Stmt := top 91
abbrev s_law_batch : Stmt := top 92
abbrev s_law_sight : Stmt := top 93
abbrev s_law_runs : Stmt := top 94
abbrev s_law_run : Stmt := top 95
abbrev s_law_empty : Stmt := top 96
abbrev s_law_with_batch : Stmt := top 97
abbrev s_law_can_keep : Stmt := top 98
abbrev s_law_with_kept : Stmt := top 99
abbrev s_law_stay : Stmt := top 100
abbrev s_law_shelf : Stmt := top 101
abbrev s_law_shown : Stmt := top 102
abbrev s_law_batch_text : Stmt := top 103
abbrev s_law_change : Stmt := top 104
abbrev s_law_names : Stmt := top 105
abbrev s_law_is_right : Stmt := top 106
abbrev s_law_refused : Stmt := top 107
abbrev s_law : Stmt := top 108
def d_NoName_init : He.DefD := ⟨("NoName", some "__init__"), "__init__", "NoName.__init__", defArgs s_NoName_init, defBody s_NoName_init, defScope s_NoName_init, [], []⟩
def d_is_integer : He.DefD := ⟨("is_integer", none), "is_integer", "is_integer", defArgs s_is_integer, defBody s_is_integer, defScope s_is_integer, [], []⟩
def d_is_within : He.DefD := ⟨("is_within", none), "is_within", "is_within", defArgs s_is_within, defBody s_is_within, defScope s_is_within, [], []⟩
def d_is_pair : He.DefD := ⟨("is_pair", none), "is_pair", "is_pair", defArgs s_is_pair, defBody s_is_pair, defScope s_is_pair, [], []⟩
def d_is_ascending : He.DefD := ⟨("is_ascending", none), "is_ascending", "is_ascending", defArgs s_is_ascending, defBody s_is_ascending, defScope s_is_ascending, [], []⟩
def d_check_number : He.DefD := ⟨("check_number", none), "check_number", "check_number", defArgs s_check_number, defBody s_check_number, defScope s_check_number, [], []⟩
def d_check_many : He.DefD := ⟨("check_many", none), "check_many", "check_many", defArgs s_check_many, defBody s_check_many, defScope s_check_many, [], []⟩
def d_is_key : He.DefD := ⟨("is_key", none), "is_key", "is_key", defArgs s_is_key, defBody s_is_key, defScope s_is_key, [], []⟩
def d_check_key : He.DefD := ⟨("check_key", none), "check_key", "check_key", defArgs s_check_key, defBody s_check_key, defScope s_check_key, [], []⟩
def d_is_told : He.DefD := ⟨("is_told", none), "is_told", "is_told", defArgs s_is_told, defBody s_is_told, defScope s_is_told, [], []⟩
def d_is_batch : He.DefD := ⟨("is_batch", none), "is_batch", "is_batch", defArgs s_is_batch, defBody s_is_batch, defScope s_is_batch, [], []⟩
def d_Feed_init : He.DefD := ⟨("Feed", some "__init__"), "__init__", "Feed.__init__", defArgs s_Feed_init, defBody s_Feed_init, defScope s_Feed_init, [], []⟩
def d_versions_of : He.DefD := ⟨("versions_of", none), "versions_of", "versions_of", defArgs s_versions_of, defBody s_versions_of, defScope s_versions_of, [], []⟩
def d_needed_of : He.DefD := ⟨("needed_of", none), "needed_of", "needed_of", defArgs s_needed_of, defBody s_needed_of, defScope s_needed_of, [], []⟩
def d_without_struck : He.DefD := ⟨("without_struck", none), "without_struck", "without_struck", defArgs s_without_struck, defBody s_without_struck, defScope s_without_struck, [], []⟩
def d_made_run : He.DefD := ⟨("made_run", none), "made_run", "made_run", defArgs s_made_run, defBody s_made_run, defScope s_made_run, [], []⟩
def d_check_most : He.DefD := ⟨("check_most", none), "check_most", "check_most", defArgs s_check_most, defBody s_check_most, defScope s_check_most, [], []⟩
def d_pair_word : He.DefD := ⟨("pair_word", none), "pair_word", "pair_word", defArgs s_pair_word, defBody s_pair_word, defScope s_pair_word, [], []⟩
def d_pairs_text : He.DefD := ⟨("pairs_text", none), "pairs_text", "pairs_text", defArgs s_pairs_text, defBody s_pairs_text, defScope s_pairs_text, [], []⟩
def d_begins_text : He.DefD := ⟨("begins_text", none), "begins_text", "begins_text", defArgs s_begins_text, defBody s_begins_text, defScope s_begins_text, [], []⟩
def d_number_of : He.DefD := ⟨("number_of", none), "number_of", "number_of", defArgs s_number_of, defBody s_number_of, defScope s_number_of, [], []⟩
def d_value_of : He.DefD := ⟨("value_of", none), "value_of", "value_of", defArgs s_value_of, defBody s_value_of, defScope s_value_of, [], []⟩
def d_pair_of : He.DefD := ⟨("pair_of", none), "pair_of", "pair_of", defArgs s_pair_of, defBody s_pair_of, defScope s_pair_of, [], []⟩
def d_pairs_of : He.DefD := ⟨("pairs_of", none), "pairs_of", "pairs_of", defArgs s_pairs_of, defBody s_pairs_of, defScope s_pairs_of, [], []⟩
def d_State_init : He.DefD := ⟨("State", some "__init__"), "__init__", "State.__init__", defArgs s_State_init, defBody s_State_init, defScope s_State_init, [], []⟩
def d_State_last : He.DefD := ⟨("State", some "last"), "last", "State.last", defArgs s_State_last, defBody s_State_last, defScope s_State_last, [], []⟩
def d_State_with_batch : He.DefD := ⟨("State", some "with_batch"), "with_batch", "State.with_batch", defArgs s_State_with_batch, defBody s_State_with_batch, defScope s_State_with_batch, [], []⟩
def d_State_with_kept : He.DefD := ⟨("State", some "with_kept"), "with_kept", "State.with_kept", defArgs s_State_with_kept, defBody s_State_with_kept, defScope s_State_with_kept, [], []⟩
def d_State_runs_up_to : He.DefD := ⟨("State", some "runs_up_to"), "runs_up_to", "State.runs_up_to", defArgs s_State_runs_up_to, defBody s_State_runs_up_to, defScope s_State_runs_up_to, [], []⟩
def d_Store_init : He.DefD := ⟨("Store", some "__init__"), "__init__", "Store.__init__", defArgs s_Store_init, defBody s_Store_init, defScope s_Store_init, [], []⟩
def d_Store_change : He.DefD := ⟨("Store", some "change"), "change", "Store.change", defArgs s_Store_change, defBody s_Store_change, defScope s_Store_change, [], []⟩
def d_Store_put : He.DefD := ⟨("Store", some "put"), "put", "Store.put", defArgs s_Store_put, defBody s_Store_put, defScope s_Store_put, [], []⟩
def d_Store_keep : He.DefD := ⟨("Store", some "keep"), "keep", "Store.keep", defArgs s_Store_keep, defBody s_Store_keep, defScope s_Store_keep, [], []⟩
def d_Store_runs : He.DefD := ⟨("Store", some "runs"), "runs", "Store.runs", defArgs s_Store_runs, defBody s_Store_runs, defScope s_Store_runs, [], []⟩
def d_Store_stretch : He.DefD := ⟨("Store", some "stretch"), "stretch", "Store.stretch", defArgs s_Store_stretch, defBody s_Store_stretch, defScope s_Store_stretch, [], []⟩
def d_Store_rows : He.DefD := ⟨("Store", some "rows"), "rows", "Store.rows", defArgs s_Store_rows, defBody s_Store_rows, defScope s_Store_rows, [], []⟩
def d_Store_plan : He.DefD := ⟨("Store", some "plan"), "plan", "Store.plan", defArgs s_Store_plan, defBody s_Store_plan, defScope s_Store_plan, [], []⟩
def d_Store_copy : He.DefD := ⟨("Store", some "copy"), "copy", "Store.copy", defArgs s_Store_copy, defBody s_Store_copy, defScope s_Store_copy, [], []⟩
def d_is_name : He.DefD := ⟨("is_name", none), "is_name", "is_name", defArgs s_is_name, defBody s_is_name, defScope s_is_name, [], []⟩
def d_told_by : He.DefD := ⟨("told_by", none), "told_by", "told_by", defArgs s_told_by, defBody s_told_by, defScope s_told_by, [], []⟩
def d_values_of : He.DefD := ⟨("values_of", none), "values_of", "values_of", defArgs s_values_of, defBody s_values_of, defScope s_values_of, [], []⟩
def d_words_or_none : He.DefD := ⟨("words_or_none", none), "words_or_none", "words_or_none", defArgs s_words_or_none, defBody s_words_or_none, defScope s_words_or_none, [], []⟩
def d_run_word : He.DefD := ⟨("run_word", none), "run_word", "run_word", defArgs s_run_word, defBody s_run_word, defScope s_run_word, [], []⟩
def d_Desk_init : He.DefD := ⟨("Desk", some "__init__"), "__init__", "Desk.__init__", defArgs s_Desk_init, defBody s_Desk_init, defScope s_Desk_init, [], []⟩
def d_Desk_undoable : He.DefD := ⟨("Desk", some "undoable"), "undoable", "Desk.undoable", defArgs s_Desk_undoable, defBody s_Desk_undoable, defScope s_Desk_undoable, [], []⟩
def d_Desk_tell : He.DefD := ⟨("Desk", some "tell"), "tell", "Desk.tell", defArgs s_Desk_tell, defBody s_Desk_tell, defScope s_Desk_tell, [], []⟩
def d_Desk_keep : He.DefD := ⟨("Desk", some "keep"), "keep", "Desk.keep", defArgs s_Desk_keep, defBody s_Desk_keep, defScope s_Desk_keep, [], []⟩
def d_Desk_put_under : He.DefD := ⟨("Desk", some "put_under"), "put_under", "Desk.put_under", defArgs s_Desk_put_under, defBody s_Desk_put_under, defScope s_Desk_put_under, [], []⟩
def d_Desk_undo : He.DefD := ⟨("Desk", some "undo"), "undo", "Desk.undo", defArgs s_Desk_undo, defBody s_Desk_undo, defScope s_Desk_undo, [], []⟩
def d_Desk_store_under : He.DefD := ⟨("Desk", some "store_under"), "store_under", "Desk.store_under", defArgs s_Desk_store_under, defBody s_Desk_store_under, defScope s_Desk_store_under, [], []⟩
def d_Desk_change : He.DefD := ⟨("Desk", some "change"), "change", "Desk.change", defArgs s_Desk_change, defBody s_Desk_change, defScope s_Desk_change, [], []⟩
def d_Desk_answer : He.DefD := ⟨("Desk", some "answer"), "answer", "Desk.answer", defArgs s_Desk_answer, defBody s_Desk_answer, defScope s_Desk_answer, [], []⟩
def d_law_hand : He.DefD := ⟨("_law_hand", none), "_law_hand", "_law_hand", defArgs s_law_hand, defBody s_law_hand, defScope s_law_hand, [], []⟩
def d_law_draw : He.DefD := ⟨("_law_draw", none), "_law_draw", "_law_draw", defArgs s_law_draw, defBody s_law_draw, defScope s_law_draw, [], []⟩
def d_law_batch : He.DefD := ⟨("_law_batch", none), "_law_batch", "_law_batch", defArgs s_law_batch, defBody s_law_batch, defScope s_law_batch, [], []⟩
def d_law_sight : He.DefD := ⟨("_law_sight", none), "_law_sight", "_law_sight", defArgs s_law_sight, defBody s_law_sight, defScope s_law_sight, [], []⟩
def d_law_runs : He.DefD := ⟨("_law_runs", none), "_law_runs", "_law_runs", defArgs s_law_runs, defBody s_law_runs, defScope s_law_runs, [], []⟩
def d_law_run : He.DefD := ⟨("_law_run", none), "_law_run", "_law_run", defArgs s_law_run, defBody s_law_run, defScope s_law_run, [], []⟩
def d_law_empty : He.DefD := ⟨("_law_empty", none), "_law_empty", "_law_empty", defArgs s_law_empty, defBody s_law_empty, defScope s_law_empty, [], []⟩
def d_law_with_batch : He.DefD := ⟨("_law_with_batch", none), "_law_with_batch", "_law_with_batch", defArgs s_law_with_batch, defBody s_law_with_batch, defScope s_law_with_batch, [], []⟩
def d_law_can_keep : He.DefD := ⟨("_law_can_keep", none), "_law_can_keep", "_law_can_keep", defArgs s_law_can_keep, defBody s_law_can_keep, defScope s_law_can_keep, [], []⟩
def d_law_with_kept : He.DefD := ⟨("_law_with_kept", none), "_law_with_kept", "_law_with_kept", defArgs s_law_with_kept, defBody s_law_with_kept, defScope s_law_with_kept, [], []⟩
def d_law_stay : He.DefD := ⟨("_law_stay", none), "_law_stay", "_law_stay", defArgs s_law_stay, defBody s_law_stay, defScope s_law_stay, [], []⟩
def d_law_shelf : He.DefD := ⟨("_law_shelf", none), "_law_shelf", "_law_shelf", defArgs s_law_shelf, defBody s_law_shelf, defScope s_law_shelf, [], []⟩
def d_law_shown : He.DefD := ⟨("_law_shown", none), "_law_shown", "_law_shown", defArgs s_law_shown, defBody s_law_shown, defScope s_law_shown, [], []⟩
def d_law_batch_text : He.DefD := ⟨("_law_batch_text", none), "_law_batch_text", "_law_batch_text", defArgs s_law_batch_text, defBody s_law_batch_text, defScope s_law_batch_text, [], []⟩
def d_law_change : He.DefD := ⟨("_law_change", none), "_law_change", "_law_change", defArgs s_law_change, defBody s_law_change, defScope s_law_change, [], []⟩
def d_law_names : He.DefD := ⟨("_law_names", none), "_law_names", "_law_names", defArgs s_law_names, defBody s_law_names, defScope s_law_names, [], []⟩
def d_law_is_right : He.DefD := ⟨("_law_is_right", none), "_law_is_right", "_law_is_right", defArgs s_law_is_right, defBody s_law_is_right, defScope s_law_is_right, [], []⟩
def d_law_refused : He.DefD := ⟨("_law_refused", none), "_law_refused", "_law_refused", defArgs s_law_refused, defBody s_law_refused, defScope s_law_refused, [], []⟩
def d_law : He.DefD := ⟨("law", none), "law", "law", defArgs s_law, defBody s_law, defScope s_law, [], []⟩
def fnl : List He.DefD := [d_NoName_init, d_is_integer, d_is_within, d_is_pair, d_is_ascending, d_check_number, d_check_many, d_is_key, d_check_key, d_is_told, d_is_batch, d_Feed_init, d_versions_of, d_needed_of, d_without_struck, d_made_run, d_check_most, d_pair_word, d_pairs_text, d_begins_text, d_number_of, d_value_of, d_pair_of, d_pairs_of, d_State_init, d_State_last, d_State_with_batch, d_State_with_kept, d_State_runs_up_to, d_Store_init, d_Store_change, d_Store_put, d_Store_keep, d_Store_runs, d_Store_stretch, d_Store_rows, d_Store_plan, d_Store_copy, d_is_name, d_told_by, d_values_of, d_words_or_none, d_run_word, d_Desk_init, d_Desk_undoable, d_Desk_tell, d_Desk_keep, d_Desk_put_under, d_Desk_undo, d_Desk_store_under, d_Desk_change, d_Desk_answer, d_law_hand, d_law_draw, d_law_batch, d_law_sight, d_law_runs, d_law_run, d_law_empty, d_law_with_batch, d_law_can_keep, d_law_with_kept, d_law_stay, d_law_shelf, d_law_shown, d_law_batch_text, d_law_change, d_law_names, d_law_is_right, d_law_refused, d_law]
def fa0 : List He.Fa := [.glo "is_integer", .glo "is_within", .glo "is_pair", .glo "is_ascending", .glo "check_number", .glo "check_many", .glo "is_key", .glo "check_key", .glo "is_told", .glo "is_batch", .glo "versions_of", .glo "needed_of", .glo "without_struck", .glo "made_run", .glo "check_most", .glo "pair_word"]
def fa1 : List He.Fa := [.glo "pairs_text", .glo "begins_text", .glo "number_of", .glo "value_of", .glo "pair_of", .glo "pairs_of", .glo "is_name", .glo "told_by", .glo "values_of", .glo "words_or_none", .glo "run_word", .glo "_law_hand", .glo "_law_draw", .glo "_law_batch", .glo "_law_sight", .glo "_law_runs"]
def fa2 : List He.Fa := [.glo "_law_run", .glo "_law_empty", .glo "_law_with_batch", .glo "_law_can_keep", .glo "_law_with_kept", .glo "_law_stay", .glo "_law_shelf", .glo "_law_shown", .glo "_law_batch_text", .glo "_law_change", .glo "_law_names", .glo "_law_is_right", .glo "_law_refused", .glo "law", .glo "Feed", .glo "State"]
def fa3 : List He.Fa := [.glo "Store", .glo "Desk", .glo "NoNumber", .glo "NothingDone", .glo "NoName", .glo "ShelfError", .glo "FORMS", .free "len", .free "isinstance", .free "all", .free "tuple", .free "range", .free "enumerate", .free "sorted", .free "str", .free "int"]
def fa4 : List He.Fa := [.free "bool", .free "zip", .free "min", .free "list", .free "abs", .free "set", .free "dict", .free "ValueError", .int "MOST_KEY" 999, .int "MOST_PAIRS" 60, .int "MOST_HOURS_feeds" 40, .int "MOST_RUNS" 30, .int "MOST_FIGURES" 9, .int "MOST_SIGNS" 8, .str "NOTHING" "-", .str "FIGURES" "0123456789"]
def fa5 : List He.Fa := [.str "SMALL" "abcdefghijklmnopqrstuvwxyz", .str "NONE" "none", .cls "Feed", .noat "Feed" "batches", .noat "Feed" "kept", .mkr "Feed", .cls "State", .noat "State" "batches", .noat "State" "kept", .noat "State" "plan", .noat "State" "made", .noat "State" "rows", .mkr "State", .cls "Store", .noat "Store" "most", .noat "Store" "state"]
def fa6 : List He.Fa := [.noat "Store" "past", .mkr "Store", .cls "Desk", .noat "Desk" "kept", .noat "Desk" "past", .mkr "Desk", .meth "State" "last", .meth "State" "with_batch", .meth "State" "with_kept", .meth "State" "runs_up_to", .meth "Store" "change", .meth "Store" "put", .meth "Store" "keep", .meth "Store" "runs", .meth "Store" "stretch", .meth "Store" "rows"]
def fa7 : List He.Fa := [.meth "Store" "plan", .meth "Store" "copy", .meth "Desk" "undoable", .meth "Desk" "tell", .meth "Desk" "keep", .meth "Desk" "put_under", .meth "Desk" "undo", .meth "Desk" "store_under", .meth "Desk" "change", .meth "Desk" "answer", .exc "NoNumber", .exc "NothingDone", .exm "NothingDone" "NothingDone" true, .exm "NoName" "NothingDone" false, .exm "NoName" "NoName" true, .exm "NoNumber" "NothingDone" false]
def fa8 : List He.Fa := [.exm "NoNumber" "NoName" false, .exm "NoNumber" "ShelfError" true, .noat "NoName" "name", .meth "NoName" "__init__"]
def fal : List He.Fa := fa0 ++ fa1 ++ fa2 ++ fa3 ++ fa4 ++ fa5 ++ fa6 ++ fa7 ++ fa8
def ls0 : List PySem.Str := ["_wall", "ShelfError", "BadFeed", "NoHour", "NoKey", "TooMany", "NoNumber", "BadTask", "NoLooked", "NoBatch", "NothingDone", "NoLine", "NoName", "is_integer", "is_within", "is_pair"]
def ls1 : List PySem.Str := ["is_ascending", "is_row", "first_wrong_row", "check_number", "check_many", "MOST_KEY", "MOST_PAIRS", "MOST_HOURS_feeds", "is_key", "check_key", "is_told", "is_batch", "Feed", "hours_of", "versions_of", "needed_of"]
def ls2 : List PySem.Str := ["without_struck", "made_run", "run_sizes", "check_sight", "looked_through", "MOST_HOURS_tasks", "MOST_PRICE", "MOST_LOOKED", "Task", "raw_task", "length_of", "write_of", "look_sum", "is_looked", "latest_told", "look_prices"]
def ls3 : List PySem.Str := ["task_of", "MOST_RUNS", "check_most", "may_all", "Solver", "least_cost", "least", "NOTHING", "pair_word", "pairs_text", "begins_text", "FIGURES", "MOST_FIGURES", "number_of", "value_of", "pair_of"]
def ls4 : List PySem.Str := ["pairs_of", "State", "Store", "FORMS", "SMALL", "MOST_SIGNS", "NONE", "is_name", "told_by", "values_of", "words_or_none", "look_text", "least_text", "run_word", "Desk", "_law_hand"]
def ls5 : List PySem.Str := ["_law_draw", "_law_batch", "_law_sight", "_law_runs", "_law_run", "_law_empty", "_law_with_batch", "_law_can_keep", "_law_with_kept", "_law_stay", "_law_shelf", "_law_shown", "_law_batch_text", "_law_change", "_law_names", "_law_is_right"]
def ls6 : List PySem.Str := ["_law_refused"]
def lsl : List PySem.Str := ls0 ++ ls1 ++ ls2 ++ ls3 ++ ls4 ++ ls5 ++ ls6
def tabs : List He.Tab := [(fun K => He.ga K "FORMS", ["store", "put", "keep", "drop", "undo", "look", "at", "stretch", "runs", "rows", "plan", "least", "names"])]
/-- NoName: a class of errors with an own __init__ over ValueError -/
def oexB (K : PySem.W.Frag) (C : Addr) : Bool := (match K.lookup C with
  | some ⟨.type "type", _, .cls cd, sl⟩ => (match cd.mro, sl.toList with
    | .ref C' :: bm, [_, _, _, _, some (.builtin n), _] => C' == C && (n == "ValueError.__new__" && (!cd.hasDel && (cd.hasDict && PySem.HandSPX.refsVE bm)))
    | _, _ => false)
  | _ => false) && (He.eqO (PySem.W.findIn K (.ref C) "__setattr__") (some (some (.builtin "object.__setattr__"))) && (decide (PySem.W.subIn K (.ref C) (.type "BaseException") = some true) &&
    (decide (PySem.W.typeIn K (.ref C) = some (.type "type")) && (PySem.W.keepIn K (.ref C) && decide (PySem.W.typeIn K (.ref (He.ma K C "__init__")) = some (.type "function"))))))
theorem oexB_ok {K : PySem.W.Frag} {C : Addr} (h : oexB K C = true) : OexC K C ∧ PySem.W.typeIn K (.ref (He.ma K C "__init__")) = some (.type "function") := by
  obtain ⟨h1, h⟩ := He.ba h
  obtain ⟨h2, h⟩ := He.ba h
  obtain ⟨h3, h⟩ := He.ba h
  obtain ⟨h4, h⟩ := He.ba h
  obtain ⟨h5, h6⟩ := He.ba h
  refine ⟨⟨?_, He.eqO_ok h2, of_decide_eq_true h3, of_decide_eq_true h4, h5⟩, of_decide_eq_true h6⟩
  split at h1
  · rename_i dd cd sl ho
    split at h1
    · rename_i C' bm k0 k1 k2 k3 n k5 hm hs
      obtain ⟨q1, q⟩ := He.ba h1
      obtain ⟨q2, q⟩ := He.ba q
      obtain ⟨q3, q⟩ := He.ba q
      obtain ⟨q4, q5⟩ := He.ba q
      obtain ⟨nm, bs, mro, ns, qn, hd, sn, sub, ab, col, dl⟩ := cd
      dsimp only at hm q3 q4
      have e1 : C' = C := eq_of_beq q1
      have e2 : n = "ValueError.__new__" := eq_of_beq q2
      have e3 : dl = false := by simpa using q3
      subst e1 e2 e3 hm q4
      have hsl : sl = #[k0, k1, k2, k3, some (.builtin "ValueError.__new__"), k5] := by
        obtain ⟨l⟩ := sl
        simp only at hs
        rw [hs]
      subst hsl
      exact ⟨nm, qn, ns, bs, bm, sn, sub, ab, col, dd, k0, k1, k2, k3, k5, ho, q5⟩
    · cases h1
  · cases h1
def forms : List (PySem.Str × List PySem.Str) := [("store", ["name", "number"]), ("put", ["name", "number", "words"]), ("keep", ["name"]), ("drop", ["name"]), ("undo", []), ("look", ["name", "number"]), ("at", ["name", "number", "number"]), ("stretch", ["name", "number", "number"]), ("runs", ["name"]), ("rows", ["name"]), ("plan", ["name"]), ("least", ["name", "number"]), ("names", [])]
/-- what FORMS holds under a word: a tuple of these texts -/
def formB (K : PySem.W.Frag) (x : PySem.Str) (zs : List PySem.Str) : Bool := match PySem.W.nsIn K (He.ga K "FORMS") x with
  | some (some (.ref T)) => (match K.lookup T with
    | some ⟨.type c, _, .seq its _, _⟩ => decide (c = "tuple") && (decide (its.size ≤ sizeLine) && He.relAll (zs.map V.str) its.toList)
    | _ => false)
  | _ => false
theorem formB_ok {K : PySem.W.Frag} {x : PySem.Str} {zs : List PySem.Str} (h : formB K x zs = true) : ∃ T : Addr, PySem.W.nsIn K (He.ga K "FORMS") x = some (some (.ref T)) ∧ ∀ H : Hp, SqT K H T (zs.map V.str) := by
  unfold formB at h
  split at h
  · rename_i T q
    refine ⟨T, q, fun H => ?_⟩
    split at h
    · rename_i c od its n sl hl
      obtain ⟨h1, h2⟩ := He.ba h
      obtain ⟨h3, h4⟩ := He.ba h2
      exact .inr ⟨_, its, n, hl, congrArg Value.type (of_decide_eq_true h1), rfl, of_decide_eq_true h3, He.relAll_ok h4⟩
    · cases h
  · cases h
def exB (K : PySem.W.Frag) : Bool := oexB K (He.ga K "NoName") && (xfB K (He.ga K "NoName") && forms.all fun p => formB K p.1 p.2)
/-- what is known of the written part -/
structure Tx (w : World) (K : PySem.W.Frag) (mg : PySem.Str → Option Value) : Prop where
  s : Hj.SaysJ fal fnl tabs exB w K
  h : ∃ h : Heap, K.In h ∧ h.Ns mainGlobals mg
section
variable {w : World} {K : PySem.W.Frag} {mg : PySem.Str → Option Value}
theorem Tx.fact (T : Tx w K mg) (i : Nat) {f : He.Fa} (e : fal[i]? = some f) : f.ok K = true := T.s.t.d.fact i e
theorem Tx.glo (T : Tx w K mg) (i : Nat) {x : PySem.Str} (e : fal[i]? = some (.glo x)) : mg x = some (.ref (He.ga K x)) := by
  obtain ⟨h, X, G⟩ := T.h
  exact He.glo_ok X G (T.fact i e)
theorem Tx.free (T : Tx w K mg) (i : Nat) {x : PySem.Str} (e : fal[i]? = some (.free x)) : mg x = none := by
  obtain ⟨h, X, G⟩ := T.h
  exact He.free_ok X G (T.fact i e)
theorem Tx.int (T : Tx w K mg) (i : Nat) {x : PySem.Str} {n : Int} (e : fal[i]? = some (.int x n)) : ∃ t, mg x = some (.int n t) := by
  obtain ⟨h, X, G⟩ := T.h
  exact He.int_ok X G (T.fact i e)
theorem Tx.str (T : Tx w K mg) (i : Nat) {x z : PySem.Str} (e : fal[i]? = some (.str x z)) : ∃ t, mg x = some (.str z t) := by
  obtain ⟨h, X, G⟩ := T.h
  exact He.str_ok X G (T.fact i e)
theorem Tx.cls (T : Tx w K mg) (i : Nat) {x : PySem.Str} (e : fal[i]? = some (.cls x)) : Cls K (He.ga K x) := He.cls_ok (T.fact i e)
theorem Tx.noat (T : Tx w K mg) (i : Nat) {x f : PySem.Str} (e : fal[i]? = some (.noat x f)) : NoAttr K (He.ga K x) f := He.noat_ok (T.fact i e)
theorem Tx.meth (T : Tx w K mg) (i : Nat) {x m : PySem.Str} (e : fal[i]? = some (.meth x m)) : Meth K (He.ga K x) m (He.ma K (He.ga K x) m) := He.meth_ok (T.fact i e)
theorem Tx.mkr (T : Tx w K mg) (i : Nat) {x : PySem.Str} (e : fal[i]? = some (.mkr x)) : Mk K (He.ga K x) (He.ma K (He.ga K x) "__init__") := He.mkr_ok (T.fact i e)
theorem Tx.exc (T : Tx w K mg) (i : Nat) {x : PySem.Str} (e : fal[i]? = some (.exc x)) : PySem.W.excIn K (He.ga K x) He.veBase "ValueError.__new__" = true ∧ PySem.W.keepIn K (.ref (He.ga K x)) = true ∧ PySem.W.subIn K (.ref (He.ga K x)) (.type "BaseException") = some true ∧ PySem.W.typeIn K (.ref (He.ga K x)) = some (.type "type") := He.exc_ok (T.fact i e)
theorem Tx.exm (T : Tx w K mg) (i : Nat) {x y : PySem.Str} {b : Bool} (e : fal[i]? = some (.exm x y b)) : PySem.W.exmOne K (.ref (He.ga K x)) (.ref (He.ga K y)) = some b := He.exm_ok (T.fact i e)
theorem Tx.fn (T : Tx w K mg) (i : Nat) {d : He.DefD} (e : fnl[i]? = some d) : ∃ fd, FunD K d.name d.qual d.params d.body d.scope (d.dvs K) (d.kws K) (He.fAd K d.at_) fd := T.s.t.d.def_ i e
theorem Tx.exB (T : Tx w K mg) : OexC K (He.ga K "NoName") ∧ PySem.W.typeIn K (.ref (He.ma K (He.ga K "NoName") "__init__")) = some (.type "function") ∧ XfC K (He.ga K "NoName") ∧ ∀ p ∈ forms, formB K p.1 p.2 = true := by
  obtain ⟨h1, h2⟩ := He.ba T.s.more
  obtain ⟨h3, h4⟩ := He.ba h2
  exact ⟨(oexB_ok h1).1, (oexB_ok h1).2, xfB_ok h3, List.all_eq_true.mp h4⟩
theorem Tx.form (T : Tx w K mg) (i : Nat) {x : PySem.Str} {zs : List PySem.Str} (e : forms[i]? = some (x, zs)) : ∃ t : Addr, PySem.W.nsIn K (He.ga K "FORMS") x = some (some (.ref t)) ∧ ∀ H : Hp, SqT K H t (zs.map V.str) :=
  formB_ok (T.exB.2.2.2 _ (List.mem_of_getElem? e))
theorem Tx.kd (T : Tx w K mg) : ∃ es n, KDict K w (He.ga K "FORMS") es n := T.s.t.tab 0 (by rfl)
theorem Tx.g_is_integer (T : Tx w K mg) : mg "is_integer" = some (.ref (He.ga K "is_integer")) := T.glo 0 (by rfl)
theorem Tx.g_is_within (T : Tx w K mg) : mg "is_within" = some (.ref (He.ga K "is_within")) := T.glo 1 (by rfl)
theorem Tx.g_is_pair (T : Tx w K mg) : mg "is_pair" = some (.ref (He.ga K "is_pair")) := T.glo 2 (by rfl)
theorem Tx.g_is_ascending (T : Tx w K mg) : mg "is_ascending" = some (.ref (He.ga K "is_ascending")) := T.glo 3 (by rfl)
theorem Tx.g_check_number (T : Tx w K mg) : mg "check_number" = some (.ref (He.ga K "check_number")) := T.glo 4 (by rfl)
theorem Tx.g_check_many (T : Tx w K mg) : mg "check_many" = some (.ref (He.ga K "check_many")) := T.glo 5 (by rfl)
theorem Tx.g_is_key (T : Tx w K mg) : mg "is_key" = some (.ref (He.ga K "is_key")) := T.glo 6 (by rfl)
theorem Tx.g_check_key (T : Tx w K mg) : mg "check_key" = some (.ref (He.ga K "check_key")) := T.glo 7 (by rfl)
theorem Tx.g_is_told (T : Tx w K mg) : mg "is_told" = some (.ref (He.ga K "is_told")) := T.glo 8 (by rfl)
theorem Tx.g_is_batch (T : Tx w K mg) : mg "is_batch" = some (.ref (He.ga K "is_batch")) := T.glo 9 (by rfl)
theorem Tx.g_versions_of (T : Tx w K mg) : mg "versions_of" = some (.ref (He.ga K "versions_of")) := T.glo 10 (by rfl)
theorem Tx.g_needed_of (T : Tx w K mg) : mg "needed_of" = some (.ref (He.ga K "needed_of")) := T.glo 11 (by rfl)
theorem Tx.g_without_struck (T : Tx w K mg) : mg "without_struck" = some (.ref (He.ga K "without_struck")) := T.glo 12 (by rfl)
theorem Tx.g_made_run (T : Tx w K mg) : mg "made_run" = some (.ref (He.ga K "made_run")) := T.glo 13 (by rfl)
theorem Tx.g_check_most (T : Tx w K mg) : mg "check_most" = some (.ref (He.ga K "check_most")) := T.glo 14 (by rfl)
theorem Tx.g_pair_word (T : Tx w K mg) : mg "pair_word" = some (.ref (He.ga K "pair_word")) := T.glo 15 (by rfl)
theorem Tx.g_pairs_text (T : Tx w K mg) : mg "pairs_text" = some (.ref (He.ga K "pairs_text")) := T.glo 16 (by rfl)
theorem Tx.g_begins_text (T : Tx w K mg) : mg "begins_text" = some (.ref (He.ga K "begins_text")) := T.glo 17 (by rfl)
theorem Tx.g_number_of (T : Tx w K mg) : mg "number_of" = some (.ref (He.ga K "number_of")) := T.glo 18 (by rfl)
theorem Tx.g_value_of (T : Tx w K mg) : mg "value_of" = some (.ref (He.ga K "value_of")) := T.glo 19 (by rfl)
theorem Tx.g_pair_of (T : Tx w K mg) : mg "pair_of" = some (.ref (He.ga K "pair_of")) := T.glo 20 (by rfl)
theorem Tx.g_pairs_of (T : Tx w K mg) : mg "pairs_of" = some (.ref (He.ga K "pairs_of")) := T.glo 21 (by rfl)
theorem Tx.g_is_name (T : Tx w K mg) : mg "is_name" = some (.ref (He.ga K "is_name")) := T.glo 22 (by rfl)
theorem Tx.g_told_by (T : Tx w K mg) : mg "told_by" = some (.ref (He.ga K "told_by")) := T.glo 23 (by rfl)
theorem Tx.g_values_of (T : Tx w K mg) : mg "values_of" = some (.ref (He.ga K "values_of")) := T.glo 24 (by rfl)
theorem Tx.g_words_or_none (T : Tx w K mg) : mg "words_or_none" = some (.ref (He.ga K "words_or_none")) := T.glo 25 (by rfl)
theorem Tx.g_run_word (T : Tx w K mg) : mg "run_word" = some (.ref (He.ga K "run_word")) := T.glo 26 (by rfl)
theorem Tx.g_law_hand (T : Tx w K mg) : mg "_law_hand" = some (.ref (He.ga K "_law_hand")) := T.glo 27 (by rfl)
theorem Tx.g_law_draw (T : Tx w K mg) : mg "_law_draw" = some (.ref (He.ga K "_law_draw")) := T.glo 28 (by rfl)
theorem Tx.g_law_batch (T : Tx w K mg) : mg "_law_batch" = some (.ref (He.ga K "_law_batch")) := T.glo 29 (by rfl)
theorem Tx.g_law_sight (T : Tx w K mg) : mg "_law_sight" = some (.ref (He.ga K "_law_sight")) := T.glo 30 (by rfl)
theorem Tx.g_law_runs (T : Tx w K mg) : mg "_law_runs" = some (.ref (He.ga K "_law_runs")) := T.glo 31 (by rfl)
theorem Tx.g_law_run (T : Tx w K mg) : mg "_law_run" = some (.ref (He.ga K "_law_run")) := T.glo 32 (by rfl)
theorem Tx.g_law_empty (T : Tx w K mg) : mg "_law_empty" = some (.ref (He.ga K "_law_empty")) := T.glo 33 (by rfl)
theorem Tx.g_law_with_batch (T : Tx w K mg) : mg "_law_with_batch" = some (.ref (He.ga K "_law_with_batch")) := T.glo 34 (by rfl)
theorem Tx.g_law_can_keep (T : Tx w K mg) : mg "_law_can_keep" = some (.ref (He.ga K "_law_can_keep")) := T.glo 35 (by rfl)
theorem Tx.g_law_with_kept (T : Tx w K mg) : mg "_law_with_kept" = some (.ref (He.ga K "_law_with_kept")) := T.glo 36 (by rfl)
theorem Tx.g_law_stay (T : Tx w K mg) : mg "_law_stay" = some (.ref (He.ga K "_law_stay")) := T.glo 37 (by rfl)
theorem Tx.g_law_shelf (T : Tx w K mg) : mg "_law_shelf" = some (.ref (He.ga K "_law_shelf")) := T.glo 38 (by rfl)
theorem Tx.g_law_shown (T : Tx w K mg) : mg "_law_shown" = some (.ref (He.ga K "_law_shown")) := T.glo 39 (by rfl)
theorem Tx.g_law_batch_text (T : Tx w K mg) : mg "_law_batch_text" = some (.ref (He.ga K "_law_batch_text")) := T.glo 40 (by rfl)
theorem Tx.g_law_change (T : Tx w K mg) : mg "_law_change" = some (.ref (He.ga K "_law_change")) := T.glo 41 (by rfl)
theorem Tx.g_law_names (T : Tx w K mg) : mg "_law_names" = some (.ref (He.ga K "_law_names")) := T.glo 42 (by rfl)
theorem Tx.g_law_is_right (T : Tx w K mg) : mg "_law_is_right" = some (.ref (He.ga K "_law_is_right")) := T.glo 43 (by rfl)
theorem Tx.g_law_refused (T : Tx w K mg) : mg "_law_refused" = some (.ref (He.ga K "_law_refused")) := T.glo 44 (by rfl)
theorem Tx.g_law (T : Tx w K mg) : mg "law" = some (.ref (He.ga K "law")) := T.glo 45 (by rfl)
theorem Tx.g_Feed (T : Tx w K mg) : mg "Feed" = some (.ref (He.ga K "Feed")) := T.glo 46 (by rfl)
theorem Tx.g_State (T : Tx w K mg) : mg "State" = some (.ref (He.ga K "State")) := T.glo 47 (by rfl)
theorem Tx.g_Store (T : Tx w K mg) : mg "Store" = some (.ref (He.ga K "Store")) := T.glo 48 (by rfl)
theorem Tx.g_Desk (T : Tx w K mg) : mg "Desk" = some (.ref (He.ga K "Desk")) := T.glo 49 (by rfl)
theorem Tx.g_NoNumber (T : Tx w K mg) : mg "NoNumber" = some (.ref (He.ga K "NoNumber")) := T.glo 50 (by rfl)
theorem Tx.g_NothingDone (T : Tx w K mg) : mg "NothingDone" = some (.ref (He.ga K "NothingDone")) := T.glo 51 (by rfl)
theorem Tx.g_NoName (T : Tx w K mg) : mg "NoName" = some (.ref (He.ga K "NoName")) := T.glo 52 (by rfl)
theorem Tx.g_ShelfError (T : Tx w K mg) : mg "ShelfError" = some (.ref (He.ga K "ShelfError")) := T.glo 53 (by rfl)
theorem Tx.g_FORMS (T : Tx w K mg) : mg "FORMS" = some (.ref (He.ga K "FORMS")) := T.glo 54 (by rfl)
theorem Tx.z_len (T : Tx w K mg) : mg "len" = none := T.free 55 (by rfl)
theorem Tx.z_isinstance (T : Tx w K mg) : mg "isinstance" = none := T.free 56 (by rfl)
theorem Tx.z_all (T : Tx w K mg) : mg "all" = none := T.free 57 (by rfl)
theorem Tx.z_tuple (T : Tx w K mg) : mg "tuple" = none := T.free 58 (by rfl)
theorem Tx.z_range (T : Tx w K mg) : mg "range" = none := T.free 59 (by rfl)
theorem Tx.z_enumerate (T : Tx w K mg) : mg "enumerate" = none := T.free 60 (by rfl)
theorem Tx.z_sorted (T : Tx w K mg) : mg "sorted" = none := T.free 61 (by rfl)
theorem Tx.z_str (T : Tx w K mg) : mg "str" = none := T.free 62 (by rfl)
theorem Tx.z_int (T : Tx w K mg) : mg "int" = none := T.free 63 (by rfl)
theorem Tx.z_bool (T : Tx w K mg) : mg "bool" = none := T.free 64 (by rfl)
theorem Tx.z_zip (T : Tx w K mg) : mg "zip" = none := T.free 65 (by rfl)
theorem Tx.z_min (T : Tx w K mg) : mg "min" = none := T.free 66 (by rfl)
theorem Tx.z_list (T : Tx w K mg) : mg "list" = none := T.free 67 (by rfl)
theorem Tx.z_abs (T : Tx w K mg) : mg "abs" = none := T.free 68 (by rfl)
theorem Tx.z_set (T : Tx w K mg) : mg "set" = none := T.free 69 (by rfl)
theorem Tx.z_dict (T : Tx w K mg) : mg "dict" = none := T.free 70 (by rfl)
theorem Tx.z_ValueError (T : Tx w K mg) : mg "ValueError" = none := T.free 71 (by rfl)
theorem Tx.i_MOST_KEY (T : Tx w K mg) : ∃ t, mg "MOST_KEY" = some (.int 999 t) := T.int 72 (by rfl)
theorem Tx.i_MOST_PAIRS (T : Tx w K mg) : ∃ t, mg "MOST_PAIRS" = some (.int 60 t) := T.int 73 (by rfl)
theorem Tx.i_MOST_HOURS_feeds (T : Tx w K mg) : ∃ t, mg "MOST_HOURS_feeds" = some (.int 40 t) := T.int 74 (by rfl)
theorem Tx.i_MOST_RUNS (T : Tx w K mg) : ∃ t, mg "MOST_RUNS" = some (.int 30 t) := T.int 75 (by rfl)
theorem Tx.i_MOST_FIGURES (T : Tx w K mg) : ∃ t, mg "MOST_FIGURES" = some (.int 9 t) := T.int 76 (by rfl)
theorem Tx.i_MOST_SIGNS (T : Tx w K mg) : ∃ t, mg "MOST_SIGNS" = some (.int 8 t) := T.int 77 (by rfl)
theorem Tx.s_NOTHING (T : Tx w K mg) : ∃ t, mg "NOTHING" = some (.str "-" t) := T.str 78 (by rfl)
theorem Tx.s_FIGURES (T : Tx w K mg) : ∃ t, mg "FIGURES" = some (.str "0123456789" t) := T.str 79 (by rfl)
theorem Tx.s_SMALL (T : Tx w K mg) : ∃ t, mg "SMALL" = some (.str "abcdefghijklmnopqrstuvwxyz" t) := T.str 80 (by rfl)
theorem Tx.s_NONE (T : Tx w K mg) : ∃ t, mg "NONE" = some (.str "none" t) := T.str 81 (by rfl)
theorem Tx.c_Feed (T : Tx w K mg) : Cls K (He.ga K "Feed") := T.cls 82 (by rfl)
theorem Tx.n_Feed_batches (T : Tx w K mg) : NoAttr K (He.ga K "Feed") "batches" := T.noat 83 (by rfl)
theorem Tx.n_Feed_kept (T : Tx w K mg) : NoAttr K (He.ga K "Feed") "kept" := T.noat 84 (by rfl)
theorem Tx.mk_Feed (T : Tx w K mg) : Mk K (He.ga K "Feed") (He.ma K (He.ga K "Feed") "__init__") := T.mkr 85 (by rfl)
theorem Tx.c_State (T : Tx w K mg) : Cls K (He.ga K "State") := T.cls 86 (by rfl)
theorem Tx.n_State_batches (T : Tx w K mg) : NoAttr K (He.ga K "State") "batches" := T.noat 87 (by rfl)
theorem Tx.n_State_kept (T : Tx w K mg) : NoAttr K (He.ga K "State") "kept" := T.noat 88 (by rfl)
theorem Tx.n_State_plan (T : Tx w K mg) : NoAttr K (He.ga K "State") "plan" := T.noat 89 (by rfl)
theorem Tx.n_State_made (T : Tx w K mg) : NoAttr K (He.ga K "State") "made" := T.noat 90 (by rfl)
theorem Tx.n_State_rows (T : Tx w K mg) : NoAttr K (He.ga K "State") "rows" := T.noat 91 (by rfl)
theorem Tx.mk_State (T : Tx w K mg) : Mk K (He.ga K "State") (He.ma K (He.ga K "State") "__init__") := T.mkr 92 (by rfl)
theorem Tx.c_Store (T : Tx w K mg) : Cls K (He.ga K "Store") := T.cls 93 (by rfl)
theorem Tx.n_Store_most (T : Tx w K mg) : NoAttr K (He.ga K "Store") "most" := T.noat 94 (by rfl)
theorem Tx.n_Store_state (T : Tx w K mg) : NoAttr K (He.ga K "Store") "state" := T.noat 95 (by rfl)
theorem Tx.n_Store_past (T : Tx w K mg) : NoAttr K (He.ga K "Store") "past" := T.noat 96 (by rfl)
theorem Tx.mk_Store (T : Tx w K mg) : Mk K (He.ga K "Store") (He.ma K (He.ga K "Store") "__init__") := T.mkr 97 (by rfl)
theorem Tx.c_Desk (T : Tx w K mg) : Cls K (He.ga K "Desk") := T.cls 98 (by rfl)
theorem Tx.n_Desk_kept (T : Tx w K mg) : NoAttr K (He.ga K "Desk") "kept" := T.noat 99 (by rfl)
theorem Tx.n_Desk_past (T : Tx w K mg) : NoAttr K (He.ga K "Desk") "past" := T.noat 100 (by rfl)
theorem Tx.mk_Desk (T : Tx w K mg) : Mk K (He.ga K "Desk") (He.ma K (He.ga K "Desk") "__init__") := T.mkr 101 (by rfl)
theorem Tx.m_State_last (T : Tx w K mg) : Meth K (He.ga K "State") "last" (He.ma K (He.ga K "State") "last") := T.meth 102 (by rfl)
theorem Tx.m_State_with_batch (T : Tx w K mg) : Meth K (He.ga K "State") "with_batch" (He.ma K (He.ga K "State") "with_batch") := T.meth 103 (by rfl)
theorem Tx.m_State_with_kept (T : Tx w K mg) : Meth K (He.ga K "State") "with_kept" (He.ma K (He.ga K "State") "with_kept") := T.meth 104 (by rfl)
theorem Tx.m_State_runs_up_to (T : Tx w K mg) : Meth K (He.ga K "State") "runs_up_to" (He.ma K (He.ga K "State") "runs_up_to") := T.meth 105 (by rfl)
theorem Tx.m_Store_change (T : Tx w K mg) : Meth K (He.ga K "Store") "change" (He.ma K (He.ga K "Store") "change") := T.meth 106 (by rfl)
theorem Tx.m_Store_put (T : Tx w K mg) : Meth K (He.ga K "Store") "put" (He.ma K (He.ga K "Store") "put") := T.meth 107 (by rfl)
theorem Tx.m_Store_keep (T : Tx w K mg) : Meth K (He.ga K "Store") "keep" (He.ma K (He.ga K "Store") "keep") := T.meth 108 (by rfl)
theorem Tx.m_Store_runs (T : Tx w K mg) : Meth K (He.ga K "Store") "runs" (He.ma K (He.ga K "Store") "runs") := T.meth 109 (by rfl)
theorem Tx.m_Store_stretch (T : Tx w K mg) : Meth K (He.ga K "Store") "stretch" (He.ma K (He.ga K "Store") "stretch") := T.meth 110 (by rfl)
theorem Tx.m_Store_rows (T : Tx w K mg) : Meth K (He.ga K "Store") "rows" (He.ma K (He.ga K "Store") "rows") := T.meth 111 (by rfl)
theorem Tx.m_Store_plan (T : Tx w K mg) : Meth K (He.ga K "Store") "plan" (He.ma K (He.ga K "Store") "plan") := T.meth 112 (by rfl)
theorem Tx.m_Store_copy (T : Tx w K mg) : Meth K (He.ga K "Store") "copy" (He.ma K (He.ga K "Store") "copy") := T.meth 113 (by rfl)
theorem Tx.m_Desk_undoable (T : Tx w K mg) : Meth K (He.ga K "Desk") "undoable" (He.ma K (He.ga K "Desk") "undoable") := T.meth 114 (by rfl)
theorem Tx.m_Desk_tell (T : Tx w K mg) : Meth K (He.ga K "Desk") "tell" (He.ma K (He.ga K "Desk") "tell") := T.meth 115 (by rfl)
theorem Tx.m_Desk_keep (T : Tx w K mg) : Meth K (He.ga K "Desk") "keep" (He.ma K (He.ga K "Desk") "keep") := T.meth 116 (by rfl)
theorem Tx.m_Desk_put_under (T : Tx w K mg) : Meth K (He.ga K "Desk") "put_under" (He.ma K (He.ga K "Desk") "put_under") := T.meth 117 (by rfl)
theorem Tx.m_Desk_undo (T : Tx w K mg) : Meth K (He.ga K "Desk") "undo" (He.ma K (He.ga K "Desk") "undo") := T.meth 118 (by rfl)
theorem Tx.m_Desk_store_under (T : Tx w K mg) : Meth K (He.ga K "Desk") "store_under" (He.ma K (He.ga K "Desk") "store_under") := T.meth 119 (by rfl)
theorem Tx.m_Desk_change (T : Tx w K mg) : Meth K (He.ga K "Desk") "change" (He.ma K (He.ga K "Desk") "change") := T.meth 120 (by rfl)
theorem Tx.m_Desk_answer (T : Tx w K mg) : Meth K (He.ga K "Desk") "answer" (He.ma K (He.ga K "Desk") "answer") := T.meth 121 (by rfl)
theorem Tx.x_NoNumber (T : Tx w K mg) : PySem.W.excIn K (He.ga K "NoNumber") He.veBase "ValueError.__new__" = true ∧ PySem.W.keepIn K (.ref (He.ga K "NoNumber")) = true ∧ PySem.W.subIn K (.ref (He.ga K "NoNumber")) (.type "BaseException") = some true ∧ PySem.W.typeIn K (.ref (He.ga K "NoNumber")) = some (.type "type") := T.exc 122 (by rfl)
theorem Tx.x_NothingDone (T : Tx w K mg) : PySem.W.excIn K (He.ga K "NothingDone") He.veBase "ValueError.__new__" = true ∧ PySem.W.keepIn K (.ref (He.ga K "NothingDone")) = true ∧ PySem.W.subIn K (.ref (He.ga K "NothingDone")) (.type "BaseException") = some true ∧ PySem.W.typeIn K (.ref (He.ga K "NothingDone")) = some (.type "type") := T.exc 123 (by rfl)
theorem Tx.e_NothingDone_NothingDone (T : Tx w K mg) : PySem.W.exmOne K (.ref (He.ga K "NothingDone")) (.ref (He.ga K "NothingDone")) = some true := T.exm 124 (by rfl)
theorem Tx.e_NoName_NothingDone (T : Tx w K mg) : PySem.W.exmOne K (.ref (He.ga K "NoName")) (.ref (He.ga K "NothingDone")) = some false := T.exm 125 (by rfl)
theorem Tx.e_NoName_NoName (T : Tx w K mg) : PySem.W.exmOne K (.ref (He.ga K "NoName")) (.ref (He.ga K "NoName")) = some true := T.exm 126 (by rfl)
theorem Tx.e_NoNumber_NothingDone (T : Tx w K mg) : PySem.W.exmOne K (.ref (He.ga K "NoNumber")) (.ref (He.ga K "NothingDone")) = some false := T.exm 127 (by rfl)
theorem Tx.e_NoNumber_NoName (T : Tx w K mg) : PySem.W.exmOne K (.ref (He.ga K "NoNumber")) (.ref (He.ga K "NoName")) = some false := T.exm 128 (by rfl)
theorem Tx.e_NoNumber_ShelfError (T : Tx w K mg) : PySem.W.exmOne K (.ref (He.ga K "NoNumber")) (.ref (He.ga K "ShelfError")) = some true := T.exm 129 (by rfl)
theorem Tx.n_NoName_name (T : Tx w K mg) : NoAttr K (He.ga K "NoName") "name" := T.noat 130 (by rfl)
theorem Tx.n_NoName_init (T : Tx w K mg) : Meth K (He.ga K "NoName") "__init__" (He.ma K (He.ga K "NoName") "__init__") := T.meth 131 (by rfl)
theorem Tx.f_NoName_init (T : Tx w K mg) : ∃ fd, FunD K "__init__" "NoName.__init__" (defArgs s_NoName_init) (defBody s_NoName_init) (defScope s_NoName_init) [] [] (He.fAd K ("NoName", some "__init__")) fd := T.fn 0 (d := d_NoName_init) (by rfl)
theorem Tx.f_is_integer (T : Tx w K mg) : ∃ fd, FunD K "is_integer" "is_integer" (defArgs s_is_integer) (defBody s_is_integer) (defScope s_is_integer) [] [] (He.fAd K ("is_integer", none)) fd := T.fn 1 (d := d_is_integer) (by rfl)
theorem Tx.f_is_within (T : Tx w K mg) : ∃ fd, FunD K "is_within" "is_within" (defArgs s_is_within) (defBody s_is_within) (defScope s_is_within) [] [] (He.fAd K ("is_within", none)) fd := T.fn 2 (d := d_is_within) (by rfl)
theorem Tx.f_is_pair (T : Tx w K mg) : ∃ fd, FunD K "is_pair" "is_pair" (defArgs s_is_pair) (defBody s_is_pair) (defScope s_is_pair) [] [] (He.fAd K ("is_pair", none)) fd := T.fn 3 (d := d_is_pair) (by rfl)
theorem Tx.f_is_ascending (T : Tx w K mg) : ∃ fd, FunD K "is_ascending" "is_ascending" (defArgs s_is_ascending) (defBody s_is_ascending) (defScope s_is_ascending) [] [] (He.fAd K ("is_ascending", none)) fd := T.fn 4 (d := d_is_ascending) (by rfl)
theorem Tx.f_check_number (T : Tx w K mg) : ∃ fd, FunD K "check_number" "check_number" (defArgs s_check_number) (defBody s_check_number) (defScope s_check_number) [] [] (He.fAd K ("check_number", none)) fd := T.fn 5 (d := d_check_number) (by rfl)
theorem Tx.f_check_many (T : Tx w K mg) : ∃ fd, FunD K "check_many" "check_many" (defArgs s_check_many) (defBody s_check_many) (defScope s_check_many) [] [] (He.fAd K ("check_many", none)) fd := T.fn 6 (d := d_check_many) (by rfl)
theorem Tx.f_is_key (T : Tx w K mg) : ∃ fd, FunD K "is_key" "is_key" (defArgs s_is_key) (defBody s_is_key) (defScope s_is_key) [] [] (He.fAd K ("is_key", none)) fd := T.fn 7 (d := d_is_key) (by rfl)
theorem Tx.f_check_key (T : Tx w K mg) : ∃ fd, FunD K "check_key" "check_key" (defArgs s_check_key) (defBody s_check_key) (defScope s_check_key) [] [] (He.fAd K ("check_key", none)) fd := T.fn 8 (d := d_check_key) (by rfl)
theorem Tx.f_is_told (T : Tx w K mg) : ∃ fd, FunD K "is_told" "is_told" (defArgs s_is_told) (defBody s_is_told) (defScope s_is_told) [] [] (He.fAd K ("is_told", none)) fd := T.fn 9 (d := d_is_told) (by rfl)
theorem Tx.f_is_batch (T : Tx w K mg) : ∃ fd, FunD K "is_batch" "is_batch" (defArgs s_is_batch) (defBody s_is_batch) (defScope s_is_batch) [] [] (He.fAd K ("is_batch", none)) fd := T.fn 10 (d := d_is_batch) (by rfl)
theorem Tx.f_Feed_init (T : Tx w K mg) : ∃ fd, FunD K "__init__" "Feed.__init__" (defArgs s_Feed_init) (defBody s_Feed_init) (defScope s_Feed_init) [] [] (He.fAd K ("Feed", some "__init__")) fd := T.fn 11 (d := d_Feed_init) (by rfl)
theorem Tx.f_versions_of (T : Tx w K mg) : ∃ fd, FunD K "versions_of" "versions_of" (defArgs s_versions_of) (defBody s_versions_of) (defScope s_versions_of) [] [] (He.fAd K ("versions_of", none)) fd := T.fn 12 (d := d_versions_of) (by rfl)
theorem Tx.f_needed_of (T : Tx w K mg) : ∃ fd, FunD K "needed_of" "needed_of" (defArgs s_needed_of) (defBody s_needed_of) (defScope s_needed_of) [] [] (He.fAd K ("needed_of", none)) fd := T.fn 13 (d := d_needed_of) (by rfl)
theorem Tx.f_without_struck (T : Tx w K mg) : ∃ fd, FunD K "without_struck" "without_struck" (defArgs s_without_struck) (defBody s_without_struck) (defScope s_without_struck) [] [] (He.fAd K ("without_struck", none)) fd := T.fn 14 (d := d_without_struck) (by rfl)
theorem Tx.f_made_run (T : Tx w K mg) : ∃ fd, FunD K "made_run" "made_run" (defArgs s_made_run) (defBody s_made_run) (defScope s_made_run) [] [] (He.fAd K ("made_run", none)) fd := T.fn 15 (d := d_made_run) (by rfl)
theorem Tx.f_check_most (T : Tx w K mg) : ∃ fd, FunD K "check_most" "check_most" (defArgs s_check_most) (defBody s_check_most) (defScope s_check_most) [] [] (He.fAd K ("check_most", none)) fd := T.fn 16 (d := d_check_most) (by rfl)
theorem Tx.f_pair_word (T : Tx w K mg) : ∃ fd, FunD K "pair_word" "pair_word" (defArgs s_pair_word) (defBody s_pair_word) (defScope s_pair_word) [] [] (He.fAd K ("pair_word", none)) fd := T.fn 17 (d := d_pair_word) (by rfl)
theorem Tx.f_pairs_text (T : Tx w K mg) : ∃ fd, FunD K "pairs_text" "pairs_text" (defArgs s_pairs_text) (defBody s_pairs_text) (defScope s_pairs_text) [] [] (He.fAd K ("pairs_text", none)) fd := T.fn 18 (d := d_pairs_text) (by rfl)
theorem Tx.f_begins_text (T : Tx w K mg) : ∃ fd, FunD K "begins_text" "begins_text" (defArgs s_begins_text) (defBody s_begins_text) (defScope s_begins_text) [] [] (He.fAd K ("begins_text", none)) fd := T.fn 19 (d := d_begins_text) (by rfl)
theorem Tx.f_number_of (T : Tx w K mg) : ∃ fd, FunD K "number_of" "number_of" (defArgs s_number_of) (defBody s_number_of) (defScope s_number_of) [] [] (He.fAd K ("number_of", none)) fd := T.fn 20 (d := d_number_of) (by rfl)
theorem Tx.f_value_of (T : Tx w K mg) : ∃ fd, FunD K "value_of" "value_of" (defArgs s_value_of) (defBody s_value_of) (defScope s_value_of) [] [] (He.fAd K ("value_of", none)) fd := T.fn 21 (d := d_value_of) (by rfl)
theorem Tx.f_pair_of (T : Tx w K mg) : ∃ fd, FunD K "pair_of" "pair_of" (defArgs s_pair_of) (defBody s_pair_of) (defScope s_pair_of) [] [] (He.fAd K ("pair_of", none)) fd := T.fn 22 (d := d_pair_of) (by rfl)
theorem Tx.f_pairs_of (T : Tx w K mg) : ∃ fd, FunD K "pairs_of" "pairs_of" (defArgs s_pairs_of) (defBody s_pairs_of) (defScope s_pairs_of) [] [] (He.fAd K ("pairs_of", none)) fd := T.fn 23 (d := d_pairs_of) (by rfl)
theorem Tx.f_State_init (T : Tx w K mg) : ∃ fd, FunD K "__init__" "State.__init__" (defArgs s_State_init) (defBody s_State_init) (defScope s_State_init) [] [] (He.fAd K ("State", some "__init__")) fd := T.fn 24 (d := d_State_init) (by rfl)
theorem Tx.f_State_last (T : Tx w K mg) : ∃ fd, FunD K "last" "State.last" (defArgs s_State_last) (defBody s_State_last) (defScope s_State_last) [] [] (He.fAd K ("State", some "last")) fd := T.fn 25 (d := d_State_last) (by rfl)
theorem Tx.f_State_with_batch (T : Tx w K mg) : ∃ fd, FunD K "with_batch" "State.with_batch" (defArgs s_State_with_batch) (defBody s_State_with_batch) (defScope s_State_with_batch) [] [] (He.fAd K ("State", some "with_batch")) fd := T.fn 26 (d := d_State_with_batch) (by rfl)
theorem Tx.f_State_with_kept (T : Tx w K mg) : ∃ fd, FunD K "with_kept" "State.with_kept" (defArgs s_State_with_kept) (defBody s_State_with_kept) (defScope s_State_with_kept) [] [] (He.fAd K ("State", some "with_kept")) fd := T.fn 27 (d := d_State_with_kept) (by rfl)
theorem Tx.f_State_runs_up_to (T : Tx w K mg) : ∃ fd, FunD K "runs_up_to" "State.runs_up_to" (defArgs s_State_runs_up_to) (defBody s_State_runs_up_to) (defScope s_State_runs_up_to) [] [] (He.fAd K ("State", some "runs_up_to")) fd := T.fn 28 (d := d_State_runs_up_to) (by rfl)
theorem Tx.f_Store_init (T : Tx w K mg) : ∃ fd, FunD K "__init__" "Store.__init__" (defArgs s_Store_init) (defBody s_Store_init) (defScope s_Store_init) [] [] (He.fAd K ("Store", some "__init__")) fd := T.fn 29 (d := d_Store_init) (by rfl)
theorem Tx.f_Store_change (T : Tx w K mg) : ∃ fd, FunD K "change" "Store.change" (defArgs s_Store_change) (defBody s_Store_change) (defScope s_Store_change) [] [] (He.fAd K ("Store", some "change")) fd := T.fn 30 (d := d_Store_change) (by rfl)
theorem Tx.f_Store_put (T : Tx w K mg) : ∃ fd, FunD K "put" "Store.put" (defArgs s_Store_put) (defBody s_Store_put) (defScope s_Store_put) [] [] (He.fAd K ("Store", some "put")) fd := T.fn 31 (d := d_Store_put) (by rfl)
theorem Tx.f_Store_keep (T : Tx w K mg) : ∃ fd, FunD K "keep" "Store.keep" (defArgs s_Store_keep) (defBody s_Store_keep) (defScope s_Store_keep) [] [] (He.fAd K ("Store", some "keep")) fd := T.fn 32 (d := d_Store_keep) (by rfl)
theorem Tx.f_Store_runs (T : Tx w K mg) : ∃ fd, FunD K "runs" "Store.runs" (defArgs s_Store_runs) (defBody s_Store_runs) (defScope s_Store_runs) [] [] (He.fAd K ("Store", some "runs")) fd := T.fn 33 (d := d_Store_runs) (by rfl)
theorem Tx.f_Store_stretch (T : Tx w K mg) : ∃ fd, FunD K "stretch" "Store.stretch" (defArgs s_Store_stretch) (defBody s_Store_stretch) (defScope s_Store_stretch) [] [] (He.fAd K ("Store", some "stretch")) fd := T.fn 34 (d := d_Store_stretch) (by rfl)
theorem Tx.f_Store_rows (T : Tx w K mg) : ∃ fd, FunD K "rows" "Store.rows" (defArgs s_Store_rows) (defBody s_Store_rows) (defScope s_Store_rows) [] [] (He.fAd K ("Store", some "rows")) fd := T.fn 35 (d := d_Store_rows) (by rfl)
theorem Tx.f_Store_plan (T : Tx w K mg) : ∃ fd, FunD K "plan" "Store.plan" (defArgs s_Store_plan) (defBody s_Store_plan) (defScope s_Store_plan) [] [] (He.fAd K ("Store", some "plan")) fd := T.fn 36 (d := d_Store_plan) (by rfl)
theorem Tx.f_Store_copy (T : Tx w K mg) : ∃ fd, FunD K "copy" "Store.copy" (defArgs s_Store_copy) (defBody s_Store_copy) (defScope s_Store_copy) [] [] (He.fAd K ("Store", some "copy")) fd := T.fn 37 (d := d_Store_copy) (by rfl)
theorem Tx.f_is_name (T : Tx w K mg) : ∃ fd, FunD K "is_name" "is_name" (defArgs s_is_name) (defBody s_is_name) (defScope s_is_name) [] [] (He.fAd K ("is_name", none)) fd := T.fn 38 (d := d_is_name) (by rfl)
theorem Tx.f_told_by (T : Tx w K mg) : ∃ fd, FunD K "told_by" "told_by" (defArgs s_told_by) (defBody s_told_by) (defScope s_told_by) [] [] (He.fAd K ("told_by", none)) fd := T.fn 39 (d := d_told_by) (by rfl)
theorem Tx.f_values_of (T : Tx w K mg) : ∃ fd, FunD K "values_of" "values_of" (defArgs s_values_of) (defBody s_values_of) (defScope s_values_of) [] [] (He.fAd K ("values_of", none)) fd := T.fn 40 (d := d_values_of) (by rfl)
theorem Tx.f_words_or_none (T : Tx w K mg) : ∃ fd, FunD K "words_or_none" "words_or_none" (defArgs s_words_or_none) (defBody s_words_or_none) (defScope s_words_or_none) [] [] (He.fAd K ("words_or_none", none)) fd := T.fn 41 (d := d_words_or_none) (by rfl)
theorem Tx.f_run_word (T : Tx w K mg) : ∃ fd, FunD K "run_word" "run_word" (defArgs s_run_word) (defBody s_run_word) (defScope s_run_word) [] [] (He.fAd K ("run_word", none)) fd := T.fn 42 (d := d_run_word) (by rfl)
theorem Tx.f_Desk_init (T : Tx w K mg) : ∃ fd, FunD K "__init__" "Desk.__init__" (defArgs s_Desk_init) (defBody s_Desk_init) (defScope s_Desk_init) [] [] (He.fAd K ("Desk", some "__init__")) fd := T.fn 43 (d := d_Desk_init) (by rfl)
theorem Tx.f_Desk_undoable (T : Tx w K mg) : ∃ fd, FunD K "undoable" "Desk.undoable" (defArgs s_Desk_undoable) (defBody s_Desk_undoable) (defScope s_Desk_undoable) [] [] (He.fAd K ("Desk", some "undoable")) fd := T.fn 44 (d := d_Desk_undoable) (by rfl)
theorem Tx.f_Desk_tell (T : Tx w K mg) : ∃ fd, FunD K "tell" "Desk.tell" (defArgs s_Desk_tell) (defBody s_Desk_tell) (defScope s_Desk_tell) [] [] (He.fAd K ("Desk", some "tell")) fd := T.fn 45 (d := d_Desk_tell) (by rfl)
theorem Tx.f_Desk_keep (T : Tx w K mg) : ∃ fd, FunD K "keep" "Desk.keep" (defArgs s_Desk_keep) (defBody s_Desk_keep) (defScope s_Desk_keep) [] [] (He.fAd K ("Desk", some "keep")) fd := T.fn 46 (d := d_Desk_keep) (by rfl)
theorem Tx.f_Desk_put_under (T : Tx w K mg) : ∃ fd, FunD K "put_under" "Desk.put_under" (defArgs s_Desk_put_under) (defBody s_Desk_put_under) (defScope s_Desk_put_under) [] [] (He.fAd K ("Desk", some "put_under")) fd := T.fn 47 (d := d_Desk_put_under) (by rfl)
theorem Tx.f_Desk_undo (T : Tx w K mg) : ∃ fd, FunD K "undo" "Desk.undo" (defArgs s_Desk_undo) (defBody s_Desk_undo) (defScope s_Desk_undo) [] [] (He.fAd K ("Desk", some "undo")) fd := T.fn 48 (d := d_Desk_undo) (by rfl)
theorem Tx.f_Desk_store_under (T : Tx w K mg) : ∃ fd, FunD K "store_under" "Desk.store_under" (defArgs s_Desk_store_under) (defBody s_Desk_store_under) (defScope s_Desk_store_under) [] [] (He.fAd K ("Desk", some "store_under")) fd := T.fn 49 (d := d_Desk_store_under) (by rfl)
theorem Tx.f_Desk_change (T : Tx w K mg) : ∃ fd, FunD K "change" "Desk.change" (defArgs s_Desk_change) (defBody s_Desk_change) (defScope s_Desk_change) [] [] (He.fAd K ("Desk", some "change")) fd := T.fn 50 (d := d_Desk_change) (by rfl)
theorem Tx.f_Desk_answer (T : Tx w K mg) : ∃ fd, FunD K "answer" "Desk.answer" (defArgs s_Desk_answer) (defBody s_Desk_answer) (defScope s_Desk_answer) [] [] (He.fAd K ("Desk", some "answer")) fd := T.fn 51 (d := d_Desk_answer) (by rfl)
theorem Tx.f_law_hand (T : Tx w K mg) : ∃ fd, FunD K "_law_hand" "_law_hand" (defArgs s_law_hand) (defBody s_law_hand) (defScope s_law_hand) [] [] (He.fAd K ("_law_hand", none)) fd := T.fn 52 (d := d_law_hand) (by rfl)
theorem Tx.f_law_draw (T : Tx w K mg) : ∃ fd, FunD K "_law_draw" "_law_draw" (defArgs s_law_draw) (defBody s_law_draw) (defScope s_law_draw) [] [] (He.fAd K ("_law_draw", none)) fd := T.fn 53 (d := d_law_draw) (by rfl)
theorem Tx.f_law_batch (T : Tx w K mg) : ∃ fd, FunD K "_law_batch" "_law_batch" (defArgs s_law_batch) (defBody s_law_batch) (defScope s_law_batch) [] [] (He.fAd K ("_law_batch", none)) fd := T.fn 54 (d := d_law_batch) (by rfl)
theorem Tx.f_law_sight (T : Tx w K mg) : ∃ fd, FunD K "_law_sight" "_law_sight" (defArgs s_law_sight) (defBody s_law_sight) (defScope s_law_sight) [] [] (He.fAd K ("_law_sight", none)) fd := T.fn 55 (d := d_law_sight) (by rfl)
theorem Tx.f_law_runs (T : Tx w K mg) : ∃ fd, FunD K "_law_runs" "_law_runs" (defArgs s_law_runs) (defBody s_law_runs) (defScope s_law_runs) [] [] (He.fAd K ("_law_runs", none)) fd := T.fn 56 (d := d_law_runs) (by rfl)
theorem Tx.f_law_run (T : Tx w K mg) : ∃ fd, FunD K "_law_run" "_law_run" (defArgs s_law_run) (defBody s_law_run) (defScope s_law_run) [] [] (He.fAd K ("_law_run", none)) fd := T.fn 57 (d := d_law_run) (by rfl)
theorem Tx.f_law_empty (T : Tx w K mg) : ∃ fd, FunD K "_law_empty" "_law_empty" (defArgs s_law_empty) (defBody s_law_empty) (defScope s_law_empty) [] [] (He.fAd K ("_law_empty", none)) fd := T.fn 58 (d := d_law_empty) (by rfl)
theorem Tx.f_law_with_batch (T : Tx w K mg) : ∃ fd, FunD K "_law_with_batch" "_law_with_batch" (defArgs s_law_with_batch) (defBody s_law_with_batch) (defScope s_law_with_batch) [] [] (He.fAd K ("_law_with_batch", none)) fd := T.fn 59 (d := d_law_with_batch) (by rfl)
theorem Tx.f_law_can_keep (T : Tx w K mg) : ∃ fd, FunD K "_law_can_keep" "_law_can_keep" (defArgs s_law_can_keep) (defBody s_law_can_keep) (defScope s_law_can_keep) [] [] (He.fAd K ("_law_can_keep", none)) fd := T.fn 60 (d := d_law_can_keep) (by rfl)
theorem Tx.f_law_with_kept (T : Tx w K mg) : ∃ fd, FunD K "_law_with_kept" "_law_with_kept" (defArgs s_law_with_kept) (defBody s_law_with_kept) (defScope s_law_with_kept) [] [] (He.fAd K ("_law_with_kept", none)) fd := T.fn 61 (d := d_law_with_kept) (by rfl)
theorem Tx.f_law_stay (T : Tx w K mg) : ∃ fd, FunD K "_law_stay" "_law_stay" (defArgs s_law_stay) (defBody s_law_stay) (defScope s_law_stay) [] [] (He.fAd K ("_law_stay", none)) fd := T.fn 62 (d := d_law_stay) (by rfl)
theorem Tx.f_law_shelf (T : Tx w K mg) : ∃ fd, FunD K "_law_shelf" "_law_shelf" (defArgs s_law_shelf) (defBody s_law_shelf) (defScope s_law_shelf) [] [] (He.fAd K ("_law_shelf", none)) fd := T.fn 63 (d := d_law_shelf) (by rfl)
theorem Tx.f_law_shown (T : Tx w K mg) : ∃ fd, FunD K "_law_shown" "_law_shown" (defArgs s_law_shown) (defBody s_law_shown) (defScope s_law_shown) [] [] (He.fAd K ("_law_shown", none)) fd := T.fn 64 (d := d_law_shown) (by rfl)
theorem Tx.f_law_batch_text (T : Tx w K mg) : ∃ fd, FunD K "_law_batch_text" "_law_batch_text" (defArgs s_law_batch_text) (defBody s_law_batch_text) (defScope s_law_batch_text) [] [] (He.fAd K ("_law_batch_text", none)) fd := T.fn 65 (d := d_law_batch_text) (by rfl)
theorem Tx.f_law_change (T : Tx w K mg) : ∃ fd, FunD K "_law_change" "_law_change" (defArgs s_law_change) (defBody s_law_change) (defScope s_law_change) [] [] (He.fAd K ("_law_change", none)) fd := T.fn 66 (d := d_law_change) (by rfl)
theorem Tx.f_law_names (T : Tx w K mg) : ∃ fd, FunD K "_law_names" "_law_names" (defArgs s_law_names) (defBody s_law_names) (defScope s_law_names) [] [] (He.fAd K ("_law_names", none)) fd := T.fn 67 (d := d_law_names) (by rfl)
theorem Tx.f_law_is_right (T : Tx w K mg) : ∃ fd, FunD K "_law_is_right" "_law_is_right" (defArgs s_law_is_right) (defBody s_law_is_right) (defScope s_law_is_right) [] [] (He.fAd K ("_law_is_right", none)) fd := T.fn 68 (d := d_law_is_right) (by rfl)
theorem Tx.f_law_refused (T : Tx w K mg) : ∃ fd, FunD K "_law_refused" "_law_refused" (defArgs s_law_refused) (defBody s_law_refused) (defScope s_law_refused) [] [] (He.fAd K ("_law_refused", none)) fd := T.fn 69 (d := d_law_refused) (by rfl)
theorem Tx.f_law (T : Tx w K mg) : ∃ fd, FunD K "law" "law" (defArgs s_law) (defBody s_law) (defScope s_law) [] [] (He.fAd K ("law", none)) fd := T.fn 70 (d := d_law) (by rfl)
theorem Tx.form_store (T : Tx w K mg) : ∃ t : Addr, PySem.W.nsIn K (He.ga K "FORMS") "store" = some (some (.ref t)) ∧ ∀ H : Hp, SqT K H t ((["name", "number"] : List PySem.Str).map V.str) := T.form 0 (by rfl)
theorem Tx.form_put (T : Tx w K mg) : ∃ t : Addr, PySem.W.nsIn K (He.ga K "FORMS") "put" = some (some (.ref t)) ∧ ∀ H : Hp, SqT K H t ((["name", "number", "words"] : List PySem.Str).map V.str) := T.form 1 (by rfl)
theorem Tx.form_keep (T : Tx w K mg) : ∃ t : Addr, PySem.W.nsIn K (He.ga K "FORMS") "keep" = some (some (.ref t)) ∧ ∀ H : Hp, SqT K H t ((["name"] : List PySem.Str).map V.str) := T.form 2 (by rfl)
theorem Tx.form_drop (T : Tx w K mg) : ∃ t : Addr, PySem.W.nsIn K (He.ga K "FORMS") "drop" = some (some (.ref t)) ∧ ∀ H : Hp, SqT K H t ((["name"] : List PySem.Str).map V.str) := T.form 3 (by rfl)
theorem Tx.form_undo (T : Tx w K mg) : ∃ t : Addr, PySem.W.nsIn K (He.ga K "FORMS") "undo" = some (some (.ref t)) ∧ ∀ H : Hp, SqT K H t (([] : List PySem.Str).map V.str) := T.form 4 (by rfl)
theorem Tx.form_look (T : Tx w K mg) : ∃ t : Addr, PySem.W.nsIn K (He.ga K "FORMS") "look" = some (some (.ref t)) ∧ ∀ H : Hp, SqT K H t ((["name", "number"] : List PySem.Str).map V.str) := T.form 5 (by rfl)
theorem Tx.form_at (T : Tx w K mg) : ∃ t : Addr, PySem.W.nsIn K (He.ga K "FORMS") "at" = some (some (.ref t)) ∧ ∀ H : Hp, SqT K H t ((["name", "number", "number"] : List PySem.Str).map V.str) := T.form 6 (by rfl)
theorem Tx.form_stretch (T : Tx w K mg) : ∃ t : Addr, PySem.W.nsIn K (He.ga K "FORMS") "stretch" = some (some (.ref t)) ∧ ∀ H : Hp, SqT K H t ((["name", "number", "number"] : List PySem.Str).map V.str) := T.form 7 (by rfl)
theorem Tx.form_runs (T : Tx w K mg) : ∃ t : Addr, PySem.W.nsIn K (He.ga K "FORMS") "runs" = some (some (.ref t)) ∧ ∀ H : Hp, SqT K H t ((["name"] : List PySem.Str).map V.str) := T.form 8 (by rfl)
theorem Tx.form_rows (T : Tx w K mg) : ∃ t : Addr, PySem.W.nsIn K (He.ga K "FORMS") "rows" = some (some (.ref t)) ∧ ∀ H : Hp, SqT K H t ((["name"] : List PySem.Str).map V.str) := T.form 9 (by rfl)
theorem Tx.form_plan (T : Tx w K mg) : ∃ t : Addr, PySem.W.nsIn K (He.ga K "FORMS") "plan" = some (some (.ref t)) ∧ ∀ H : Hp, SqT K H t ((["name"] : List PySem.Str).map V.str) := T.form 10 (by rfl)
theorem Tx.form_least (T : Tx w K mg) : ∃ t : Addr, PySem.W.nsIn K (He.ga K "FORMS") "least" = some (some (.ref t)) ∧ ∀ H : Hp, SqT K H t ((["name", "number"] : List PySem.Str).map V.str) := T.form 11 (by rfl)
theorem Tx.form_names (T : Tx w K mg) : ∃ t : Addr, PySem.W.nsIn K (He.ga K "FORMS") "names" = some (some (.ref t)) ∧ ∀ H : Hp, SqT K H t (([] : List PySem.Str).map V.str) := T.form 12 (by rfl)
end
end Js
/-! ### what a value stands for, what a reading evaluates to -/
namespace Js
open PySem PySem.Spec PyProof.Rows L2 Evl
/-- a value that stands for a datum (a tuple, an int, a text ..; Ls: a list as it stands) -/
class Rp (α : Type) where
  r : PySem.W.Frag → Hp → V → α → Prop
  mono : ∀ {K : PySem.W.Frag} {H H' : Hp} {v : V} {a : α}, Ex H H' → r K H v a → r K H' v a
open Rp (r)
/-- all tuples stay -/
def ExT (H H' : Hp) : Prop := ∀ (K : PySem.W.Frag) p xs, SqT K H p xs → SqT K H' p xs
theorem Ex.t {H H' : Hp} (e : Ex H H') : ExT H H' := fun _ _ _ h => ex_t e h
theorem ExT.refl (H : Hp) : ExT H H := fun _ _ _ h => h
theorem ExT.trans {H H1 H2 : Hp} (a : ExT H H1) (b : ExT H1 H2) : ExT H H2 := fun K p xs h => b K p xs (a K p xs h)
/-- of such a datum nothing but tuples is asked -/
class RpT (α : Type) [Rp α] : Prop where
  t : ∀ {K : PySem.W.Frag} {H H' : Hp} {v : V} {a : α}, ExT H H' → r K H v a → r K H' v a
theorem pd_map {α β : Type} {F G : α → β → Prop} {l : List α} {m : List β} (h : Paired F l m) (f : ∀ a b, F a b → G a b) : Paired G l m := L2.Paired.mapP h f
theorem pd_len {α β : Type} {F : α → β → Prop} {l : List α} {m : List β} (h : Paired F l m) : l.length = m.length := by
  induction h with
  | nil => rfl
  | cons _ _ ih => rw [List.length_cons, List.length_cons, ih]
theorem pd_app {α β : Type} {F : α → β → Prop} {l l' : List α} {m m' : List β} (h : Paired F l m) (h' : Paired F l' m') : Paired F (l ++ l') (m ++ m') := by
  induction h with
  | nil => exact h'
  | cons q _ ih => exact .cons q ih
theorem pd_one {α β : Type} {F : α → β → Prop} {a : α} {b : β} (h : F a b) : Paired F [a] [b] := .cons h .nil
theorem pd_get {α β : Type} {F : α → β → Prop} {l : List α} {m : List β} (h : Paired F l m) : ∀ {i : Nat} {a : α}, l[i]? = some a → ∃ b, m[i]? = some b ∧ F a b := by
  induction h with
  | nil => intro i a e; simp at e
  | cons q _ ih =>
    intro i a e
    cases i with
    | zero => simp at e; subst e; exact ⟨_, rfl, q⟩
    | succ i => exact ih (by simpa using e)
theorem pd_get' {α β : Type} {F : α → β → Prop} {l : List α} {m : List β} (h : Paired F l m) : ∀ {i : Nat} {b : β}, m[i]? = some b → ∃ a, l[i]? = some a ∧ F a b := by
  induction h with
  | nil => intro i a e; simp at e
  | cons q _ ih =>
    intro i a e
    cases i with
    | zero => simp at e; subst e; exact ⟨_, rfl, q⟩
    | succ i => exact ih (by simpa using e)
theorem pd_drop {α β : Type} {F : α → β → Prop} {l : List α} {m : List β} (h : Paired F l m) : ∀ n, Paired F (l.drop n) (m.drop n) := by
  induction h with
  | nil => intro n; simp; exact .nil
  | cons q t ih =>
    intro n
    cases n with
    | zero => exact .cons q t
    | succ n => exact ih n
theorem pd_take {α β : Type} {F : α → β → Prop} {l : List α} {m : List β} (h : Paired F l m) : ∀ n, Paired F (l.take n) (m.take n) := by
  induction h with
  | nil => intro n; simp; exact .nil
  | cons q t ih =>
    intro n
    cases n with
    | zero => exact .nil
    | succ n => exact .cons q (ih n)
theorem pd_eq {α β : Type} {f : β → α} {l : List α} {m : List β} (h : Paired (fun a b => a = f b) l m) : l = m.map f := by
  induction h with
  | nil => rfl
  | cons q _ ih => rw [List.map_cons, q, ih]
theorem pd_of {α β : Type} {F : α → β → Prop} {f : β → α} (h : ∀ b, F (f b) b) : ∀ m : List β, Paired F (m.map f) m
  | [] => .nil
  | b :: m => .cons (h b) (pd_of h m)
instance : Rp Int := ⟨fun _ _ v a => v = .int a, fun _ h => h⟩
instance : Rp Nat := ⟨fun _ _ v a => v = .int (a : Int), fun _ h => h⟩
instance : Rp Bool := ⟨fun _ _ v a => v = .bl a, fun _ h => h⟩
instance : Rp Str := ⟨fun _ _ v a => v = .str a, fun _ h => h⟩
instance : Rp Unit := ⟨fun _ _ v _ => v = .non, fun _ h => h⟩
def rOpt {α : Type} [Rp α] (K : PySem.W.Frag) (H : Hp) (v : V) : Option α → Prop
  | none => v = .non
  | some a => r K H v a
instance {α : Type} [Rp α] : Rp (Option α) := ⟨rOpt, fun {K H H' v a} e h => by
  cases a with
  | none => exact h
  | some a => exact Rp.mono (a := a) e h⟩
instance {α β : Type} [Rp α] [Rp β] : Rp (α × β) := ⟨fun K H v c => ∃ p x y, v = .ref p ∧ SqT K H p [x, y] ∧ r K H x c.1 ∧ r K H y c.2,
  fun e ⟨p, x, y, h1, h2, h3, h4⟩ => ⟨p, x, y, h1, ex_t e h2, Rp.mono e h3, Rp.mono e h4⟩⟩
/-- a triple -/
structure T3 (α β γ : Type) where
  a : α
  b : β
  c : γ
deriving DecidableEq
instance {α β γ : Type} [Rp α] [Rp β] [Rp γ] : Rp (T3 α β γ) := ⟨fun K H v c => ∃ p x y z, v = .ref p ∧ SqT K H p [x, y, z] ∧ r K H x c.a ∧ r K H y c.b ∧ r K H z c.c,
  fun e ⟨p, x, y, z, h1, h2, h3, h4, h5⟩ => ⟨p, x, y, z, h1, ex_t e h2, Rp.mono e h3, Rp.mono e h4, Rp.mono e h5⟩⟩
instance {α : Type} [Rp α] : Rp (List α) := ⟨fun K H v as => ∃ p xs, v = .ref p ∧ SqT K H p xs ∧ Paired (r K H) xs as,
  fun e ⟨p, xs, h1, h2, h3⟩ => ⟨p, xs, h1, ex_t e h2, pd_map h3 fun _ _ h => Rp.mono e h⟩⟩
/-- a list as it stands -/
structure Ls (α : Type) where
  l : List α
instance {α : Type} [Rp α] : Rp (Ls α) := ⟨fun K H v as => ∃ p xs, v = .ref p ∧ SqL K H p xs ∧ Paired (r K H) xs as.l,
  fun e ⟨p, xs, h1, h2, h3⟩ => ⟨p, xs, h1, ex_l e h2, pd_map h3 fun _ _ h => Rp.mono e h⟩⟩
instance : RpT Int := ⟨fun _ h => h⟩
instance : RpT Nat := ⟨fun _ h => h⟩
instance : RpT Bool := ⟨fun _ h => h⟩
instance : RpT Str := ⟨fun _ h => h⟩
instance : RpT Unit := ⟨fun _ h => h⟩
instance {α : Type} [Rp α] [RpT α] : RpT (Option α) := ⟨fun {K H H' v a} e h => by
  cases a with
  | none => exact h
  | some a => exact RpT.t (a := a) e h⟩
instance {α β : Type} [Rp α] [Rp β] [RpT α] [RpT β] : RpT (α × β) := ⟨fun e ⟨p, x, y, h1, h2, h3, h4⟩ => ⟨p, x, y, h1, e _ _ _ h2, RpT.t e h3, RpT.t e h4⟩⟩
instance {α β γ : Type} [Rp α] [Rp β] [Rp γ] [RpT α] [RpT β] [RpT γ] : RpT (T3 α β γ) := ⟨fun e ⟨p, x, y, z, h1, h2, h3, h4, h5⟩ => ⟨p, x, y, z, h1, e _ _ _ h2, RpT.t e h3, RpT.t e h4, RpT.t e h5⟩⟩
instance {α : Type} [Rp α] [RpT α] : RpT (List α) := ⟨fun e ⟨p, xs, h1, h2, h3⟩ => ⟨p, xs, h1, e _ _ _ h2, pd_map h3 fun _ _ h => RpT.t e h⟩⟩

def rTupS (K : PySem.W.Frag) : List V → Hp → VK → Prop := fun xs H Q => ∃ p ys, xs = [.ref p] ∧ ((SqL K H p ys ∧ ∀ l, H l = none → Q (.ref l) (upd H l (.tup ys))) ∨ (SqT K H p ys ∧ Q (.ref p) H))
/-- the reading gives a value that stands for a; what was tracked stands -/
def Er {α : Type} [Rp α] (K : PySem.W.Frag) (te : TE) (σ : L2.St) (H : Hp) (a : α) : Prop := ∀ H1, Ex H H1 → ∀ Q : VK, (∀ v H2, Ex H1 H2 → r K H2 v a → Q v H2) → te σ H1 Q
/-- it gives a new list of such -/
def El {α : Type} [Rp α] (K : PySem.W.Frag) (te : TE) (σ : L2.St) (H : Hp) (as : List α) : Prop :=
  ∀ H1, Ex H H1 → ∀ Q : VK, (∀ p xs H2, Ex H1 H2 → H1 p = none → H2 p = some (.lst xs) → Paired (r K H2) xs as → Q (.ref p) H2) → te σ H1 Q
section
variable {K : PySem.W.Frag} {σ : L2.St} {H H' : Hp} {te ta tb tc td tf tg : TE} {α β γ δ ε ζ : Type} [Rp α] [Rp β] [Rp γ] [Rp δ] [Rp ε] [Rp ζ] {a : α} {b : β} {c : γ} {d : δ}
theorem Er.mono (e : Ex H H') (h : Er K te σ H a) : Er K te σ H' a := fun H1 e1 => h H1 (e.trans e1)
theorem El.mono {as : List α} (e : Ex H H') (h : El K te σ H as) : El K te σ H' as := fun H1 e1 => h H1 (e.trans e1)
theorem El.er {as : List α} (h : El K te σ H as) : Er K te σ H (Ls.mk as) := fun H1 e1 Q q => h H1 e1 Q fun p xs H2 e2 h1 h2 h3 => q _ H2 e2 ⟨p, xs, rfl, sq_of h2, h3⟩
theorem er_ev {v : V} (h : Ev te σ H v) (hr : r K H v a) : Er K te σ H a := fun H1 e1 Q q => h H1 e1 Q fun H2 e2 => q v H2 e2 (Rp.mono (e1.trans e2) hr)
theorem er_var {i : Nat} {v : V} (h : σ[i]? = some (some v)) (hr : r K H v a) : Er K (tVar i) σ H a := er_ev (ev_var h) hr
theorem er_c {v : V} (hr : r K H v a) : Er K (tC v) σ H a := er_ev ev_c hr
theorem er_i (i : Int) : Er K (tC (.int i)) σ H i := er_c rfl
theorem er_n (i : Nat) : Er K (tC (.int (i : Int))) σ H i := er_c rfl
theorem er_s (z : Str) : Er K (tC (.str z)) σ H z := er_c rfl
theorem er_b (z : Bool) : Er K (tC (.bl z)) σ H z := er_c rfl
theorem er_no : Er K (tC .non) σ H (none : Option α) := er_c rfl
theorem er_u : Er K (tC .non) σ H () := er_c rfl
theorem Er.is {a' : α} (h : Er K te σ H a) (e : a = a') : Er K te σ H a' := e ▸ h
theorem El.is {as as' : List α} (h : El K te σ H as) (e : as = as') : El K te σ H as' := e ▸ h
theorem Er.ev {v : V} (h : Er K te σ H a) (e : ∀ H2 u, r K H2 u a → u = v) : Ev te σ H v := fun H1 e1 Q q => h H1 e1 Q fun u H2 e2 hr => by
  rw [e H2 u hr]
  exact q H2 e2
theorem Er.evI {i : Int} (h : Er K te σ H i) : Ev te σ H (.int i) := h.ev fun _ _ e => e
theorem Er.evN {i : Nat} (h : Er K te σ H i) : Ev te σ H (.int (i : Int)) := h.ev fun _ _ e => e
theorem Er.evB {i : Bool} (h : Er K te σ H i) : Ev te σ H (.bl i) := h.ev fun _ _ e => e
theorem Er.evS {i : Str} (h : Er K te σ H i) : Ev te σ H (.str i) := h.ev fun _ _ e => e
theorem Er.int {n : Nat} (h : Er K te σ H n) : Er K te σ H (n : Int) := h
theorem Er.nat {n : Nat} (h : Er K te σ H (n : Int)) : Er K te σ H n := h
theorem Er.some' (h : Er K te σ H a) : Er K te σ H (some a) := h
/-! operators -/
theorem er_II {g : Int → Int → Int} {i j : Int} (ha : Er K ta σ H i) (hb : Er K tb σ H j) : Er K (tOp (rI0 fun i j => .int (g i j)) ta tb) σ H (g i j) := er_ev (ev_op ha.evI hb.evI rv_I0) rfl
theorem er_IIc {C : Int → Int → Prop} {g : Int → Int → Int} {i j : Int} (ha : Er K ta σ H i) (hb : Er K tb σ H j) (hc : C i j) : Er K (tOp (rI C fun i j => .int (g i j)) ta tb) σ H (g i j) := er_ev (ev_op ha.evI hb.evI (rv_I (C := C) (g := fun i j => .int (g i j)) hc)) rfl
theorem er_IB {g : Int → Int → Bool} {i j : Int} (ha : Er K ta σ H i) (hb : Er K tb σ H j) : Er K (tOp (rI0 fun i j => .bl (g i j)) ta tb) σ H (g i j) := er_ev (ev_op ha.evI hb.evI rv_I0) rfl
theorem er_neg {i : Int} (ha : Er K ta σ H i) : Er K (tUn (rU fun i => .int (-i)) ta) σ H (-i) := er_ev (ev_un ha.evI ru_neg) rfl
theorem er_eqI {i j : Int} (ha : Er K ta σ H i) (hb : Er K tb σ H j) : Er K (tOp rEq ta tb) σ H (decide (i = j)) := er_ev (ev_op ha.evI hb.evI (rv_eq rfl)) (by show V.bl _ = V.bl _; congr 1; simp)
theorem er_neI {i j : Int} (ha : Er K ta σ H i) (hb : Er K tb σ H j) : Er K (tOp rNe ta tb) σ H (!decide (i = j)) := er_ev (ev_op ha.evI hb.evI (rv_ne rfl)) (by show V.bl _ = V.bl _; congr 1; simp)
theorem er_eqS {i j : Str} (ha : Er K ta σ H i) (hb : Er K tb σ H j) : Er K (tOp rEq ta tb) σ H (decide (i = j)) := er_ev (ev_op ha.evS hb.evS (rv_eq rfl)) (by show V.bl _ = V.bl _; congr 1; simp)
theorem er_neS {i j : Str} (ha : Er K ta σ H i) (hb : Er K tb σ H j) : Er K (tOp rNe ta tb) σ H (!decide (i = j)) := er_ev (ev_op ha.evS hb.evS (rv_ne rfl)) (by show V.bl _ = V.bl _; congr 1; simp)
theorem er_catS {i j : Str} (ha : Er K ta σ H i) (hb : Er K tb σ H j) (hl : i.length + j.length ≤ sizeLine) : Er K (tOp (fun x y H Q => ∃ i j, x = .str i ∧ y = .str j ∧ i.length + j.length ≤ sizeLine ∧ Q (.str (i ++ j)) H) ta tb) σ H (i ++ j) :=
  er_ev (ev_op ha.evS hb.evS (rv_val fun H1 _ _ q => ⟨i, j, rfl, rfl, hl, q⟩)) rfl
/-- is None -/
theorem er_isN {o : Option α} (hn : ∀ K H a, ¬ r K H .non (a : α)) (ha : Er K ta σ H o) : Er K (tOp (fun x y H Q => y = .non ∧ Q (.bl (decide (x = .non))) H) ta (tC .non)) σ H o.isNone := fun H1 e1 Q q => ha H1 e1 _ fun v H2 e2 hv => by
  refine ⟨rfl, q _ H2 e2 ?_⟩
  cases o with
  | none =>
    obtain rfl : v = .non := hv
    show V.bl _ = V.bl _
    simp
  | some a =>
    have hv2 : r K H2 v a := hv
    have ne : ¬ v = .non := fun z => by
      rw [z] at hv2
      exact hn _ _ _ hv2
    show V.bl _ = V.bl _
    simp [ne]
theorem er_notN {o : Option α} (hn : ∀ K H a, ¬ r K H .non (a : α)) (ha : Er K ta σ H o) : Er K (tOp (fun x y H Q => y = .non ∧ Q (.bl (!decide (x = .non))) H) ta (tC .non)) σ H o.isSome := fun H1 e1 Q q => ha H1 e1 _ fun v H2 e2 hv => by
  refine ⟨rfl, q _ H2 e2 ?_⟩
  cases o with
  | none =>
    obtain rfl : v = .non := hv
    show V.bl _ = V.bl _
    simp
  | some a =>
    have hv2 : r K H2 v a := hv
    have ne : ¬ v = .non := fun z => by
      rw [z] at hv2
      exact hn _ _ _ hv2
    show V.bl _ = V.bl _
    simp [ne]
theorem nI : ∀ K H (a : Int), ¬ r K H .non a := fun _ _ _ h => by cases (show V.non = V.int _ from h)
theorem nS : ∀ K H (a : Str), ¬ r K H .non a := fun _ _ _ h => by cases (show V.non = V.str _ from h)
theorem nP : ∀ K H (a : α × β), ¬ r K H .non a := fun _ _ _ ⟨_, _, _, h, _⟩ => by cases h
theorem nT : ∀ K H (a : List α), ¬ r K H .non a := fun _ _ _ ⟨_, _, h, _⟩ => by cases h
/-! tuples, lists -/
theorem er_tup0 : Er K (tTup tNil) σ H ([] : List α) := fun H1 e1 Q q => ⟨Nat.zero_le _, fun p hp => q _ _ (Ex.new hp) ⟨p, [], rfl, st_of upd_same, .nil⟩⟩
theorem er_tup1 (ha : Er K ta σ H a) : Er K (tTup (tCons ta tNil)) σ H [a] := fun H1 e1 Q q => ha H1 e1 _ fun v H2 e2 hv =>
  ⟨by show 1 ≤ sizeLine; decide, fun p hp => q _ _ (e2.trans (Ex.new hp)) ⟨p, [v], rfl, st_of upd_same, pd_one (Rp.mono (Ex.new hp) hv)⟩⟩
theorem er_tup2 (ha : Er K ta σ H a) (hb : Er K tb σ H b) : Er K (tTup (tCons ta (tCons tb tNil))) σ H (a, b) := fun H1 e1 Q q => ha H1 e1 _ fun v H2 e2 hv => hb H2 (e1.trans e2) _ fun u H3 e3 hu =>
  ⟨by show 2 ≤ sizeLine; decide, fun p hp => q _ _ ((e2.trans e3).trans (Ex.new hp)) ⟨p, v, u, rfl, st_of upd_same, Rp.mono (e3.trans (Ex.new hp)) hv, Rp.mono (Ex.new hp) hu⟩⟩
theorem er_tup3 (ha : Er K ta σ H a) (hb : Er K tb σ H b) (hc : Er K tc σ H c) : Er K (tTup (tCons ta (tCons tb (tCons tc tNil)))) σ H (T3.mk a b c) := fun H1 e1 Q q => ha H1 e1 _ fun v H2 e2 hv => hb H2 (e1.trans e2) _ fun u H3 e3 hu => hc H3 ((e1.trans e2).trans e3) _ fun w H4 e4 hw =>
  ⟨by show 3 ≤ sizeLine; decide, fun p hp => q _ _ (((e2.trans e3).trans e4).trans (Ex.new hp)) ⟨p, v, u, w, rfl, st_of upd_same, Rp.mono ((e3.trans e4).trans (Ex.new hp)) hv, Rp.mono (e4.trans (Ex.new hp)) hu, Rp.mono (Ex.new hp) hw⟩⟩
theorem el_0 : El K (tLst tNil) σ H ([] : List α) := fun H1 e1 Q q => ⟨Nat.zero_le _, fun p hp => q p [] _ (Ex.new hp) hp upd_same .nil⟩
theorem el_1 (ha : Er K ta σ H a) : El K (tLst (tCons ta tNil)) σ H [a] := fun H1 e1 Q q => ha H1 e1 _ fun v H2 e2 hv =>
  ⟨by show 1 ≤ sizeLine; decide, fun p hp => q p [v] _ (e2.trans (Ex.new hp)) (fresh_back e2 hp) upd_same (pd_one (Rp.mono (Ex.new hp) hv))⟩
theorem el_2 {a2 : α} (ha : Er K ta σ H a) (hb : Er K tb σ H a2) : El K (tLst (tCons ta (tCons tb tNil))) σ H [a, a2] := fun H1 e1 Q q => ha H1 e1 _ fun v H2 e2 hv => hb H2 (e1.trans e2) _ fun u H3 e3 hu =>
  ⟨by show 2 ≤ sizeLine; decide, fun p hp => q p [v, u] _ ((e2.trans e3).trans (Ex.new hp)) (fresh_back e2 (fresh_back e3 hp)) upd_same (.cons (Rp.mono (e3.trans (Ex.new hp)) hv) (pd_one (Rp.mono (Ex.new hp) hu)))⟩
theorem el_3 {a2 a3 : α} (ha : Er K ta σ H a) (hb : Er K tb σ H a2) (hc : Er K tc σ H a3) : El K (tLst (tCons ta (tCons tb (tCons tc tNil)))) σ H [a, a2, a3] := fun H1 e1 Q q => ha H1 e1 _ fun v H2 e2 hv => hb H2 (e1.trans e2) _ fun u H3 e3 hu => hc H3 ((e1.trans e2).trans e3) _ fun w H4 e4 hw =>
  ⟨by show 3 ≤ sizeLine; decide, fun p hp => q p [v, u, w] _ (((e2.trans e3).trans e4).trans (Ex.new hp)) (fresh_back e2 (fresh_back e3 (fresh_back e4 hp))) upd_same
    (.cons (Rp.mono ((e3.trans e4).trans (Ex.new hp)) hv) (.cons (Rp.mono (e4.trans (Ex.new hp)) hu) (pd_one (Rp.mono (Ex.new hp) hw))))⟩
theorem at_of' {xs : List V} {n : Int} {j : Nat} {v : V} (e : n = (j : Int)) (h : xs[j]? = some v) : atI xs n = some v := by
  rw [e]
  exact atI_nat h
/-- t[i] of a tuple of many -/
theorem er_ixT {as : List α} {n : Int} {j : Nat} (ha : Er K ta σ H as) (hb : Er K tb σ H n) (e : n = (j : Int)) (h : as[j]? = some a) : Er K (tOp (rIxT K) ta tb) σ H a := fun H1 e1 Q q => ha H1 e1 _ fun v H2 e2 hv => hb H2 (e1.trans e2) _ fun u H3 e3 hu => by
  obtain ⟨p, xs, rfl, h1, h2⟩ := Rp.mono e3 hv
  obtain rfl : u = .int n := hu
  obtain ⟨x, hx, hr⟩ := pd_get' h2 h
  exact ⟨p, xs, n, x, rfl, rfl, h1, at_of' e hx, q x H3 (e2.trans e3) hr⟩
theorem er_ixL {as : List α} {n : Int} {j : Nat} (ha : Er K ta σ H (Ls.mk as)) (hb : Er K tb σ H n) (e : n = (j : Int)) (h : as[j]? = some a) : Er K (tOp (rIxL K) ta tb) σ H a := fun H1 e1 Q q => ha H1 e1 _ fun v H2 e2 hv => hb H2 (e1.trans e2) _ fun u H3 e3 hu => by
  obtain ⟨p, xs, rfl, h1, h2⟩ := Rp.mono e3 hv
  obtain rfl : u = .int n := hu
  obtain ⟨x, hx, hr⟩ := pd_get' h2 h
  exact ⟨p, xs, n, x, rfl, rfl, h1, at_of' e hx, q x H3 (e2.trans e3) hr⟩
theorem atI_m1 {xs : List V} {v : V} (h : xs[xs.length - 1]? = some v) : atI xs (-1) = some v := by
  have hl : xs.length - 1 < xs.length := (List.getElem?_eq_some_iff.mp h).1
  unfold atI ixN
  rw [if_neg (by decide), if_pos (by omega)]
  show xs[((-1 : Int) + (xs.length : Int)).toNat]? = some v
  rw [show ((-1 : Int) + (xs.length : Int)).toNat = xs.length - 1 by omega]
  exact h
theorem er_ixLl {as : List α} (ha : Er K ta σ H (Ls.mk as)) (h : as[as.length - 1]? = some a) : Er K (tOp (rIxL K) ta (tUn (rU fun i => .int (-i)) (tC (.int 1)))) σ H a := fun H1 e1 Q q => ha H1 e1 _ fun v H2 e2 hv => by
  obtain ⟨p, xs, rfl, h1, h2⟩ := hv
  obtain ⟨x, hx, hr⟩ := pd_get' h2 h
  rw [← pd_len h2] at hx
  exact ⟨1, rfl, p, xs, _, x, rfl, rfl, h1, atI_m1 hx, q x H2 e2 hr⟩
theorem er_fst (ha : Er K ta σ H (a, b)) : Er K (tOp (rIxT K) ta (tC (.int 0))) σ H a := fun H1 e1 Q q => ha H1 e1 _ fun v H2 e2 ⟨p, x, y, ev, h1, h2, h3⟩ => by
  subst ev
  exact ⟨p, _, 0, x, rfl, rfl, h1, rfl, q x H2 e2 h2⟩
theorem er_snd (ha : Er K ta σ H (a, b)) : Er K (tOp (rIxT K) ta (tC (.int 1))) σ H b := fun H1 e1 Q q => ha H1 e1 _ fun v H2 e2 ⟨p, x, y, ev, h1, h2, h3⟩ => by
  subst ev
  exact ⟨p, _, 1, y, rfl, rfl, h1, rfl, q y H2 e2 h3⟩
theorem er_t3a (ha : Er K ta σ H (T3.mk a b c)) : Er K (tOp (rIxT K) ta (tC (.int 0))) σ H a := fun H1 e1 Q q => ha H1 e1 _ fun v H2 e2 ⟨p, x, y, z, ev, h1, h2, h3, h4⟩ => by
  subst ev
  exact ⟨p, _, 0, x, rfl, rfl, h1, rfl, q x H2 e2 h2⟩
theorem er_lenT {as : List α} (ha : Er K ta σ H as) : Er K (tCB (rLenS K) (tCons ta tNil)) σ H as.length := fun H1 e1 Q q => ha H1 e1 _ fun v H2 e2 ⟨p, xs, ev, h1, h2⟩ => by
  subst ev
  refine ⟨p, xs, rfl, .inr h1, q _ H2 e2 ?_⟩
  rw [pd_len h2]
  rfl
theorem er_lenL {as : List α} (ha : Er K ta σ H (Ls.mk as)) : Er K (tCB (rLenS K) (tCons ta tNil)) σ H as.length := fun H1 e1 Q q => ha H1 e1 _ fun v H2 e2 ⟨p, xs, ev, h1, h2⟩ => by
  subst ev
  refine ⟨p, xs, rfl, .inl h1, q _ H2 e2 ?_⟩
  rw [pd_len h2]
  rfl
theorem er_lenP (ha : Er K ta σ H (a, b)) : Er K (tCB (rLenS K) (tCons ta tNil)) σ H (2 : Int) := fun H1 e1 Q q => ha H1 e1 _ fun v H2 e2 ⟨p, x, y, ev, h1, h2⟩ => by
  subst ev
  exact ⟨p, _, rfl, .inr h1, q _ H2 e2 rfl⟩
theorem er_lenS {z : Str} (ha : Er K ta σ H z) (hl : z.length ≤ sizeLine) : Er K (tCB (fun xs H Q => ∃ z, xs = [.str z] ∧ z.length ≤ sizeLine ∧ Q (.int z.length) H) (tCons ta tNil)) σ H z.length := fun H1 e1 Q q => ha.evS H1 e1 _ fun H2 e2 =>
  ⟨z, rfl, hl, q _ H2 e2 rfl⟩
/-- a slice of a tuple -/
theorem sl_core {as : List α} {lo hi : Option Int} {v : V} {H2 : Hp} {Q : VK} (hv : r K H2 v as) (q : ∀ v H3, Ex H2 H3 → r K H3 v ((as.drop (HT.sIx as.length 0 lo)).take (HT.sIx as.length as.length hi - HT.sIx as.length 0 lo)) → Q v H3) : rSlA K v lo hi H2 Q := by
  obtain ⟨p, xs, rfl, h1, h2⟩ := hv
  have hl := pd_len h2
  refine ⟨p, xs, rfl, h1, fun hw => q _ H2 (Ex.refl _) ⟨p, xs, rfl, h1, ?_⟩, fun hw p2 hp => q _ _ (Ex.new hp) ⟨p2, _, rfl, st_of upd_same, ?_⟩⟩
  · rw [hl] at hw
    rw [hw.1, hw.2, List.drop_zero, Nat.sub_zero, List.take_length]
    exact h2
  · unfold cutV
    rw [hl]
    exact pd_map (pd_take (pd_drop h2 _) _) fun _ _ h => Rp.mono (Ex.new hp) h
theorem er_slT {as : List α} {n : Nat} (ha : Er K ta σ H as) (hb : Er K tb σ H n) : Er K (tSl (rSlA K) ta tNoPart (tPart tb)) σ H (as.take n) := fun H1 e1 Q q => ha H1 e1 _ fun v H2 e2 hv => hb H2 (e1.trans e2) _ fun u H3 e3 hu => by
  obtain rfl : u = .int (n : Int) := hu
  refine ⟨_, rfl, sl_core (Rp.mono e3 hv) fun v H4 e4 h4 => q v H4 ((e2.trans e3).trans e4) ?_⟩
  rw [HT.sIx_none, HT.sIx_nat, List.drop_zero, Nat.sub_zero] at h4
  by_cases hn : n ≤ as.length
  · rw [Nat.min_eq_left hn] at h4
    exact h4
  · rw [Nat.min_eq_right (by omega), List.take_length] at h4
    rw [List.take_of_length_le (by omega)]
    exact h4
theorem er_slD {as : List α} {n : Nat} (ha : Er K ta σ H as) (hb : Er K tb σ H n) : Er K (tSl (rSlA K) ta (tPart tb) tNoPart) σ H (as.drop n) := fun H1 e1 Q q => ha H1 e1 _ fun v H2 e2 hv => hb H2 (e1.trans e2) _ fun u H3 e3 hu => by
  obtain rfl : u = .int (n : Int) := hu
  refine ⟨_, rfl, sl_core (Rp.mono e3 hv) fun v H4 e4 h4 => q v H4 ((e2.trans e3).trans e4) ?_⟩
  rw [HT.sIx_none, HT.sIx_nat, List.take_of_length_le (by rw [List.length_drop]; omega)] at h4
  by_cases hn : n ≤ as.length
  · rw [Nat.min_eq_left hn] at h4
    exact h4
  · rw [Nat.min_eq_right (by omega), List.drop_length] at h4
    rw [List.drop_eq_nil_of_le (by omega)]
    exact h4
theorem er_slB {as : List α} {n m : Nat} (ha : Er K ta σ H as) (hb : Er K tb σ H n) (hc : Er K tc σ H m) : Er K (tSl (rSlA K) ta (tPart tb) (tPart tc)) σ H ((as.take m).drop n) := fun H1 e1 Q q => ha H1 e1 _ fun v H2 e2 hv => hb H2 (e1.trans e2) _ fun u H3 e3 hu => by
  obtain rfl : u = .int (n : Int) := hu
  refine ⟨_, rfl, hc H3 ((e1.trans e2).trans e3) _ fun u H5 e5 hu5 => ?_⟩
  obtain rfl : u = .int (m : Int) := hu5
  refine ⟨_, rfl, sl_core (Rp.mono (e3.trans e5) hv) fun v H4 e4 h4 => q v H4 (((e2.trans e3).trans e5).trans e4) ?_⟩
  rw [HT.sIx_nat, HT.sIx_nat] at h4
  have e : (as.drop (min n as.length)).take (min m as.length - min n as.length) = (as.take m).drop n := by
    rw [List.drop_take]
    by_cases hn : n ≤ as.length
    · rw [Nat.min_eq_left hn]
      by_cases hm : m ≤ as.length
      · rw [Nat.min_eq_left hm]
      · rw [Nat.min_eq_right (by omega), List.take_of_length_le (by rw [List.length_drop]; omega), List.take_of_length_le (by rw [List.length_drop]; omega)]
    · rw [show min n as.length = as.length from Nat.min_eq_right (by omega), List.drop_length, List.drop_eq_nil_of_le (show as.length ≤ n by omega)]
      simp
  rw [e] at h4
  exact h4
theorem er_catT {as bs : List α} (ha : Er K ta σ H as) (hb : Er K tb σ H bs) (hl : as.length + bs.length ≤ sizeLine) : Er K (tOp (rCatA K) ta tb) σ H (as ++ bs) := fun H1 e1 Q q => ha H1 e1 _ fun v H2 e2 hv => hb H2 (e1.trans e2) _ fun u H3 e3 hu => by
  obtain ⟨p, xs, rfl, h1, h2⟩ := Rp.mono e3 hv
  obtain ⟨p2, ys, rfl, g1, g2⟩ := hu
  refine ⟨p, p2, xs, ys, rfl, rfl, h1, g1, by rw [pd_len h2, pd_len g2]; exact hl, fun z => ?_, fun z z2 => ?_, fun z z2 q2 hp => ?_⟩
  · subst z
    cases h2
    exact q _ H3 (e2.trans e3) ⟨p2, ys, rfl, g1, g2⟩
  · subst z2
    cases g2
    rw [List.append_nil] at q
    exact q _ H3 (e2.trans e3) ⟨p, xs, rfl, h1, h2⟩
  · exact q _ _ ((e2.trans e3).trans (Ex.new hp)) ⟨q2, _, rfl, st_of upd_same, pd_map (pd_app h2 g2) fun _ _ h => Rp.mono (Ex.new hp) h⟩
theorem el_cat {as bs : List α} (ha : El K ta σ H as) (hb : El K tb σ H bs) (hl : as.length + bs.length ≤ sizeLine) : El K (tOp rCat ta tb) σ H (as ++ bs) := fun H1 e1 Q q => ha H1 e1 _ fun p xs H2 e2 _ h1 h2 => hb H2 (e1.trans e2) _ fun p2 ys H3 e3 _ g1 g2 =>
  ⟨p, p2, xs, ys, rfl, rfl, e3 _ _ h1, g1, by rw [pd_len h2, pd_len g2]; exact hl, fun q2 hp => q q2 _ _ ((e2.trans e3).trans (Ex.new hp)) (fresh_back e2 (fresh_back e3 hp)) upd_same
    (pd_app (pd_map h2 fun _ _ h => Rp.mono (e3.trans (Ex.new hp)) h) (pd_map g2 fun _ _ h => Rp.mono (Ex.new hp) h))⟩
/-- tuple(list) -/
theorem er_tupOf {as : List α} (ha : Er K ta σ H (Ls.mk as)) : Er K (tCB (rTupS K) (tCons ta tNil)) σ H as := fun H1 e1 Q q => ha H1 e1 _ fun v H2 e2 ⟨p, xs, ev, h1, h2⟩ => by
  subst ev
  exact ⟨p, xs, rfl, .inl ⟨h1, fun l hl => q _ _ (e2.trans (Ex.new hl)) ⟨l, xs, rfl, st_of upd_same, pd_map h2 fun _ _ h => Rp.mono (Ex.new hl) h⟩⟩⟩
/-- list(list or tuple) -/
theorem el_listT {as : List α} (ha : Er K ta σ H as) : El K (tCB (rListS K) (tCons ta tNil)) σ H as := fun H1 e1 Q q => ha H1 e1 _ fun v H2 e2 ⟨p, xs, ev, h1, h2⟩ => by
  subst ev
  exact ⟨p, xs, rfl, .inr h1, fun l hl => q l xs _ (e2.trans (Ex.new hl)) (fresh_back e2 hl) upd_same (pd_map h2 fun _ _ h => Rp.mono (Ex.new hl) h)⟩
/-! fields -/
theorem ev_fld {p C dx : Addr} {fs : List (Str × V)} {f : Str} {v : V} (ha : Ev ta σ H (.ref p)) (ho : H p = some (.ins C dx fs)) (hc : Cls K C) (hn : NoAttr K C f) (hl : fs.lookup f = some v) : Ev (tFld K ta f) σ H v := fun H1 e1 Q q => ha H1 e1 _ fun H2 e2 =>
  ⟨p, C, dx, fs, v, rfl, e2 _ _ (e1 _ _ ho), hc, hn, hl, q H2 e2⟩
theorem er_fld {p C dx : Addr} {fs : List (Str × V)} {f : Str} {v : V} (ha : Ev ta σ H (.ref p)) (ho : H p = some (.ins C dx fs)) (hc : Cls K C) (hn : NoAttr K C f) (hl : fs.lookup f = some v) (hr : r K H v a) : Er K (tFld K ta f) σ H a := er_ev (ev_fld ha ho hc hn hl) hr
/-! ifs, tests -/
theorem er_if {t : TT} {k : Bool} (h : EvT t σ H k) (h1 : k = true → Er K ta σ H a) (h2 : k = false → Er K tb σ H a) : Er K (tIf t ta tb) σ H a := fun H1 e Q q => h H1 e _ fun H2 e2 => by
  cases k with
  | true =>
    show ta σ H2 Q
    exact h1 rfl H2 (e.trans e2) Q fun v H3 e3 => q v H3 (e2.trans e3)
  | false =>
    show tb σ H2 Q
    exact h2 rfl H2 (e.trans e2) Q fun v H3 e3 => q v H3 (e2.trans e3)
theorem et_t {k : Bool} (h : Er K te σ H k) : EvT (tTest te) σ H k := et_test h.evB
theorem et_v {k : Bool} (h : Er K te σ H k) : EvT (tB te) σ H k := et_B h.evB
theorem et_chain {r1 r2 : R2} {i j k : Int} {b1 b2 : Bool} (ha : Er K ta σ H i) (hb : Er K tb σ H j) (hc : Er K tc σ H k) (h1 : ∀ H, RV r1 (.int i) (.int j) H (.bl b1)) (h2 : ∀ H, RV r2 (.int j) (.int k) H (.bl b2)) : EvT (tTest (tChain r1 r2 ta tb tc)) σ H (b1 && b2) := fun H1 e1 Q q =>
  ha.evI H1 e1 _ fun H2 e2 => hb.evI H2 (e1.trans e2) _ fun H3 e3 => h1 H3 H3 (Ex.refl _) _ fun H4 e4 => ⟨b1, rfl, by
    cases b1 with
    | true =>
      show tc σ H4 _
      exact hc.evI H4 (((e1.trans e2).trans e3).trans e4) _ fun H5 e5 => h2 H5 H5 (Ex.refl _) _ fun H6 e6 => ⟨b2, rfl, by simpa using q H6 ((((e2.trans e3).trans e4).trans e5).trans e6)⟩
    | false => exact ⟨false, rfl, by simpa using q H4 ((e2.trans e3).trans e4)⟩⟩
theorem er_chain {r1 r2 : R2} {i j k : Int} {b1 b2 : Bool} (ha : Er K ta σ H i) (hb : Er K tb σ H j) (hc : Er K tc σ H k) (h1 : ∀ H, RV r1 (.int i) (.int j) H (.bl b1)) (h2 : ∀ H, RV r2 (.int j) (.int k) H (.bl b2)) : Er K (tChain r1 r2 ta tb tc) σ H (b1 && b2) := fun H1 e1 Q q =>
  ha.evI H1 e1 _ fun H2 e2 => hb.evI H2 (e1.trans e2) _ fun H3 e3 => h1 H3 H3 (Ex.refl _) _ fun H4 e4 => ⟨b1, rfl, by
    cases b1 with
    | true =>
      show tc σ H4 _
      exact hc.evI H4 (((e1.trans e2).trans e3).trans e4) _ fun H5 e5 => h2 H5 H5 (Ex.refl _) _ fun H6 e6 => q _ H6 ((((e2.trans e3).trans e4).trans e5).trans e6) (by simp; rfl)
    | false => exact q _ H4 ((e2.trans e3).trans e4) (by simp; rfl)⟩
theorem er_andV {x y : Bool} (h1 : Er K ta σ H x) (h2 : x = true → Er K tb σ H y) : Er K (tAndV ta tb) σ H (x && y) := er_ev (ev_andV h1.evB fun z => (h2 z).evB) rfl
theorem er_orV {x y : Bool} (h1 : Er K ta σ H x) (h2 : x = false → Er K tb σ H y) : Er K (tOrV ta tb) σ H (x || y) := er_ev (ev_orV h1.evB fun z => (h2 z).evB) rfl
theorem er_notV {x : Bool} (h1 : Er K ta σ H x) : Er K (tNotV ta) σ H (!x) := er_ev (ev_notV h1.evB) rfl
/-! calls of defs that leave what was tracked -/
def Pu1 (K : PySem.W.Frag) (pre : α → Prop) (f : α → γ) : Sp := fun vs H Q _ => ∃ (x : V) (a : α), vs = [x] ∧ r K H x a ∧ pre a ∧ ∀ v H', Ex H H' → r K H' v (f a) → Q v H'
def Pu2 (K : PySem.W.Frag) (pre : α → β → Prop) (f : α → β → γ) : Sp := fun vs H Q _ => ∃ (x y : V) (a : α) (b : β), vs = [x, y] ∧ r K H x a ∧ r K H y b ∧ pre a b ∧ ∀ v H', Ex H H' → r K H' v (f a b) → Q v H'
def Pu3 (K : PySem.W.Frag) (pre : α → β → δ → Prop) (f : α → β → δ → γ) : Sp := fun vs H Q _ => ∃ (x y z : V) (a : α) (b : β) (c : δ), vs = [x, y, z] ∧ r K H x a ∧ r K H y b ∧ r K H z c ∧ pre a b c ∧ ∀ v H', Ex H H' → r K H' v (f a b c) → Q v H'
def Pu4 (K : PySem.W.Frag) (pre : α → β → δ → ε → Prop) (f : α → β → δ → ε → γ) : Sp := fun vs H Q _ => ∃ (x y z w : V) (a : α) (b : β) (c : δ) (d : ε), vs = [x, y, z, w] ∧ r K H x a ∧ r K H y b ∧ r K H z c ∧ r K H w d ∧ pre a b c d ∧ ∀ v H', Ex H H' → r K H' v (f a b c d) → Q v H'
theorem er_call1 {pre : α → Prop} {f : α → γ} {E : XK} (ha : Er K ta σ H a) (hp : pre a) : Er K (tCall (Pu1 K pre f) [] E (tCons ta tNil)) σ H (f a) := fun H1 e1 Q q => ha H1 e1 _ fun v H2 e2 hv =>
  ⟨v, a, rfl, hv, hp, fun u H3 e3 hu => q u H3 (e2.trans e3) hu⟩
theorem er_call2 {pre : α → β → Prop} {f : α → β → γ} {E : XK} (ha : Er K ta σ H a) (hb : Er K tb σ H b) (hp : pre a b) : Er K (tCall (Pu2 K pre f) [] E (tCons ta (tCons tb tNil))) σ H (f a b) := fun H1 e1 Q q => ha H1 e1 _ fun v H2 e2 hv => hb H2 (e1.trans e2) _ fun v2 H3 e3 hv2 =>
  ⟨v, v2, a, b, rfl, Rp.mono e3 hv, hv2, hp, fun u H4 e4 hu => q u H4 ((e2.trans e3).trans e4) hu⟩
theorem er_call3 {pre : α → β → δ → Prop} {f : α → β → δ → γ} {E : XK} (ha : Er K ta σ H a) (hb : Er K tb σ H b) (hc : Er K tc σ H d) (hp : pre a b d) : Er K (tCall (Pu3 K pre f) [] E (tCons ta (tCons tb (tCons tc tNil)))) σ H (f a b d) := fun H1 e1 Q q =>
  ha H1 e1 _ fun v H2 e2 hv => hb H2 (e1.trans e2) _ fun v2 H3 e3 hv2 => hc H3 ((e1.trans e2).trans e3) _ fun v3 H4 e4 hv3 =>
  ⟨v, v2, v3, a, b, d, rfl, Rp.mono (e3.trans e4) hv, Rp.mono e4 hv2, hv3, hp, fun u H5 e5 hu => q u H5 (((e2.trans e3).trans e4).trans e5) hu⟩
theorem er_call4 {pre : α → β → δ → ε → Prop} {f : α → β → δ → ε → γ} {E : XK} {x4 : ε} (ha : Er K ta σ H a) (hb : Er K tb σ H b) (hc : Er K tc σ H d) (hd : Er K td σ H x4) (hp : pre a b d x4) : Er K (tCall (Pu4 K pre f) [] E (tCons ta (tCons tb (tCons tc (tCons td tNil))))) σ H (f a b d x4) := fun H1 e1 Q q =>
  ha H1 e1 _ fun v H2 e2 hv => hb H2 (e1.trans e2) _ fun v2 H3 e3 hv2 => hc H3 ((e1.trans e2).trans e3) _ fun v3 H4 e4 hv3 => hd H4 (((e1.trans e2).trans e3).trans e4) _ fun v4 H5 e5 hv4 =>
  ⟨v, v2, v3, v4, a, b, d, x4, rfl, Rp.mono ((e3.trans e4).trans e5) hv, Rp.mono (e4.trans e5) hv2, Rp.mono e5 hv3, hv4, hp, fun u H6 e6 hu => q u H6 ((((e2.trans e3).trans e4).trans e5).trans e6) hu⟩
/-! statements -/
variable {D : Ends} {tu tw : TS}
theorem r_set {i : Nat} (h : Er K te σ H a) (k : ∀ v H1, Ex H H1 → r K H1 v a → D.nx (σ.set i (some v)) H1) : tAsg te (gName i) D σ H := h H (Ex.refl H) _ k
theorem r_setL {i : Nat} {as : List α} (h : El K te σ H as) (k : ∀ p xs H1, Ex H H1 → H p = none → H1 p = some (.lst xs) → Paired (r K H1) xs as → D.nx (σ.set i (some (.ref p))) H1) : tAsg te (gName i) D σ H := h H (Ex.refl H) _ k
theorem r_ret (h : Er K te σ H a) (k : ∀ v H1, Ex H H1 → r K H1 v a → D.rt v H1) : tRet te D σ H := h H (Ex.refl H) _ k
theorem r_drop (h : Er K te σ H a) (k : ∀ v H1, Ex H H1 → r K H1 v a → D.nx σ H1) : tDrop te D σ H := h H (Ex.refl H) _ k
theorem r_if {t : TT} {k : Bool} (h : EvT t σ H k) (h1 : k = true → ∀ H1, Ex H H1 → tu D σ H1) (h2 : k = false → ∀ H1, Ex H H1 → tw D σ H1) : tIfS t tu tw D σ H := s_if h h1 h2
end
end Js
/-! ### defs as they are called here -/
namespace Js
open PySem PySem.Spec PyProof.Rows L2 Evl
open Rp (r)
/-- the def at p keeps the promise sp (it may raise as sp's fourth letter says) -/
structure FnAt (P : Program) (w : World) (K : PySem.W.Frag) (mg : Str → Option Value) (base : Heap) (k : Nat) (p : Addr) (sp : Sp) : Prop where
  ex : ∃ (fd : FuncData) (ps : List Str), FnOk P w K mg base (L2.CX P w) k p fd ps sp ∧ Binds K fd ps [] ∧ PySem.W.keepIn K (.ref p) = true
section
variable {P : Program} {w : World} {K : PySem.W.Frag} {mg : Str → Option Value} {base : Heap}
theorem FnAt.mono {k j : Nat} {p : Addr} {sp : Sp} (F : FnAt P w K mg base k p sp) (h : k ≤ j) : FnAt P w K mg base j p sp := by
  obtain ⟨fd, ps, h1, h2, h3⟩ := F.ex
  exact ⟨fd, ps, h1.mono h, h2, h3⟩
theorem FnAt.imp {k : Nat} {p : Addr} {sp sp' : Sp} (F : FnAt P w K mg base k p sp) (h : ∀ vs H Q E, sp' vs H Q E → sp vs H Q E) : FnAt P w K mg base k p sp' := by
  obtain ⟨fd, ps, h1, h2, h3⟩ := F.ex
  exact ⟨fd, ps, h1.imp h, h2, h3⟩
abbrev EndR (Q : VK) : Ends := { nx := fun _ H' => Q .non H', rt := Q }
/-- the def's promise by its body, nothing raised -/
theorem mk0 {x qual : Str} {params : Arguments} {body : List Stmt} {scope : Scope} {p : Addr} {N ps : List Str} (k : Nat) {sp : Sp} (F : ∃ fd, FunD K x qual params body scope [] [] p fd) (S : FnScope N ps scope)
    (b : ∀ (kV doc pm : Value) (an : Option Addr) (cdv ct : Value) (us : List Value), us.length = ps.length → bindArgs (PySem.W.fnOf x qual params body scope .none kV doc pm an cdv ct) ⟨us, []⟩ = pure (ps.zip us))
    (len : ∀ vs H Q E, sp vs H Q E → vs.length = ps.length)
    (hbody : ∀ (cdv : Value) (A : Around) (outer : List Env) (s : Shared) (H : Hp) (vs : List V) (Q : VK) (E : XK), Room k (A.deeper (envOfC qual scope s.heap.objs.size p cdv)) → sp vs H Q E →
      ∃ t, PSs (cxOf (L2.CX P w) P w K mg base N qual scope p cdv A outer s H E).nox body t ∧ t (EndR Q) (start N vs) H) : FnAt P w K mg base (k + 1) p sp := by
  obtain ⟨fd, F⟩ := F
  refine ⟨fd, ps, F.ok S len fun cdv A outer s H vs Q E hr h => ?_, F.bindsN b, F.kp⟩
  obtain ⟨t, h1, h2⟩ := hbody cdv A outer s H vs Q E hr h
  exact ⟨t, h1.nox, h2⟩
/-- the same of a def that may raise -/
theorem mkX {x qual : Str} {params : Arguments} {body : List Stmt} {scope : Scope} {p : Addr} {N ps : List Str} (k : Nat) {sp : Sp} (F : ∃ fd, FunD K x qual params body scope [] [] p fd) (S : FnScope N ps scope)
    (b : ∀ (kV doc pm : Value) (an : Option Addr) (cdv ct : Value) (us : List Value), us.length = ps.length → bindArgs (PySem.W.fnOf x qual params body scope .none kV doc pm an cdv ct) ⟨us, []⟩ = pure (ps.zip us))
    (len : ∀ vs H Q E, sp vs H Q E → vs.length = ps.length)
    (hbody : ∀ (cdv : Value) (A : Around) (outer : List Env) (s : Shared) (H : Hp) (vs : List V) (Q : VK) (E : XK), Room k (A.deeper (envOfC qual scope s.heap.objs.size p cdv)) → sp vs H Q E →
      ∃ t, PSs (cxOf (L2.CX P w) P w K mg base N qual scope p cdv A outer s H E) body t ∧ t (EndR Q) (start N vs) H) : FnAt P w K mg base (k + 1) p sp := by
  obtain ⟨fd, F⟩ := F
  exact ⟨fd, ps, F.ok S len hbody, F.bindsN b, F.kp⟩
end
/-- what a call may let out: nothing -/
abbrev eN : L2.St → XK := fun _ _ _ _ => False
theorem passN {X : Cx} (σ : L2.St) : PassesAt (L2.CX X.prog X.w) X σ (eN σ) := fun _ _ _ _ _ _ h => by
  obtain ⟨_, _, _, _, _, _, _, _, _, _, _, _, z⟩ := h
  exact z.elim
def tF (sp : Sp) (E : L2.St → XK) (t : TA) : TE := fun σ H Q => t σ H fun vs H1 => sp vs H1 Q (E σ)
def tM (C : Addr) (m : Str) (sp : Sp) (E : L2.St → XK) (ta : TE) (t : TA) : TE := fun σ H Q => ta σ H fun x H1 => ∃ a dx fs, x = .ref a ∧ H1 a = some (.ins C dx fs) ∧ fs.lookup m = none ∧ t σ H1 fun vs H2 => sp (x :: vs) H2 Q (E σ)
def tO (C : Addr) (sp : Sp) (E : L2.St → XK) (t : TA) : TE := fun σ H Q => t σ H fun vs H1 => ∀ x dx, H1 x = none → H1 dx = none → dx ≠ x → sp (.ref x :: vs) (upd (upd H1 dx (.own x)) x (.ins C dx [])) (fun v H2 => v = .non ∧ Q (.ref x) H2) (E σ)
section
variable {X : Cx} {k j : Nat} {f C : Addr} {sp : Sp} {E : L2.St → XK} {x m : Str} {p pos apos : Pos} {e o : Expr} {es : List Expr} {ta : TE} {t : TA}
theorem pe_f (c : FnAt X.prog X.w X.K X.mg X.base k f sp) (hm : X.mg x = some (.ref f)) (hr : Room j X.A) (hk : k ≤ j) (hx : ∀ σ, PassesAt (L2.CX X.prog X.w) X σ (E σ)) (ha : PA X (e :: es) t) (hg : Gl X x := by rfl)
    (hdb : (x == ("__debug__" : Str)) = false := by decide) (he : starEach (e :: es) X.env = (false, eval e X.env) :: starEach es X.env := by rfl) (hpl : (backTo pos (starEach es X.env)).any (·.1) = false := by rfl) : PE X (.Call (.Name x p) (e :: es) [] pos) (tF sp E t) := by
  obtain ⟨fd, ps, F, b, kp⟩ := c.ex
  exact pe_callS F (hr.mono hk) hg hm kp b hx ha hdb he hpl
theorem pe_m {pl : Sem Bool} (c : FnAt X.prog X.w X.K X.mg X.base k f sp) (cl : Cls X.K C) (hm : Meth X.K C m f) (hr : Room j X.A) (hk : k ≤ j) (hx : ∀ σ, PassesAt (L2.CX X.prog X.w) X σ (E σ)) (he : PE X o ta) (ha : PA X (e :: es) t)
    (hst : starEach (e :: es) X.env = (false, eval e X.env) :: starEach es X.env := by rfl) (hpl : (backTo pos (starEach es X.env)).any (·.1) = false := by rfl)
    (ht : eval (.Call (.Attribute o m apos) (e :: es) [] pos) X.env = (do
      let ov ← eval o X.env
      standAt apos.atName
      let (f, first) ← holding [ov] (getMethod ov m pl)
      callWith pos f first (backTo pos (starEach (e :: es) X.env)) (backToKw pos (keywordEach [] X.env))) := by rfl) : PE X (.Call (.Attribute o m apos) (e :: es) [] pos) (tM C m sp E ta t) := by
  obtain ⟨fd, ps, F, b, kp⟩ := c.ex
  refine ⟨fun pins s σ H Q I h => PySem.W.methodCall_KW (pl := pl) (thn (he.run pins s σ H _ I h) fun u s1 q0 => ?_) ht⟩
  obtain ⟨y, H1, I1, rx, a, dx, fs, ex, ea, l, q⟩ := q0
  subst ex
  obtain rfl : u = Value.ref a := rx
  refine getmeth_ok I1 ea cl hm l (PySem.W.callWith_K (first := [.ref a]) (h₀ := X.base) I.ok.mod.kin hm.kp (thn (ha.run pos pins s1 σ H1 _ I1 q) fun us s2 q1 => ?_) hst hpl)
  obtain ⟨vs, H2, I2, r, q2⟩ := q1
  exact ⟨I2.kIn, run_fnS (us := .ref a :: us) (vs := .ref a :: vs) F (hr.mono hk) b (hx σ) I2 (.cons rfl r) q2⟩
theorem pe_m0 {pl : Sem Bool} (c : FnAt X.prog X.w X.K X.mg X.base k f sp) (cl : Cls X.K C) (hm : Meth X.K C m f) (hr : Room j X.A) (hk : k ≤ j) (hx : ∀ σ, PassesAt (L2.CX X.prog X.w) X σ (E σ)) (he : PE X o ta)
    (ht : eval (.Call (.Attribute o m apos) [] [] pos) X.env = (do
      let ov ← eval o X.env
      standAt apos.atName
      let (f, first) ← holding [ov] (getMethod ov m pl)
      callWith pos f first (backTo pos (starEach [] X.env)) (backToKw pos (keywordEach [] X.env))) := by rfl) : PE X (.Call (.Attribute o m apos) [] [] pos) (tM C m sp E ta tNil) := by
  obtain ⟨fd, ps, F, b, kp⟩ := c.ex
  refine ⟨fun pins s σ H Q I h => PySem.W.methodCall_KW (pl := pl) (thn (he.run pins s σ H _ I h) fun u s1 q0 => ?_) ht⟩
  obtain ⟨y, H1, I1, rx, a, dx, fs, ex, ea, l, q⟩ := q0
  subst ex
  obtain rfl : u = Value.ref a := rx
  exact getmeth_ok I1 ea cl hm l (PySem.W.callWith_K0 (first := [.ref a]) I1.kIn hm.kp (run_fnS (us := [.ref a]) (vs := [.ref a]) F (hr.mono hk) b (hx σ) I1 (.cons rfl .nil) q))
theorem run_o {pins : List (Addr × Obj)} {σ : L2.St} {H : Hp} {s : Shared} {Q : VK} {us : List Value} {vs : List V} (M : Mk X.K C f) (c : FnAt X.prog X.w X.K X.mg X.base k f sp) (hr : Room (k + 1) X.A) (hx : ∀ σ, PassesAt (L2.CX X.prog X.w) X σ (E σ)) (I : L2.Inv X pins σ H s) (rv : Vals vs us)
    (h : ∀ x dx, H x = none → H dx = none → dx ≠ x → sp (.ref x :: vs) (upd (upd H dx (.own x)) x (.ins C dx [])) (fun v H2 => v = .non ∧ Q (.ref x) H2) (E σ)) : wpAny (model X.prog X.w) X.A (call (.ref C) us) (EP X pins σ Q) X.xe s := by
  obtain ⟨fd, ps, F, b, kp⟩ := c.ex
  have hq := h (s.heap.objs.size + 1) s.heap.objs.size (I.hok.fresh (Nat.le_succ _)) (I.hok.fresh (Nat.le_refl _)) (Nat.ne_of_lt (Nat.lt_succ_self _))
  have I2 := L2.Inv.made (C := C) I
  have r2 : Vals (V.ref (s.heap.objs.size + 1) :: vs) (Value.ref (s.heap.objs.size + 1) :: us) := .cons rfl rv
  have hl : (Value.ref (s.heap.objs.size + 1) :: us ++ []).length = ps.length := by
    rw [List.append_nil, ← r2.length]
    exact F.len _ _ _ _ hq
  have bb := b _ (Value.ref (s.heap.objs.size + 1) :: us) I2.kIn hl
  rw [List.append_nil] at bb
  refine wpAny_call (make_map (f := f) I.kIn M.makes M.init (beq_iff_eq.mp M.fn) (codeAny_mono (F.run _ X.stack _ _ ⟨Value.ref (s.heap.objs.size + 1) :: us, []⟩ (Value.ref (s.heap.objs.size + 1) :: us) _ _ (E σ) (hr.make C us []) (I2.env0.make C us []) bb r2 hq) fun rr s' hq' => ?_))
  cases rr with
  | error e => exact hx σ pins _ _ e s' I2 hq'
  | ok fl =>
    cases fl with
    | ret u =>
      obtain ⟨v, H', I3, rv, ev, q3⟩ := I2.after hq'
      subst ev
      exact ⟨rv, V.ref (s.heap.objs.size + 1), H', I3, rfl, q3⟩
    | next => exact hq'.elim
    | brk => exact hq'.elim
    | cont => exact hq'.elim
theorem pe_o (M : Mk X.K C f) (c : FnAt X.prog X.w X.K X.mg X.base k f sp) (hm : X.mg x = some (.ref C)) (hr : Room j X.A) (hk : k + 1 ≤ j) (hx : ∀ σ, PassesAt (L2.CX X.prog X.w) X σ (E σ)) (ha : PA X (e :: es) t) (hg : Gl X x := by rfl)
    (hdb : (x == ("__debug__" : Str)) = false := by decide) (he : starEach (e :: es) X.env = (false, eval e X.env) :: starEach es X.env := by rfl) (hpl : (backTo pos (starEach es X.env)).any (·.1) = false := by rfl) : PE X (.Call (.Name x p) (e :: es) [] pos) (tO C sp E t) := by
  refine ⟨fun pins s σ H Q I h => wpAny_Call_Name_kw (ld_glob I hg hm ?_ hdb)⟩
  refine PySem.W.callWith_K (h₀ := X.base) I.ok.mod.kin M.kp (thn (ha.run pos pins s σ H _ I h) fun us s1 q1 => ?_) he hpl
  obtain ⟨vs, H1, I1, rr, q⟩ := q1
  exact ⟨I1.kIn, run_o M c (hr.mono hk) hx I1 rr q⟩
theorem pe_o0 (M : Mk X.K C f) (c : FnAt X.prog X.w X.K X.mg X.base k f sp) (hm : X.mg x = some (.ref C)) (hr : Room j X.A) (hk : k + 1 ≤ j) (hx : ∀ σ, PassesAt (L2.CX X.prog X.w) X σ (E σ)) (hg : Gl X x := by rfl)
    (hdb : (x == ("__debug__" : Str)) = false := by decide) : PE X (.Call (.Name x p) [] [] pos) (tO C sp E tNil) :=
  ⟨fun pins s σ H Q I h => wpAny_Call_Name_kw (ld_glob I hg hm (PySem.W.callWith_K0 I.kIn M.kp (run_o (us := []) M c (hr.mono hk) hx I .nil h)) hdb)⟩
theorem pe_gi {i : Int} (h : ∃ t, X.mg x = some (.int i t)) (hg : Gl X x := by rfl) (hd : (x == ("__debug__" : Str)) = false := by decide) : PE X (.Name x pos) (tC (.int i)) := by
  obtain ⟨t, hm⟩ := h
  exact pe_glob hg hm ⟨t, rfl⟩ hd
theorem pe_gs {i : Str} (h : ∃ t, X.mg x = some (.str i t)) (hg : Gl X x := by rfl) (hd : (x == ("__debug__" : Str)) = false := by decide) : PE X (.Name x pos) (tC (.str i)) := by
  obtain ⟨t, hm⟩ := h
  exact pe_glob hg hm ⟨t, rfl⟩ hd
theorem pe_ga {a : Addr} (hm : X.mg x = some (.ref a)) (hg : Gl X x := by rfl) (hd : (x == ("__debug__" : Str)) = false := by decide) : PE X (.Name x pos) (tC (.ref a)) := pe_glob hg hm rfl hd
end
/-! ### calls evaluated -/
section
variable {K : PySem.W.Frag} {σ : L2.St} {H H' : Hp} {te ta tb tc td : TE} {α β γ δ ε : Type} [Rp α] [Rp β] [Rp γ] [Rp δ] [Rp ε] {a : α} {b : β} {c : γ} {d : δ}
theorem er_f1 {pre : α → Prop} {f : α → γ} {E : L2.St → XK} (ha : Er K ta σ H a) (hp : pre a) : Er K (tF (Pu1 K pre f) E (tCons ta tNil)) σ H (f a) := fun H1 e1 Q q => ha H1 e1 _ fun v H2 e2 hv => ⟨v, a, rfl, hv, hp, fun u H3 e3 hu => q u H3 (e2.trans e3) hu⟩
theorem er_f2 {pre : α → β → Prop} {f : α → β → γ} {E : L2.St → XK} (ha : Er K ta σ H a) (hb : Er K tb σ H b) (hp : pre a b) : Er K (tF (Pu2 K pre f) E (tCons ta (tCons tb tNil))) σ H (f a b) := fun H1 e1 Q q => ha H1 e1 _ fun v H2 e2 hv => hb H2 (e1.trans e2) _ fun v2 H3 e3 hv2 =>
  ⟨v, v2, a, b, rfl, Rp.mono e3 hv, hv2, hp, fun u H4 e4 hu => q u H4 ((e2.trans e3).trans e4) hu⟩
theorem er_f3 {pre : α → β → δ → Prop} {f : α → β → δ → γ} {E : L2.St → XK} (ha : Er K ta σ H a) (hb : Er K tb σ H b) (hc : Er K tc σ H d) (hp : pre a b d) : Er K (tF (Pu3 K pre f) E (tCons ta (tCons tb (tCons tc tNil)))) σ H (f a b d) := fun H1 e1 Q q =>
  ha H1 e1 _ fun v H2 e2 hv => hb H2 (e1.trans e2) _ fun v2 H3 e3 hv2 => hc H3 ((e1.trans e2).trans e3) _ fun v3 H4 e4 hv3 =>
  ⟨v, v2, v3, a, b, d, rfl, Rp.mono (e3.trans e4) hv, Rp.mono e4 hv2, hv3, hp, fun u H5 e5 hu => q u H5 (((e2.trans e3).trans e4).trans e5) hu⟩
theorem er_f4 {pre : α → β → δ → ε → Prop} {f : α → β → δ → ε → γ} {E : L2.St → XK} {x4 : ε} (ha : Er K ta σ H a) (hb : Er K tb σ H b) (hc : Er K tc σ H d) (hd : Er K td σ H x4) (hp : pre a b d x4) : Er K (tF (Pu4 K pre f) E (tCons ta (tCons tb (tCons tc (tCons td tNil))))) σ H (f a b d x4) := fun H1 e1 Q q =>
  ha H1 e1 _ fun v H2 e2 hv => hb H2 (e1.trans e2) _ fun v2 H3 e3 hv2 => hc H3 ((e1.trans e2).trans e3) _ fun v3 H4 e4 hv3 => hd H4 (((e1.trans e2).trans e3).trans e4) _ fun v4 H5 e5 hv4 =>
  ⟨v, v2, v3, v4, a, b, d, x4, rfl, Rp.mono ((e3.trans e4).trans e5) hv, Rp.mono (e4.trans e5) hv2, Rp.mono e5 hv3, hv4, hp, fun u H6 e6 hu => q u H6 ((((e2.trans e3).trans e4).trans e5).trans e6) hu⟩
end
end Js
/-! ### set(list of ints) with an order that sorted can walk -/
namespace Jg
open PySem PySem.Spec PyProof.Rows L2
abbrev led0 (w : World) : Obj := { cls := .type "set", dict := none, data := .set #[] 0 (.fresh 0 0 (!w.params.followText "set-order")) }
/-- the set at a holds just the ints of ns; L says them once each -/
def SetN (w : World) (h : Heap) (a : Addr) (ns : List Int) : Prop := ∃ L : List Int, L.Nodup ∧ (∀ k, k ∈ L ↔ k ∈ ns) ∧ SetR w h a (fun j => decide (j ∈ ns)) L.length
theorem setN_of {w : World} {h : Heap} {a : Addr} {ns : List Int} {c : Nat} (R : SetR w h a (fun j => decide (j ∈ ns)) c) : SetN w h a ns := by
  obtain ⟨o, es, ep, t, r1, r2, r3, r4, r5, r6, r7, r8, r9, r10, r11⟩ := R
  refine ⟨es.toList.map keyOf, r5, fun k => ?_, o, es, ep, t, r1, r2, r3, r4, r5, r6, r7, r8, ?_, r10, r11⟩
  · have q := r6 k
    rw [decide_eq_true_eq] at q
    exact q.symm
  · rw [List.length_map, Array.length_toList]
section
variable {P : Program} {w : World} {A : Around} {E : Value → Shared → Prop} {s : Shared}
set_option maxHeartbeats 6400000 in
theorem set_of_list {l : Addr} {its : Array Value} (ns : List Int) {Q : Value → Shared → Prop} (calm : A.handled = none) (isL : s.heap.IsList l its) (inz : IntsAre its.toList ns) (few : ns.length + 1 < scanBound)
    (k : ∀ (h2 : Heap) (tk : Nat), SetN w h2 s.heap.objs.size ns → (∀ b o, s.heap.get? b = some o → h2.get? b = some o) → Q (.ref s.heap.objs.size) { s with heap := h2, toks := tk }) : wpAny (model P w) A (call (.type "set") [.ref l]) Q E s := by
  have sz : its.size = ns.length := (Array.length_toList (xs := its)).symm.trans (IntsAre.length inz)
  have ⟨mC, mT, mE⟩ := PySem.F.called_set.mro
  have m1 := PySem.F.called_set.made; have m2 := PySem.F.called_set.sub
  refine wpAny_call (codeAny_of_tree (show wpAny _ _ (callAny (.type "set") _) _ _ _ from wpAny_pure ⟨Code.quiet_builtin _ (by decide +kernel), codeAny_builtin PySem.F.entry_type_call ?_⟩))
  rw [Around.under_plain (weight_type_call_type "set" [.ref l] []) (by rfl)]
  have m3 := PySem.F.called_set.notType; have m4 := PySem.F.called_set.canCreate; have m5 := PySem.F.typeCall_set_1 (.ref l)
  repeat (any_goals first | assumption | wp_step)
  refine codeAny_mono (code_set_led1 (.ref l) (E := E) (Q₁ := fun ob s1 => ob = .ref s.heap.objs.size ∧ s1 = { s with heap := s.heap.push (led0 w) }) ⟨rfl, rfl⟩) fun r s1 hr => ?_
  rcases r with e | (ob | _ | _ | _)
  · exact hr
  · exact hr.elim
  · exact hr.elim
  · exact hr.elim
  · obtain ⟨e1, e2⟩ := hr
    subst e1 e2
    have at1 : (s.heap.push (led0 w)).get? s.heap.objs.size = some (led0 w) := Heap.get?_push_size _ rfl
    have ty : Shared.TypeIs { s with heap := s.heap.push (led0 w) } (.ref s.heap.objs.size) "set" := ⟨_, at1, rfl⟩
    have i1 := PySem.F.called_set.init.lookup; have i2 := PySem.F.called_set.init.bind (.ref s.heap.objs.size)
    repeat (any_goals first | assumption | wp_step)
    refine codeAny_mono (codeAny_call_builtin (R := wants (fun r s2 => r = .none ∧ ∃ h2 tk, s2 = { s with heap := h2, toks := tk } ∧ SetN w h2 s.heap.objs.size ns ∧ (∀ b o, s.heap.get? b = some o → h2.get? b = some o)) E)
      PySem.F.called_set.init.plain PySem.F.entry_set_init (check_set_init_1 ty ?_)) fun r2 s2 hr2 => ?_
    · obtain ⟨⟨oc, od, dt, sl⟩, ho, hc, nl, hd⟩ := isL
      simp only at hc hd
      subst hc hd
      have ho1 : (s.heap.push (led0 w)).get? l = some { cls := .type "list", dict := od, data := .seq its nl, slots := sl } := Heap.get?_push_of_some _ ho
      have t1 := PySem.F.sub_list_set; have t2 := PySem.F.sub_list_frozenset
      have t3 : (Value.type "list" == Value.type "dict") = false := by decide
      have isL1 : (s.heap.push (led0 w)).IsList l its := ⟨_, ho1, rfl, nl, rfl⟩
      unfold Builtin.«set.__init__» noKeywords Builtin.Frozenset.updateFrom
      generalize eI : pyIter = itf
      wp_walk
      subst eI
      refine wpAny_pyIter_list isL1 (wpAny_bind (wpAny_runValue ?_))
      have ll : l < s.heap.objs.size := Heap.lt_size ho
      have calm3 : A.in1.in1.in1.handled = none := by simp [calm]
      have e3 : (s.heap.push (led0 w)).objs.size = s.heap.objs.size + 1 := Heap.size_push _ _
      have nI : l ≠ (s.heap.push (led0 w)).objs.size := by rw [e3]; exact Nat.ne_of_lt (Nat.lt_succ_of_lt ll)
      have nS : s.heap.objs.size ∉ [(s.heap.push (led0 w)).objs.size, l] := by
        rw [e3]
        intro z
        rcases List.mem_cons.mp z with z | z
        · exact absurd z (Nat.ne_of_lt (Nat.lt_succ_self _))
        · exact absurd (List.mem_singleton.mp z) (Nat.ne_of_gt ll)
      refine set_update_ints ((Walks.list calm3 _ l nI its).toS) s.heap.objs.size nS ns sz few (fun i v hv => ?_) (its.size - 0) 0 _ (by omega) (Nat.zero_le _) ⟨⟨_, Heap.get?_push_size _ rfl, rfl, rfl⟩, (isL1.push _)⟩ ?h0 ?h1
      · have hi : i < ns.length := by rw [← sz]; exact (Array.getElem?_eq_some_iff.mp hv).1
        obtain ⟨t, e⟩ := IntsAre.int_at inz i v (by rw [Array.getElem?_toList]; exact hv)
        exact ⟨ns[i], t, List.getElem?_eq_getElem hi, by rw [e, List.getD_eq_getElem?_getD, List.getElem?_eq_getElem hi]; rfl⟩
      case h0 => exact ⟨0, Nat.le_refl 0, setR_new_at (Heap.get?_push_of_some _ at1)⟩
      case h1 =>
        intro s3 c mv _ R
        obtain ⟨h3, g3, d3, tk3, os3⟩ := s3
        obtain rfl : g3 = s.gens := mv.gens
        obtain rfl : d3 = s.drawn := mv.drawn
        obtain rfl : os3 = s.os := mv.os
        show wpAny _ _ _ _ _ _
        refine wpAny_pure (show wpAny _ _ (ret Value.none) _ _ _ from wpAny_pure ⟨rfl, h3, tk3, rfl, setN_of R, fun b o e => ?_⟩)
        have lb : b < s.heap.objs.size := Heap.lt_size e
        refine mv.heap b o (fun z => ?_) (Heap.get?_push_of_some _ (Heap.get?_push_of_some _ e))
        rcases List.mem_cons.mp z with z | z
        · exact absurd z (Nat.ne_of_lt lb)
        · have z2 := List.mem_singleton.mp z
          rw [e3] at z2
          exact absurd z2 (Nat.ne_of_lt (Nat.lt_succ_of_lt lb))
    · rcases r2 with e | (ob | _ | _ | _)
      · exact hr2
      · exact hr2.elim
      · exact hr2.elim
      · exact hr2.elim
      · obtain ⟨e4, h3, tk3, e5, hS, kp⟩ := hr2
        subst e4 e5
        repeat (any_goals first | assumption | wp_step)
        exact k _ _ hS kp
end
/-- set(xs) -/
def rSetI (K : PySem.W.Frag) (w : World) : List V → Hp → VK → Prop := fun xs H Q => ∃ (l : Addr) (ns : List Int), xs = [V.ref l] ∧ SqL K H l (ns.map V.int) ∧ ns.length ≤ 4000 ∧
  ∀ (p : Addr) (L : List Int), L.Nodup → (∀ k, k ∈ L ↔ k ∈ ns) → H p = none → Q (.ref p) (upd H p (SetO w p (fun j => decide (j ∈ ns)) L.length))
theorem cr_setI {X : Cx} (calm : X.calm = true) : CallR X (.type "set") (rSetI X.K X.w) := by
  intro pins s σ H xs us Q I r h
  obtain ⟨l, ns, rfl, hl, hn, q⟩ := h
  rw [Vals.ref1 r]
  obtain ⟨its, rv, isL, _⟩ := I.list hl
  have inz : IntsAre its ns := ints_of_vals rv
  refine set_of_list ns (I.ok.hd calm) isL.isList (by simpa using inz) (by unfold scanBound; omega) fun h2 tk ⟨L, n1, n2, R⟩ kp => ?_
  exact ⟨.ref s.heap.objs.size, _, I.laid (t' := tk) kp (Nat.le_refl _) (setO_new R), rfl, q _ L n1 n2 (I.hok.fresh (Nat.le_refl _))⟩
end Jg
/-! ### rules of walks that the layer lacks: zip of a tuple and a list, enumerate of a tuple, a dict locked from an expression on -/
namespace Jg
open PySem PySem.Spec PyProof.Rows L2
/-- the dict that e gives is locked from here on -/
def tFrz (te : TE) : TE := fun σ H Q => te σ H fun x H1 => ∃ d u, x = .ref d ∧ H1 d = some u ∧ Mut (some u) ∧ ∀ od, Q x (upd H1 d (.frz od u))
theorem pe_frz {X : Cx} {e : Expr} {t : TE} (h : PE X e t) : PE X e (tFrz t) := by
  refine ⟨fun pins s σ H Q I hw => thn (h.run pins s σ H _ I hw) fun v s1 q => ?_⟩
  obtain ⟨x, H1, I1, r, d, u, ex, hd, mu, q⟩ := q
  obtain ⟨od, I2⟩ := I1.lock hd mu
  exact ⟨x, _, I2, r, q od⟩
/-- the tuple at a and the list at b as they stand at each turn -/
def ItzM (K : PySem.W.Frag) (a b : Addr) : It :=
  ⟨fun i H => ∃ (xs ys : List V) (x y : V), SqT K H a xs ∧ SqL K H b ys ∧ xs[i]? = some x ∧ ys[i]? = some y,
    fun i H v H' => ∃ T x y, v = .ref T ∧ H T = none ∧ H' = upd H T (.tup [x, y]) ∧ (∀ xs, SqT K H a xs → xs[i]? = some x) ∧ ∀ ys, SqL K H b ys → ys[i]? = some y,
    fun i H => ∃ xs ys : List V, SqT K H a xs ∧ SqL K H b ys ∧ i = min xs.length ys.length⟩
abbrev tnM (z TI TO i1 i2 a b : Addr) (i : Nat) (h : Heap) : Prop := IsZip h z TI TO .none ∧ IsTupOf2 h TI (.ref i1) (.ref i2) ∧ (∃ x y, IsTupOf2 h TO x y) ∧ h.IsTupleIter i1 a i ∧ h.IsListIter i2 b i
theorem apart_ti {h : Heap} {a i1 : Addr} {i : Nat} {its : Array Value} (h1 : h.IsTupleIter i1 a i) (p : IsTup h a its) : a ≠ i1 := fun e => by
  obtain ⟨o1, g1, c1, _⟩ := h1
  obtain ⟨o2, g2, c2, _⟩ := p
  rw [e, g1] at g2
  cases g2
  rw [c1] at c2
  exact absurd (Value.type.inj c2) (by decide)
theorem apart_li {h : Heap} {a i1 : Addr} {i : Nat} {its : Array Value} (h1 : h.IsListIter i1 a i) (p : h.IsList a its) : a ≠ i1 := fun e => by
  obtain ⟨o1, g1, c1, _⟩ := h1
  obtain ⟨o2, g2, c2, _⟩ := p
  rw [e, g1] at g2
  cases g2
  rw [c1] at c2
  exact absurd (Value.type.inj c2) (by decide)
theorem turn_zipM {P : Program} {w : World} {K : PySem.W.Frag} {elts : List Expr} {kk : Nat} {tpos : Pos} {a b z TI TO i1 i2 : Addr} (S : ZipSep2 z TI TO i1 i2 [i1, a] [i2, b]) :
    Turn P w K (.Tuple elts kk tpos) (ItzM K a b) [z, TI, TO, i1, i2] z (tnM z TI TO i1 i2 a b) where
  mem := List.mem_cons_self ..
  obj := by
    intro i h st c hc
    obtain ⟨hz, hTI, ⟨x, y, hTO⟩, ⟨o1, e1, _, d1⟩, ⟨o2, e2, _, d2⟩⟩ := st
    simp only [List.mem_cons, List.not_mem_nil, or_false] at hc
    rcases hc with rfl | rfl | rfl | rfl | rfl
    · exact ⟨_, hz, fun v q => nomatch q⟩
    · exact ⟨_, hTI, fun v q => nomatch q⟩
    · exact ⟨_, hTO, fun v q => nomatch q⟩
    · exact ⟨o1, e1, fun v q => by rw [d1] at q; cases q⟩
    · exact ⟨o2, e2, fun v q => by rw [d2] at q; cases q⟩
  keep := by
    intro i h h' st k
    obtain ⟨hz, hTI, ⟨x, y, hTO⟩, h1, h2⟩ := st
    have kz := k z (by simp)
    have kI := k TI (by simp)
    have kO := k TO (by simp)
    have k1 := k i1 (by simp)
    have k2 := k i2 (by simp)
    exact ⟨kz _ hz, kI _ hTI, ⟨x, y, kO _ hTO⟩, h1.at k1, h2.at k2⟩
  item := by
    intro X hP hw hK hc i pins s σ H E I hf st hg
    subst hP hw hK
    obtain ⟨hz, hTI, ⟨x0, y0, hTO⟩, h1, h2⟩ := st
    obtain ⟨xs, ys, x, y, hqx, hqy, hx, hy⟩ := hg
    obtain ⟨its, rv, p, _⟩ := I.tuple hqx
    obtain ⟨its2, rv2, p2, _⟩ := I.list hqy
    obtain ⟨u, hu, ru⟩ := rv.get hx
    obtain ⟨u2, hu2, ru2⟩ := rv2.get hy
    have hzl : z < s.heap.objs.size := Heap.lt_size hz
    have hd : X.A.handled = none := I.ok.hd hc
    have hd1 : X.A.in1.handled = none := by simp [hd]
    have q1 : i < its.toArray.size := by simpa using (List.getElem?_eq_some_iff.mp hu).1
    have q2 : i < its2.toArray.size := by simpa using (List.getElem?_eq_some_iff.mp hu2).1
    have na : a ≠ i1 := apart_ti h1 p
    have nb : b ≠ i2 := apart_li h2 p2.isList
    refine wpAny_pyNext_zipD2_item S (Draws.tuple hd1 i1 a na its.toArray) (Draws.list hd1 i2 b nb its2.toArray) hz hTI hTO ⟨h1, p⟩ ⟨h2, p2.isList⟩ q1 q2 fun x1 x2 h' tk b1 b2 z' TO' s1' s2' hT hsz hk => ?_
    have ex1 : x1 = u := by
      have : its.toArray[i]? = some x1 := b1
      rw [List.getElem?_toArray, hu] at this
      exact (Option.some.inj this).symm
    have ex2 : x2 = u2 := by
      have : its2.toArray[i]? = some x2 := b2
      rw [List.getElem?_toArray, hu2] at this
      exact (Option.some.inj this).symm
    subst ex1 ex2
    refine ⟨_, rfl, wpAny_letOwnedTupleGo_zip (s := { s with heap := h', toks := tk }) z' fun h'' z'' sb => ?_⟩
    have hT2 : h''.get? s.heap.objs.size = some { cls := .type "tuple", data := .seq #[x1, x2] } := (sb.2 _ (Nat.ne_of_gt hzl)).trans hT
    have kp : ∀ c o, c ∉ [z, TI, TO, i1, i2] → s.heap.get? c = some o → h''.get? c = some o := by
      intro c o hb q
      simp only [List.mem_cons, List.not_mem_nil, or_false, not_or] at hb
      exact (sb.2 c hb.1).trans (hk c o hb.1 hb.2.2.1 hb.2.2.2.1 hb.2.2.2.2 q)
    have I1 : Inv X pins σ (upd H s.heap.objs.size (.tup [x, y])) { s with heap := h'', toks := tk } :=
      I.turnedNew (ch := [z, TI, TO, i1, i2]) kp hf (Nat.le_refl _) ⟨by show 2 ≤ sizeLine; decide, [x1, x2], .cons ru (.cons ru2 .nil), ⟨_, hT2, rfl, _, rfl⟩⟩
    refine ⟨.ref s.heap.objs.size, _, I1, rfl, ⟨_, x, y, rfl, I.hok.fresh (Nat.le_refl _), rfl, fun l hl => ?_, fun l hl => ?_⟩, ⟨z'', ?_, ⟨x1, x2, ?_⟩, ?_, ?_⟩, fun c hcm => ?_⟩
    · rw [I.tuple_inj hl hqx]
      exact hx
    · rw [I.list_inj hl hqy]
      exact hy
    · exact (sb.2 _ S.TIz).trans (hk _ _ S.TIz S.TITO S.TIi1 S.TIi2 hTI)
    · exact (sb.2 _ S.TOz).trans TO'
    · exact s1'.1.at fun o q => (sb.2 _ fun e => S.zf1 (by simp [e])).trans q
    · exact s2'.1.at fun o q => (sb.2 _ fun e => S.zf2 (by simp [e])).trans q
    · have hlt : c < s.heap.objs.size := by
        simp only [List.mem_cons, List.not_mem_nil, or_false] at hcm
        obtain ⟨_, e1, _⟩ := h1
        obtain ⟨_, e2, _⟩ := h2
        rcases hcm with q | q | q | q | q
        · rw [q]; exact hzl
        · rw [q]; exact Heap.lt_size hTI
        · rw [q]; exact Heap.lt_size hTO
        · rw [q]; exact Heap.lt_size e1
        · rw [q]; exact Heap.lt_size e2
      rw [upd_ne (Nat.ne_of_lt hlt)]
      exact (hf c hcm).1
  done := by
    intro X hP hw hK hc i pins s σ H E I hf st hg
    subst hP hw hK
    obtain ⟨hz, hTI, ⟨x0, y0, hTO⟩, h1, h2⟩ := st
    obtain ⟨xs, ys, hqx, hqy, hend⟩ := hg
    obtain ⟨its, rv, p, _⟩ := I.tuple hqx
    obtain ⟨its2, rv2, p2, _⟩ := I.list hqy
    have hd : X.A.handled = none := I.ok.hd hc
    have hd1 : X.A.in1.handled = none := by simp [hd]
    have l1 := rv.length
    have l2 := rv2.length
    have na : a ≠ i1 := apart_ti h1 p
    have nb : b ≠ i2 := apart_li h2 p2.isList
    refine wpAny_pyNext_zipD2_end S (Draws.tuple hd1 i1 a na its.toArray) (Draws.list hd1 i2 b nb its2.toArray) hz hTI hTO ⟨h1, p⟩ ⟨h2, p2.isList⟩ (by simp; omega) (by simp; omega) (by simp; omega) fun h' tk hk => ?_
    refine ⟨rfl, I.turnedL (t' := tk) (ch := [z, TI, TO, i1, i2]) (fun c o hb q => ?_) hf⟩
    simp only [List.mem_cons, List.not_mem_nil, or_false, not_or] at hb
    exact hk c o hb.1 hb.2.2.1 hb.2.2.2.1 hb.2.2.2.2 q
  self := fun A i s Q E st h => wpAny_pyIter_zip st.1 h
def iZipM (K : PySem.W.Frag) (ta : TA) : TI := fun σ H R => ta σ H fun vs H1 => ∃ a b xs ys, vs = [.ref a, .ref b] ∧ SqT K H1 a xs ∧ SqL K H1 b ys ∧ R (ItzM K a b) H1
theorem pi_zipM {X : Cx} {e e2 : Expr} {ta : TA} {p pos tpos : Pos} {elts : List Expr} {kk : Nat} (hg : Gl X "zip") (hm : X.mg "zip" = none) (ha : PA X [e, e2] ta)
    (hs : starEach [e, e2] X.env = (false, eval e X.env) :: starEach [e2] X.env := by rfl) (hpl : (backTo pos (starEach [e2] X.env)).any (·.1) = false := by rfl) :
    PI X (.Tuple elts kk tpos) (.Call (.Name "zip" p) [e, e2] [] pos) (iZipM X.K ta) := by
  refine ⟨fun pins s σ H R I h => Call_ (ld_blt I hg hm PyProof.Rows.boot_zip (PyProof.Rows.callWith_type1 (thn (ha.run pos pins s σ H _ I h) fun us s1 q1 => ?_) hs hpl))⟩
  obtain ⟨vs, H1, I1, r1, a, b, xs, ys, ex, hqx, hqy, q⟩ := q1
  subst ex
  cases r1 with
  | cons r rr =>
    cases rr with
    | cons r' rr =>
      cases rr
      cases r
      cases r'
      have fresh5 : ∀ c, c ∈ [s1.heap.objs.size + 4, s1.heap.objs.size + 2, s1.heap.objs.size + 3, s1.heap.objs.size, s1.heap.objs.size + 1] → FpOk X pins H1 c := fun c hcm => by
        have hle : s1.heap.objs.size ≤ c := by
          simp only [List.mem_cons, List.not_mem_nil, or_false] at hcm
          rcases hcm with z | z | z | z | z <;> rw [z] <;> first | exact Nat.le_add_right _ _ | exact Nat.le_refl _
        exact I1.fpOk hle (I1.hok.fresh hle)
      obtain ⟨its, rv, p1, _⟩ := I1.tuple hqx
      obtain ⟨its2, rv2, p2, _⟩ := I1.list hqy
      obtain ⟨o1, ho1, _⟩ := id p1
      refine zip_begins2 (begins_tuple a its.toArray) (begins_list b its2.toArray) (show s1.heap.IsTuple a its.toArray from p1) p2.isList fun h' hz hTI hTO h1 h2 hsz hk => wpAny_pyIter_zip hz ?_
      refine ⟨s1.heap.objs.size + 4, [s1.heap.objs.size + 4, s1.heap.objs.size + 2, s1.heap.objs.size + 3, s1.heap.objs.size, s1.heap.objs.size + 1], _, _, H1, rfl, I1.kept (t' := s1.toks) hk,
        turn_zipM (zip_sep2 (fp1 := [a]) (fp2 := [b]) (fun c hc => ?_) (fun c hc => ?_)), ⟨hz, hTI, ⟨_, _, hTO⟩, ⟨_, h1, rfl, rfl⟩, ⟨_, h2, rfl, rfl⟩⟩, fresh5, q⟩
      · rw [List.mem_singleton.mp hc]
        exact Heap.lt_size ho1
      · rw [List.mem_singleton.mp hc]
        exact p2.lt
theorem walk_zipM {K : PySem.W.Frag} {a b : Addr} {xs ys : List V} {n : Nat} (hn : n = min xs.length ys.length) : Walk (ItzM K a b) n (fun H => SqT K H a xs ∧ SqL K H b ys) (YPair (fun i => xs[i]?) (fun i => ys[i]?)) := by
  subst hn
  refine ⟨fun i H hi q => ⟨xs, ys, xs[i]'(by omega), ys[i]'(by omega), q.1, q.2, by simp, by simp⟩, fun H q => ⟨xs, ys, q.1, q.2, rfl⟩, fun i H v H' _ q y => ?_⟩
  obtain ⟨T, x, z, h1, h2, h3, h4, h5⟩ := y
  exact ⟨T, x, z, h1, h2, h3, h4 xs q.1, h5 ys q.2⟩
end Jg
/-! ### enumerate of a tuple -/
namespace Jg
open PySem PySem.Spec PyProof.Rows L2
open Sem (wp)
def IteT (K : PySem.W.Frag) (a : Addr) : It :=
  ⟨fun i H => ∃ (xs : List V) (x : V), SqT K H a xs ∧ xs[i]? = some x, fun i H v H' => ∃ T x, v = .ref T ∧ H T = none ∧ H' = upd H T (.tup [.int (i : Nat), x]) ∧ ∀ xs, SqT K H a xs → xs[i]? = some x, fun i H => ∃ xs, SqT K H a xs ∧ xs.length = i⟩
set_option maxHeartbeats 4000000 in
theorem meets_enumB {v : Value} {o : Obj} {G : Heap → Prop} (B : Begins v o G) :
    Meets (Builtin.«enumerate.__new__» ⟨[.type "enumerate", v], []⟩) (fun _ R s => G s.heap ∧
      R (.ok (.ret (.ref (s.heap.push o).objs.size))) { s with heap := (s.heap.push o).push { cls := .type "enumerate", data := .fields #[.none, .bool false, .ref s.heap.objs.size, rawInt 0, .none, .none] } }) :=
  .of_wp fun prog w A R s h => by
    obtain ⟨hp, g, d, tk, os⟩ := s
    obtain ⟨h1, h⟩ := h
    have sb := sub_enumerate
    have q1 : ∀ {A' : Around} {E : Value → Shared → Prop} {Q : Value → Shared → Prop}, Q (.ref hp.objs.size) ⟨hp.push o, g, d, tk, os⟩ → wpAny (model prog w) A' (pyIter v) Q E ⟨hp, g, d, tk, os⟩ := fun q => B.iter prog w _ _ ⟨hp, g, d, tk, os⟩ _ h1 q
    wp_walk using q1
    refine wpAny_stack_any fun st => wpAny_pure ?_
    split
    · rename_i c _ _ _ _ _
      cases (c == Value.type "enumerate") <;> (wp_walk using q1; exact ⟨_, rfl, h⟩)
    · wp_walk using q1
      exact ⟨_, rfl, h⟩
section
variable {prog : Program} {w : World} {A : Around} {E : Value → Shared → Prop} {s : Shared}
theorem enum_begins1 {v : Value} {o : Obj} {G : Heap → Prop} {Q : Value → Shared → Prop} (B : Begins v o G) (h1 : G s.heap)
    (h : ∀ h', IsEnum h' (s.heap.objs.size + 1) s.heap.objs.size 0 .none → h'.get? s.heap.objs.size = some o → (∀ b o, s.heap.get? b = some o → h'.get? b = some o) → Q (.ref (s.heap.objs.size + 1)) { s with heap := h' }) :
    wpAny (model prog w) A (call (.type "enumerate") [v]) Q E s := by
  have hz : (s.heap.push o).objs.size = s.heap.objs.size + 1 := Heap.size_push ..
  have he := Heap.get?_push_size (s.heap.push o) (o := { cls := .type "enumerate", data := .fields #[.none, .bool false, .ref s.heap.objs.size, rawInt 0, .none, .none] }) rfl
  rw [hz] at he
  refine callType_new F.called_enumerate (by decide) (F.typeCall_enumerate_1 _) (F.newCall_enumerate_1 _) (fun obj => F.args_object_init_2 obj _) F.entry_enumerate_new (meets_enumB B) ⟨h1, ?_⟩
  show _ ∧ _
  rw [hz]
  exact ⟨⟨_, he, rfl⟩, h _ he (Heap.get?_push_of_some _ (Heap.get?_push_size _ B.free)) fun b o x => Heap.get?_push_of_some _ (Heap.get?_push_of_some _ x)⟩
end
theorem turn_enumT {P : Program} {w : World} {K : PySem.W.Frag} {elts : List Expr} {kk : Nat} {tpos : Pos} (a e it : Addr) (hne : e ≠ it) (hea : e ≠ a) :
    Turn P w K (.Tuple elts kk tpos) (IteT K a) [e, it] e (fun i h => (∃ old, IsEnum h e it (i : Nat) old) ∧ h.IsTupleIter it a i) where
  mem := List.mem_cons_self ..
  obj := by
    intro i h st b hb
    obtain ⟨⟨old, he⟩, ⟨o, ho, hc, hd⟩⟩ := st
    simp only [List.mem_cons, List.not_mem_nil, or_false] at hb
    rcases hb with rfl | rfl
    · exact ⟨_, he, fun v q => nomatch q⟩
    · exact ⟨o, ho, fun v q => by rw [hd] at q; cases q⟩
  keep := by
    intro i h h' st k
    obtain ⟨⟨old, he⟩, hi⟩ := st
    exact ⟨⟨old, k e (by simp) _ he⟩, hi.at (k it (by simp))⟩
  item := by
    intro X hP hw hK hc i pins s σ H E I hf st hg
    subst hP hw hK
    obtain ⟨⟨old, he⟩, hit⟩ := st
    obtain ⟨xs, x, hq, hx⟩ := hg
    obtain ⟨its, rv, p, hz⟩ := I.tuple hq
    obtain ⟨u, hu, ru⟩ := rv.get hx
    have hd : X.A.handled = none := I.ok.hd hc
    have hd1 : X.A.in1.handled = none := by simp [hd]
    have hel : e < s.heap.objs.size := Heap.lt_size he
    have hil : it < s.heap.objs.size := by
      obtain ⟨_, q, _⟩ := hit
      exact Heap.lt_size q
    have q1 : i < its.toArray.size := by simpa using (List.getElem?_eq_some_iff.mp hu).1
    refine wpAny_pyNext_enum_itemD (Draws.tuple hd1 it a (apart_ti hit p) its.toArray) he ⟨hit, p⟩ q1 hne (fun z => ?_) fun x1 h' tk b1 ho s1' hT hsz hk => ?_
    · simp only [List.mem_cons, List.not_mem_nil, or_false] at z
      exact z.elim hne hea
    have ex1 : x1 = u := by
      have : its.toArray[i]? = some x1 := b1
      rw [List.getElem?_toArray, hu] at this
      exact (Option.some.inj this).symm
    subst ex1
    refine ⟨_, rfl, wpAny_letOwnedTupleGo_enum (s := { s with heap := h', toks := tk + 1 }) ho fun h'' he' sb => ?_⟩
    have hT2 : h''.get? s.heap.objs.size = some { cls := .type "tuple", data := .seq #[.int i tk, x1] } := (sb.2 _ (Nat.ne_of_gt hel)).trans hT
    have I1 : Inv X pins σ (upd H s.heap.objs.size (.tup [.int (i : Nat), x])) { s with heap := h'', toks := tk + 1 } :=
      I.turnedNew (ch := [e, it]) (fun b ob hb q => by
        simp only [List.mem_cons, List.not_mem_nil, or_false, not_or] at hb
        exact (sb.2 b hb.1).trans (hk b ob hb.1 hb.2 q)) hf (Nat.le_refl _) ⟨by show 2 ≤ sizeLine; decide, [.int i tk, x1], .cons ⟨_, rfl⟩ (.cons ru .nil), ⟨_, hT2, rfl, _, rfl⟩⟩
    refine ⟨.ref s.heap.objs.size, _, I1, rfl, ⟨_, x, rfl, I.hok.fresh (Nat.le_refl _), rfl, fun ys hy => ?_⟩, ⟨⟨x1, ?_⟩, s1'.1.at fun o q => (sb.2 it (Ne.symm hne)).trans q⟩, fun b hb => ?_⟩
    · rw [I.tuple_inj hy hq]
      exact hx
    · have e1 : ((i + 1 : Nat) : Int) = (i : Int) + 1 := by omega
      rw [e1]
      exact he'
    · have hb' : b < s.heap.objs.size := by
        simp only [List.mem_cons, List.not_mem_nil, or_false] at hb
        rcases hb with z | z
        · rw [z]; exact hel
        · rw [z]; exact hil
      rw [upd_ne (Nat.ne_of_lt hb')]
      exact (hf b hb).1
  done := by
    intro X hP hw hK hc i pins s σ H E I hf st hg
    subst hP hw hK
    obtain ⟨⟨old, he⟩, hit⟩ := st
    obtain ⟨xs, hq, hx⟩ := hg
    obtain ⟨its, rv, p, hz⟩ := I.tuple hq
    have hd : X.A.handled = none := I.ok.hd hc
    have hd1 : X.A.in1.handled = none := by simp [hd]
    have hl := rv.length
    have e1 : its.toArray.size = i := by simp; omega
    subst e1
    refine wpAny_pyNext_enum_endD (Draws.tuple hd1 it a (apart_ti hit p) its.toArray) he ⟨hit, p⟩ fun h' eb => ⟨rfl, I.turnedL (t' := s.toks) (ch := [e, it]) (fun c o hb q => ?_) hf⟩
    simp only [List.mem_cons, List.not_mem_nil, or_false, not_or] at hb
    exact eb c o hb.2 q
  self := fun A i s Q E st h => let ⟨⟨_, he⟩, _⟩ := st; wpAny_pyIter_enum he h
def iEnumT (K : PySem.W.Frag) (ta : TA) : TI := fun σ H R => ta σ H fun vs H1 => ∃ a xs, vs = [.ref a] ∧ SqT K H1 a xs ∧ R (IteT K a) H1
theorem pi_enumT {X : Cx} {e : Expr} {ta : TA} {p pos tpos : Pos} {elts : List Expr} {kk : Nat} (hg : Gl X "enumerate") (hm : X.mg "enumerate" = none) (ha : PA X [e] ta) (hs : starEach [e] X.env = [(false, eval e X.env)] := by rfl) :
    PI X (.Tuple elts kk tpos) (.Call (.Name "enumerate" p) [e] [] pos) (iEnumT X.K ta) := by
  refine ⟨fun pins s σ H R I h => Call_ (ld_blt I hg hm boot_enumerate (PyProof.Rows.callWith_type1 (thn (ha.run pos pins s σ H _ I h) fun us s1 q1 => ?_) hs rfl))⟩
  obtain ⟨vs, H1, I1, r1, a, xs, ex, hq, q⟩ := q1
  subst ex
  cases r1 with
  | cons r rr =>
    cases rr
    cases r
    obtain ⟨its, rv, p', hz⟩ := I1.tuple hq
    obtain ⟨o1, ho1, _⟩ := id p'
    have hal : a < s1.heap.objs.size := Heap.lt_size ho1
    refine enum_begins1 (begins_tuple a its.toArray) (show s1.heap.IsTuple a its.toArray from p') fun h' he hit hk => wpAny_pyIter_enum he ?_
    refine ⟨s1.heap.objs.size + 1, [s1.heap.objs.size + 1, s1.heap.objs.size], _, _, H1, rfl, I1.kept (t' := s1.toks) hk, turn_enumT a (s1.heap.objs.size + 1) s1.heap.objs.size (Nat.succ_ne_self _) (Nat.ne_of_gt (Nat.lt_succ_of_lt hal)), ⟨⟨.none, he⟩, ⟨_, hit, rfl, rfl⟩⟩, fun b hb => ?_, q⟩
    have hle : s1.heap.objs.size ≤ b := by
      simp only [List.mem_cons, List.not_mem_nil, or_false] at hb
      rcases hb with z | z <;> rw [z] <;> first | exact Nat.le_add_right _ _ | exact Nat.le_refl _
    exact I1.fpOk hle (I1.hok.fresh hle)
theorem walk_enumT {K : PySem.W.Frag} {a : Addr} {xs : List V} : Walk (IteT K a) xs.length (fun H => SqT K H a xs) (YPair (fun i => some (.int (i : Nat))) (fun i => xs[i]?)) := by
  refine ⟨fun i H hi q => ⟨xs, xs[i], q, by simp [hi]⟩, fun H q => ⟨xs, q, rfl⟩, fun i H v H' _ q y => ?_⟩
  obtain ⟨T, x, h1, h2, h3, h4⟩ := y
  exact ⟨T, .int (i : Nat), x, h1, h2, h3, rfl, h4 xs q⟩
end Jg
/-! ### comprehensions, loops, built-ins evaluated -/
namespace Js
open PySem PySem.Spec PyProof.Rows L2 Evl
open Rp (r)
section
variable {K : PySem.W.Frag} {σ : L2.St} {H H' : Hp} {te ta tb tc td : TE} {tt : TT} {wi : TI} {g : TG} {vs : List Nat} {α β γ δ ε : Type} [Rp α] [Rp β] [Rp γ] [Rp δ] [Rp ε] {a : α} {b : β} {c : γ} {d : δ}
/-- what is walked gives values that stand for as, one by one -/
def Wr (K : PySem.W.Frag) (wi : TI) (σ : L2.St) (H : Hp) (as : List α) : Prop := ∀ H1, Ex H H1 → ∀ R : It → Hp → Prop,
  (∀ (J : It) (G : Hp → Prop) (Y : Nat → Hp → V → Hp → Prop) H2, Ex H1 H2 → Walk J as.length G Y → G H2 → (∀ h h', Ex h h' → G h → G h') → (∀ i h x h' a, as[i]? = some a → Ex H2 h → Y i h x h' → Ex h h' ∧ r K h' x a) → R J H2) → wi σ H1 R
theorem wr_tup {as : List α} (h : Er K te σ H as) : Wr K (iTup K te) σ H as := fun H1 e1 R q => h H1 e1 _ fun v H2 e2 hv => by
  obtain ⟨p, xs, rfl, h1, h2⟩ := hv
  refine ⟨p, rfl, ⟨xs, h1⟩, q (Itt K p) (fun H => SqT K H p xs) (YAt xs) H2 e2 ?_ h1 (fun _ _ e w => ex_t e w) fun i h x h' a ha e y => ?_⟩
  · rw [← pd_len h2]
    exact walk_tup
  · obtain ⟨rfl, hx⟩ := y
    obtain ⟨a', ha', hr⟩ := pd_get h2 hx
    rw [ha] at ha'
    cases ha'
    exact ⟨Ex.refl _, Rp.mono e hr⟩
theorem wr_list {as : List α} (h : Er K te σ H (Ls.mk as)) : Wr K (iList K te) σ H as := fun H1 e1 R q => h H1 e1 _ fun v H2 e2 hv => by
  obtain ⟨p, xs, rfl, h1, h2⟩ := hv
  refine ⟨p, rfl, ⟨xs, h1⟩, q (Itl K p) (fun H => SqL K H p xs) (YAt xs) H2 e2 ?_ h1 (fun _ _ e w => ex_l e w) fun i h x h' a ha e y => ?_⟩
  · rw [← pd_len h2]
    exact walk_list
  · obtain ⟨rfl, hx⟩ := y
    obtain ⟨a', ha', hr⟩ := pd_get h2 hx
    rw [ha] at ha'
    cases ha'
    exact ⟨Ex.refl _, Rp.mono e hr⟩
/-- lo, lo + 1, .., n of them -/
def upI (lo : Int) (n : Nat) : List Int := (List.range n).map fun i => lo + (i : Nat)
theorem upI_get {lo : Int} {n i : Nat} {a : Int} (h : (upI lo n)[i]? = some a) : a = lo + (i : Nat) := by
  unfold upI at h
  rw [List.getElem?_map] at h
  obtain ⟨j, hj, rfl⟩ := Option.map_eq_some_iff.mp h
  obtain ⟨_, e⟩ := List.getElem?_eq_some_iff.mp hj
  rw [List.getElem_range] at e
  rw [e]
theorem upI_len {lo : Int} {n : Nat} : (upI lo n).length = n := by simp [upI]
theorem mem_upI {lo : Int} {n : Nat} {a : Int} : a ∈ upI lo n ↔ lo ≤ a ∧ a < lo + n := by
  unfold upI
  rw [List.mem_map]
  constructor
  · rintro ⟨i, hi, rfl⟩
    rw [List.mem_range] at hi
    omega
  · intro h
    exact ⟨(a - lo).toNat, by rw [List.mem_range]; omega, by omega⟩
theorem wr_rng1 {n : Int} (h : Er K te σ H n) (h1 : -100000 ≤ n) (h2 : n ≤ 100000) : Wr K (iRng1 (tCons te tNil)) σ H (upI 0 n.toNat) := fun H1 e1 R q => h.evI H1 e1 _ fun H2 e2 => by
  refine ⟨n, rfl, by omega, by omega, q (Itr 0 n.toNat) (fun _ => True) (YFn fun i => .int (0 + (i : Nat))) H2 e2 ?_ trivial (fun _ _ _ _ => trivial) fun i h x h' a ha e y => ?_⟩
  · rw [upI_len]
    exact walk_range
  · obtain ⟨rfl, rfl⟩ := y
    exact ⟨Ex.refl _, by rw [upI_get ha]; rfl⟩
theorem wr_rng2 {lo n : Int} (h : Er K ta σ H lo) (h' : Er K tb σ H n) (h1 : -100000 ≤ lo ∧ lo ≤ 100000 ∧ -100000 ≤ n ∧ n ≤ 100000) : Wr K (iRng2 (tCons ta (tCons tb tNil))) σ H (upI lo (n - lo).toNat) := fun H1 e1 R q => h.evI H1 e1 _ fun H2 e2 => h'.evI H2 (e1.trans e2) _ fun H3 e3 => by
  refine ⟨lo, n, rfl, ⟨by omega, by omega, by omega, by omega⟩, q (Itr lo (n - lo).toNat) (fun _ => True) (YFn fun i => .int (lo + (i : Nat))) H3 (e2.trans e3) ?_ trivial (fun _ _ _ _ => trivial) fun i h x h' a ha e y => ?_⟩
  · rw [upI_len]
    exact walk_range
  · obtain ⟨rfl, rfl⟩ := y
    exact ⟨Ex.refl _, by rw [upI_get ha]; rfl⟩
/-- the signs of a text, each a text -/
def signs (z : Str) : List Str := z.cps.toList.map fun c => (⟨#[c]⟩ : Str)
theorem wr_str {z : Str} (h : Er K te σ H z) : Wr K (iStr te) σ H (signs z) := fun H1 e1 R q => h.evS H1 e1 _ fun H2 e2 => by
  refine ⟨z, rfl, q (Its z) (fun _ => True) (fun i h v h' => h' = h ∧ ∃ c, z.cps[i]? = some c ∧ v = .str ⟨#[c]⟩) H2 e2 ?_ trivial (fun _ _ _ _ => trivial) fun i h x h' a ha e y => ?_⟩
  · rw [show (signs z).length = z.cps.size by simp [signs]]
    exact walk_str
  · obtain ⟨rfl, c, hc, rfl⟩ := y
    refine ⟨Ex.refl _, ?_⟩
    unfold signs at ha
    rw [List.getElem?_map, Array.getElem?_toList, hc] at ha
    cases ha
    rfl
theorem wr_zip {as : List α} {bs : List β} (h1 : Er K ta σ H as) (h2 : Er K tb σ H (Ls.mk bs)) : Wr K (Jg.iZipM K (tCons ta (tCons tb tNil))) σ H (as.zip bs) := fun H1 e1 R q => h1 H1 e1 _ fun v H2 e2 hv => h2 H2 (e1.trans e2) _ fun u H3 e3 hu => by
  obtain ⟨p, xs, rfl, g1, g2⟩ := Rp.mono e3 hv
  obtain ⟨p2, ys, rfl, k1, k2⟩ := hu
  refine ⟨p, p2, xs, ys, rfl, g1, k1, q (Jg.ItzM K p p2) _ _ H3 (e2.trans e3) (Jg.walk_zipM ?_) ⟨g1, k1⟩ (fun _ _ e w => ⟨ex_t e w.1, ex_l e w.2⟩) fun i h x h' a ha e y => ?_⟩
  · rw [List.length_zip, pd_len g2, pd_len k2]
  · obtain ⟨t, x1, x2, rfl, ht, rfl, y1, y2⟩ := y
    obtain ⟨a1, z1, r1⟩ := pd_get g2 y1
    obtain ⟨a2, z2, r2⟩ := pd_get k2 y2
    have : (as.zip bs)[i]? = some (a1, a2) := by rw [List.getElem?_zip_eq_some]; exact ⟨z1, z2⟩
    rw [ha] at this
    cases this
    exact ⟨Ex.new ht, t, x1, x2, rfl, st_of upd_same, Rp.mono (e.trans (Ex.new ht)) r1, Rp.mono (e.trans (Ex.new ht)) r2⟩
/-! targets -/
theorem gb_name {i : Nat} {v : V} {Q : L2.St → Hp → Prop} (q : Q (σ.set i (some v)) H) : gName i v σ H Q := q
theorem gb_pair {i j : Nat} {v : V} {Q : L2.St → Hp → Prop} (h : r K H v (a, b)) (q : ∀ x y, r K H x a → r K H y b → Q ((σ.set i (some x)).set j (some y)) H) : gTup K 2 (gCons (gName i) (gCons (gName j) gNil)) v σ H Q := by
  obtain ⟨p, x, y, rfl, h1, h2, h3⟩ := h
  exact ⟨p, _, rfl, h1, rfl, x, _, rfl, y, _, rfl, rfl, q x y h2 h3⟩
theorem gb_trip {i j k : Nat} {v : V} {Q : L2.St → Hp → Prop} (h : r K H v (T3.mk a b c)) (q : ∀ x y z, r K H x a → r K H y b → r K H z c → Q (((σ.set i (some x)).set j (some y)).set k (some z)) H) : gTup K 3 (gCons (gName i) (gCons (gName j) (gCons (gName k) gNil))) v σ H Q := by
  obtain ⟨p, x, y, z, rfl, h1, h2, h3, h4⟩ := h
  exact ⟨p, _, rfl, h1, rfl, x, _, rfl, y, _, rfl, z, _, rfl, rfl, q x y z h2 h3 h4⟩
theorem r_asg2 {D : Ends} {i j : Nat} (h : Er K te σ H (a, b)) (k : ∀ x y H1, Ex H H1 → r K H1 x a → r K H1 y b → D.nx ((σ.set i (some x)).set j (some y)) H1) : tAsg te (gTup K 2 (gCons (gName i) (gCons (gName j) gNil))) D σ H := h H (Ex.refl H) _ fun v H1 e1 hv => gb_pair hv fun x y hx hy => k x y H1 e1 hx hy
theorem r_asg3 {D : Ends} {i j n : Nat} (h : Er K te σ H (T3.mk a b c)) (k : ∀ x y z H1, Ex H H1 → r K H1 x a → r K H1 y b → r K H1 z c → D.nx (((σ.set i (some x)).set j (some y)).set n (some z)) H1) : tAsg te (gTup K 3 (gCons (gName i) (gCons (gName j) (gCons (gName n) gNil)))) D σ H := h H (Ex.refl H) _ fun v H1 e1 hv => gb_trip hv fun x y z hx hy hz => k x y z H1 e1 hx hy hz
theorem et_yes : EvT tYes σ H true := fun H1 _ _ q => q H1 (Ex.refl _)
theorem take_snoc {l : List α} {i : Nat} {x : α} (h : l[i]? = some x) : l.take (i + 1) = l.take i ++ [x] := by
  rw [List.take_add_one, h]
  rfl
/-- [e for t in w if c] -/
theorem el_lc [RpT β] {as : List α} {p : α → Bool} {f : α → β} (h : Wr K wi σ H as) (hl : as.length < 100000)
    (hb : ∀ a v H1, a ∈ as → Ex H H1 → r K H1 v a → ∀ Q : L2.St → Hp → Prop, (∀ σ2 H2, Ex H1 H2 → wipe σ2 vs = wipe σ vs → EvT tt σ2 H2 (p a) → (p a = true → Er K te σ2 H2 (f a)) → Q σ2 H2) → g v (wipe σ vs) H1 Q) :
    El K (tLc wi g tt te vs) σ H ((as.filter p).map f) := fun H1 e1 Q q => h H1 e1 _ fun J G Y H2 e2 wk g2 gm gy D hD => by
  refine lc_it wk (fun i H' => Ex H2 H' ∧ ∃ xs, H' D = some (.lst xs) ∧ Paired (r K H') xs (((as.take i).filter p).map f)) ⟨Ex.new hD, [], upd_same, .nil⟩ (fun i H' _ pv => gm _ _ pv.1 g2) (fun i x Ha Hb hi pv y => ?_) fun Hz pv => ?_
  · obtain ⟨ea, xs, hx, hp⟩ := pv
    have hai : as[i]? = some as[i] := List.getElem?_eq_getElem hi
    obtain ⟨eb, hr⟩ := gy i Ha x Hb _ hai ea y
    refine hb as[i] x Hb (List.getElem_mem hi) ((e1.trans e2).trans (ea.trans eb)) hr _ fun σ2 Hc ec hw ht hel => ⟨hw, ht Hc (Ex.refl _) _ fun Hd ed => ?_⟩
    have hk := take_snoc hai
    cases hpa : p as[i] with
    | false =>
      rw [if_neg Bool.false_ne_true]
      refine ⟨((ea.trans eb).trans ec).trans ed, xs, ed _ _ (ec _ _ (eb _ _ hx)), ?_⟩
      rw [hk, List.filter_append, List.filter_cons_of_neg (by rw [hpa]; exact Bool.false_ne_true), List.filter_nil, List.append_nil]
      exact pd_map hp fun _ _ w => Rp.mono ((eb.trans ec).trans ed) w
    | true =>
      rw [if_pos rfl]
      refine (hel hpa) Hd ed _ fun y Hf ef hy => ?_
      have eE : Ex Hb Hf := (ec.trans ed).trans ef
      have hxf : Hf D = some (.lst xs) := eE _ _ (eb _ _ hx)
      have et : ExT Hf (upd Hf D (.lst (xs ++ [y]))) := fun K p zs hs => by
        rcases hs with (hs | ⟨o, hs⟩) | hs
        · exact .inl (.inl (by rw [upd_ne (fun z => by rw [z, hxf] at hs; cases hs)]; exact hs))
        · exact .inl (.inr ⟨o, by rw [upd_ne (fun z => by rw [z, hxf] at hs; cases hs)]; exact hs⟩)
        · exact .inr hs
      refine ⟨xs, hxf, ?_, ?_, xs ++ [y], upd_same, ?_⟩
      · rw [pd_len hp, List.length_map]
        have : ((as.take i).filter p).length ≤ as.length := Nat.le_trans (List.length_filter_le _ _) (by rw [List.length_take]; omega)
        exact sz_lt (by omega)
      · exact Ex.mut ((ea.trans eb).trans eE) hD
      · rw [hk, List.filter_append, List.filter_cons_of_pos hpa, List.filter_nil, List.map_append]
        exact pd_app (pd_map hp fun _ _ w => RpT.t et (Rp.mono (eb.trans eE) w)) (pd_one (RpT.t et hy))
  · obtain ⟨ez, xs, hx, hp⟩ := pv
    rw [List.take_length] at hp
    exact q D xs Hz (e2.trans ez) (fresh_back e2 hD) hx hp
theorem el_lcY [RpT β] {as : List α} {f : α → β} (h : Wr K wi σ H as) (hl : as.length < 100000)
    (hb : ∀ a v H1, a ∈ as → Ex H H1 → r K H1 v a → ∀ Q : L2.St → Hp → Prop, (∀ σ2 H2, Ex H1 H2 → wipe σ2 vs = wipe σ vs → Er K te σ2 H2 (f a) → Q σ2 H2) → g v (wipe σ vs) H1 Q) :
    El K (tLc wi g tYes te vs) σ H (as.map f) := by
  have z := el_lc (tt := tYes) (p := fun _ => true) h hl fun a v H1 ha e1 hv Q q => hb a v H1 ha e1 hv Q fun σ2 H2 e2 hw he => q σ2 H2 e2 hw et_yes fun _ => he
  rwa [List.filter_eq_self.mpr fun _ _ => rfl] at z
/-! what stays -/
theorem ext_upd {p : Addr} {o u : HO} (h : H p = some o) (h1 : ∀ xs, o ≠ .tup xs) (h2 : ∀ z xs, o ≠ .frz z (.tup xs)) : ExT H (upd H p u) := fun K q zs hs => by
  rcases hs with (hs | ⟨o', hs⟩) | hs
  · exact .inl (.inl (by rw [upd_ne (fun z => by rw [z, h] at hs; exact h1 _ (Option.some.inj hs))]; exact hs))
  · exact .inl (.inr ⟨o', by rw [upd_ne (fun z => by rw [z, h] at hs; exact h2 _ _ (Option.some.inj hs))]; exact hs⟩)
  · exact .inr hs
theorem ext_lst {p : Addr} {xs : List V} {u : HO} (h : H p = some (.lst xs)) : ExT H (upd H p u) := ext_upd h (fun _ z => by cases z) fun _ _ z => by cases z
theorem ext_dK {p : Addr} {xs : List (L2.Key × V)} {u : HO} (h : H p = some (.dK xs)) : ExT H (upd H p u) := ext_upd h (fun _ z => by cases z) fun _ _ z => by cases z
theorem ext_ins {p C dx : Addr} {fs : List (Str × V)} {u : HO} (h : H p = some (.ins C dx fs)) : ExT H (upd H p u) := ext_upd h (fun _ z => by cases z) fun _ _ z => by cases z
/-! for -/
theorem r_forT [RpT α] {as : List α} {t : TS} {D : Ends} (h : Er K te σ H as) (k : ∀ H1, Ex H H1 → ∃ Pv : Nat → L2.St → Hp → Prop, Pv 0 σ H1 ∧ (∀ i σ' H', Pv i σ' H' → ExT H1 H') ∧
    (∀ i a v σ' H', as[i]? = some a → r K H' v a → Pv i σ' H' → g v σ' H' fun σ2 H2 => t { D with nx := Pv (i + 1), ct := Pv (i + 1), bk := D.nx } σ2 H2) ∧ ∀ σ' H', Pv as.length σ' H' → D.nx σ' H') : tFor (iTup K te) g t D σ H := h H (Ex.refl H) _ fun v H1 e1 hv => by
  obtain ⟨p, xs, rfl, h1, h2⟩ := hv
  obtain ⟨Pv, p0, pe, ps, pd⟩ := k H1 e1
  refine ⟨p, rfl, ⟨xs, h1⟩, for_tup (xs := xs) Pv p0 (fun i σ' H' _ pv => (pe i σ' H' pv) K p xs h1) (fun i x σ' H' hx pv => ?_) fun σ' H' pv => pd σ' H' (by rw [← pd_len h2]; exact pv)⟩
  obtain ⟨a, ha, hr⟩ := pd_get h2 hx
  exact ps i a x σ' H' ha (RpT.t (pe i σ' H' pv) hr) pv
theorem r_forL [RpT α] {as : List α} {t : TS} {D : Ends} (h : Er K te σ H (Ls.mk as)) (k : ∀ p xs H1, Ex H H1 → SqL K H1 p xs → ∃ Pv : Nat → L2.St → Hp → Prop, Pv 0 σ H1 ∧ (∀ i σ' H', Pv i σ' H' → ExT H1 H' ∧ SqL K H' p xs) ∧
    (∀ i a v σ' H', as[i]? = some a → r K H' v a → Pv i σ' H' → g v σ' H' fun σ2 H2 => t { D with nx := Pv (i + 1), ct := Pv (i + 1), bk := D.nx } σ2 H2) ∧ ∀ σ' H', Pv as.length σ' H' → D.nx σ' H') : tFor (iList K te) g t D σ H := h H (Ex.refl H) _ fun v H1 e1 hv => by
  obtain ⟨p, xs, rfl, h1, h2⟩ := hv
  obtain ⟨Pv, p0, pe, ps, pd⟩ := k p xs H1 e1 h1
  refine ⟨p, rfl, ⟨xs, h1⟩, for_list (xs := xs) Pv p0 (fun i σ' H' _ pv => (pe i σ' H' pv).2) (fun i x σ' H' hx pv => ?_) fun σ' H' pv => pd σ' H' (by rw [← pd_len h2]; exact pv)⟩
  obtain ⟨a, ha, hr⟩ := pd_get h2 hx
  exact ps i a x σ' H' ha (RpT.t (pe i σ' H' pv).1 hr) pv
/-! rules by a named K (within comprehensions) -/
section
variable {X : Cx} {e : Expr} {f : Str} {pos : Pos}
theorem ixT (h : X.K = K) : IxR X (rIxT K) := h ▸ ix_tup
theorem ixL (h : X.K = K) : IxR X (rIxL K) := h ▸ ix_list
theorem slT (h : X.K = K) : SlR X (rSlA K) := h ▸ sl_tupA
theorem catT (h : X.K = K) : OpR X (binaryOp .Add) (rCatA K) := h ▸ op_catA
theorem lenK (h : X.K = K) : CallR X (.builtin "len") (rLenS K) := h ▸ call_len_seq
theorem listK (h : X.K = K) : CallR X (.type "list") (rListS K) := h ▸ call_list_of
theorem tupK (h : X.K = K) : CallR X (.type "tuple") (rTupS K) := h ▸ call_tuple_of
theorem allK (h : X.K = K) (hc : X.calm = true) : CallR X (.builtin "all") (rAll K) := h ▸ cr_all hc
theorem inK (h : X.K = K) : OpR X (compareOp .In) (rIn K false) := h ▸ op_in_seq
theorem ninK (h : X.K = K) : OpR X (compareOp .NotIn) (rIn K true) := h ▸ op_notIn_seq
theorem isiK (h : X.K = K) : CallR X (.builtin "isinstance") (rIsi K) := h ▸ call_isi
theorem fldK (h : X.K = K) (he : PE X e ta) (hb : attributeBase e f X.env (eval e X.env) = eval e X.env := by rfl) : PE X (.Attribute e f pos) (tFld K ta f) := h ▸ pe_fld he hb
end
/-! built-ins -/
theorem er_isI {i : Int} (ha : Er K ta σ H i) : Er K (tCB (rIsi K) (tCons ta (tCons (tC (.ty "int")) tNil))) σ H true := fun H1 e1 Q q => ha.evI H1 e1 _ fun H2 e2 => ⟨.int i, .ty "int", .type "int", .type "int", true, rfl, .ty _, .base (.int i), kit_ty (by decide +kernel), q _ H2 e2 rfl⟩
theorem er_isB {i : Int} (ha : Er K ta σ H i) : Er K (tCB (rIsi K) (tCons ta (tCons (tC (.ty "bool")) tNil))) σ H false := fun H1 e1 Q q => ha.evI H1 e1 _ fun H2 e2 => ⟨.int i, .ty "bool", .type "int", .type "bool", false, rfl, .ty _, .base (.int i), kit_ty (by decide +kernel), q _ H2 e2 rfl⟩
theorem er_isS {z : Str} (ha : Er K ta σ H z) : Er K (tCB (rIsi K) (tCons ta (tCons (tC (.ty "str")) tNil))) σ H true := fun H1 e1 Q q => ha.evS H1 e1 _ fun H2 e2 => ⟨.str z, .ty "str", .type "str", .type "str", true, rfl, .ty _, .base (.str z), kit_ty (by decide +kernel), q _ H2 e2 rfl⟩
theorem ty_tup {p : Addr} {xs : List V} (h : SqT K H p xs) : TyX K H (.ref p) (.type "tuple") := by
  rcases h with (h | ⟨o, h⟩) | ⟨o, its, n, h, hc, _⟩
  · exact .base (.tup h)
  · exact .fTuple h
  · exact .kTuple h hc
theorem er_isTp {z : α} (hz : ∀ H v, r K H v z → ∃ p xs, v = .ref p ∧ SqT K H p xs) (ha : Er K ta σ H z) : Er K (tCB (rIsi K) (tCons ta (tCons (tC (.ty "tuple")) tNil))) σ H true := fun H1 e1 Q q => ha H1 e1 _ fun v H2 e2 hv => by
  obtain ⟨p, xs, rfl, hs⟩ := hz H2 v hv
  exact ⟨.ref p, .ty "tuple", .type "tuple", .type "tuple", true, rfl, .ty _, ty_tup hs, kit_ty (by decide +kernel), q _ H2 e2 rfl⟩
theorem er_isT {as : List α} (ha : Er K ta σ H as) : Er K (tCB (rIsi K) (tCons ta (tCons (tC (.ty "tuple")) tNil))) σ H true := er_isTp (fun H v h => by obtain ⟨p, xs, e, h, _⟩ := h; exact ⟨p, xs, e, h⟩) ha
theorem er_isP {z : α × β} (ha : Er K ta σ H z) : Er K (tCB (rIsi K) (tCons ta (tCons (tC (.ty "tuple")) tNil))) σ H true := er_isTp (fun H v h => by obtain ⟨p, x, y, e, h, _⟩ := h; exact ⟨p, _, e, h⟩) ha
theorem er_all {bs : List Bool} (ha : El K ta σ H bs) : Er K (tCB (rAll K) (tCons ta tNil)) σ H (bs.all id) := fun H1 e1 Q q => ha H1 e1 _ fun p xs H2 e2 _ h1 h2 =>
  ⟨p, bs, rfl, sq_of (by rw [h1, pd_eq (f := V.bl) (pd_map h2 fun _ _ z => z)]), q _ H2 e2 rfl⟩
theorem er_str {i : Int} (ha : Er K ta σ H i) (hl : i.natAbs < 10 ^ 30) : Er K (tCB (fun xs H Q => ∃ i, xs = [.int i] ∧ i.natAbs.log2 < 1920 ∧ Q (.str (toString i)) H) (tCons ta tNil)) σ H (PySem.Str.ofString (toString i)) := fun H1 e1 Q q => ha.evI H1 e1 _ fun H2 e2 =>
  ⟨i, rfl, by
    by_cases hz : i.natAbs = 0
    · rw [hz]
      decide
    · exact (Nat.log2_lt hz).mpr (Nat.lt_of_lt_of_le hl (Nat.le_trans (show 10 ^ 30 ≤ 2 ^ 100 by decide) (Nat.pow_le_pow_right (by decide) (by decide)))), q _ H2 e2 rfl⟩
theorem er_int {i : Int} (ha : Er K ta σ H i) : Er K (tCB (fun xs H Q => (∃ i, xs = [.int i] ∧ Q (.int i) H) ∨ ∃ k, xs = [.bl k] ∧ Q (.int (if k then 1 else 0)) H) (tCons ta tNil)) σ H i := fun H1 e1 Q q => ha.evI H1 e1 _ fun H2 e2 => .inl ⟨i, rfl, q _ H2 e2 rfl⟩
theorem er_abs {i : Int} (ha : Er K ta σ H i) : Er K (tCB (fun xs H Q => ∃ i, xs = [.int i] ∧ Q (.int (if i < 0 then -i else i)) H) (tCons ta tNil)) σ H (if i < 0 then -i else i) := fun H1 e1 Q q => ha.evI H1 e1 _ fun H2 e2 => ⟨i, rfl, q _ H2 e2 rfl⟩
theorem er_min {i j : Int} (ha : Er K ta σ H i) (hb : Er K tb σ H j) : Er K (tCB (fun xs H Q => ∃ i j, xs = [.int i, .int j] ∧ Q (.int (if j < i then j else i)) H) (tCons ta (tCons tb tNil))) σ H (if j < i then j else i) := fun H1 e1 Q q => ha.evI H1 e1 _ fun H2 e2 => hb.evI H2 (e1.trans e2) _ fun H3 e3 => ⟨i, j, rfl, q _ H3 (e2.trans e3) rfl⟩
theorem El.er' {as : List α} (h : El K te σ H as) : Er K te σ H (Ls.mk as) := h.er
end
end Js
/-! ### sorted of triples: two ints, then an int or None -/
namespace Jg
open PySem PySem.Spec PyProof.Rows L2 SrtO
def IsTrip (h : Heap) (v : Value) (p : Int × Int) (c : Option Int) : Prop := ∃ a o t u z n, v = .ref a ∧ h.get? a = some o ∧ o.cls = .type "tuple" ∧ o.data = .seq #[.int p.1 t, .int p.2 u, z] n ∧ (match c with | none => z = Value.none | some j => ∃ t', z = Value.int j t')
theorem IsTrip.keeps {h h' : Heap} {v : Value} {p : Int × Int} {c : Option Int} (q : IsTrip h v p c) (k : ∀ b o, h.get? b = some o → o.cls = .type "tuple" → h'.get? b = some o) : IsTrip h' v p c := by
  obtain ⟨a, o, t, u, z, n, e, ho, hc, hd, hz⟩ := q
  exact ⟨a, o, t, u, z, n, e, k _ _ ho hc, hc, hd, hz⟩
section
variable {prog : Program} {w : World} {A : Around} {E : Value → Shared → Prop} {s : Shared}
theorem trip_cmp {vs : List Value} {k : Value → Int × Int} {c : Value → Option Int} (hp : ∀ v ∈ vs, IsTrip s.heap v (k v) (c v)) (inj : ∀ v ∈ vs, ∀ u ∈ vs, k v = k u → c v = c u) :
    Cmp prog w A s (tuples' true) (fun p => p.1 ∈ vs) (lt2 fun v u => lexB (k v) (k u)) := by
  intro p q hm hm'
  have h1 := hp _ hm
  have h2 := hp _ hm'
  have h3 := inj _ hm _ hm'
  show wpAny (model prog w) A (keyLt' (tuples' true) p.1 q.1) (fun r s' => s' = s ∧ r = lexB (k p.1) (k q.1)) (fun _ _ => False) s
  revert h1 h2 h3
  generalize k p.1 = kp
  generalize k q.1 = kq
  generalize c p.1 = cp
  generalize c q.1 = cq
  obtain ⟨x, y⟩ := kp
  obtain ⟨x', y'⟩ := kq
  rintro ⟨a, o, t, u, z, n, e, ho, hc, hd, hz⟩ ⟨a', o', t', u', z', n', e', ho', hc', hd', hz'⟩ h3
  rw [e, e']
  refine PySem.W.kat_lt ho hd ho' hd' ?_
  unfold lexB
  show PySem.W.KatLex prog w A true (decide (3 < 3)) _ [(.int x t, .int x' t'), (.int y u, .int y' u'), (z, z')] 0 s
  refine PySem.W.kat_cons (SeqAt.EqAt.int_int x t x' t' prog w _ _ (PySem.W.kat_go (fun e1 => ?_) (fun e1 => ?_)))
  · have ex : x = x' := by simpa using e1
    refine PySem.W.kat_yes (PySem.W.kat_cons (SeqAt.EqAt.int_int y u y' u' prog w _ _ (PySem.W.kat_go (fun e2 => ?_) (fun e2 => ?_))))
    · have ey : y = y' := by simpa using e2
      subst ex ey
      have ec := h3 rfl
      subst ec
      have fin : (if x = x then decide (y < y) else decide (x < x)) = false := by rw [if_pos rfl]; exact decide_eq_false (Int.lt_irrefl _)
      refine PySem.W.kat_yes (PySem.W.kat_cons ?_)
      cases cp with
      | none =>
        obtain rfl : z = Value.none := hz
        obtain rfl : z' = Value.none := hz'
        exact SeqAt.EqAt.same _ _ _ _ _ (PySem.W.kat_go (fun _ => PySem.W.kat_yes (PySem.W.kat_nil ⟨rfl, fin.symm⟩)) fun z => by cases z)
      | some j =>
        obtain ⟨t1, rfl⟩ := hz
        obtain ⟨t2, rfl⟩ := hz'
        refine SeqAt.EqAt.int_int j t1 j t2 prog w _ _ (PySem.W.kat_go (fun _ => PySem.W.kat_yes (PySem.W.kat_nil ⟨rfl, fin.symm⟩)) fun z => ?_)
        simp at z
    · have e3 : (if x = x' then decide (y < y') else decide (x < x')) = decide (y < y') := if_pos ex
      refine PySem.W.kat_no (PySem.W.kat_one _ _ (PyProof.Rows.lt_int ?_))
      exact (show s = s ∧ decide (y < y') = (if x = x' then decide (y < y') else decide (x < x')) from ⟨rfl, e3.symm⟩)
  · have ex : ¬ x = x' := by simpa using e1
    exact PySem.W.kat_no (oneLt_int ⟨rfl, (if_neg ex : (if x = x' then decide (y < y') else decide (x < x')) = decide (x < x')).symm⟩)
theorem firsts3 {h : Heap} : ∀ {vs : List Value}, (∀ v ∈ vs, ∃ p c, IsTrip h v p c) → ∃ fs : List Value, PySem.W.KatTups h vs fs ∧ fs.length = vs.length ∧ ∀ f ∈ fs, ∃ x t, f = Value.int x t
  | [], _ => ⟨[], .nil, rfl, fun _ hm => by simp at hm⟩
  | v :: vs, hp => by
    obtain ⟨fs, h1, h2, h3⟩ := firsts3 (vs := vs) fun v' hm => hp v' (List.mem_cons_of_mem _ hm)
    obtain ⟨p, c, a, o, t, u, z, n, e, ho, hc, hd, _⟩ := hp v (List.mem_cons_self ..)
    subst e
    refine ⟨.int p.1 t :: fs, .cons ho hc hd rfl h1, by simp [h2], fun f hm => ?_⟩
    rcases List.mem_cons.mp hm with rfl | hm
    · exact ⟨p.1, t, rfl⟩
    · exact h3 f hm
theorem sorted_trips {l : Addr} {vs : List Value} {k : Value → Int × Int} {c : Value → Option Int} {Q : Value → Shared → Prop} (hl : s.heap.IsList l vs.toArray) (hz : vs.length ≤ sizeLine) (hp : ∀ v ∈ vs, IsTrip s.heap v (k v) (c v)) (inj : ∀ v ∈ vs, ∀ u ∈ vs, k v = k u → c v = c u)
    (h : ∀ (h' : Heap) (d : Addr) (out : List Value), Srtd (fun v u => lexB (k v) (k u)) out → Stb (fun v u => lexB (k v) (k u)) out vs → (∀ b o, s.heap.get? b = some o → h'.get? b = some o) → s.heap.objs.size ≤ d → (∃ n, h'.get? d = some (seqObj "list" out.toArray n)) → Q (.ref d) { s with heap := h' }) :
    wpAny (model prog w) A (call (.builtin "sorted") [.ref l]) Q E s := by
  refine sorted_ord (swo_lex k) hl hz (fun h2 h₁ a ha kk => ?_) fun out hs hb => h _ _ out hs hb (fun b o e => sortedAll_old e) (Nat.le_succ _) (sortedAll_at s.heap vs out.toArray)
  intro h' keep
  have hp' : ∀ v ∈ vs, IsTrip h' v (k v) (c v) := fun v hm => (hp v hm).keeps fun b o e _ => keep b o (kk b o e).1 (kk b o e).2
  obtain ⟨fs, g1, g2, g3⟩ := firsts3 fun v hm => ⟨_, _, hp' v hm⟩
  refine ⟨tuples' true, fun Q E hq => PySem.W.kat_kind (T := .type "int") g1 (by omega) (fun f hm => ?_) (by rfl) ?_, trip_cmp hp' inj⟩
  · obtain ⟨x, t, rfl⟩ := g3 f hm
    exact PySem.W.Looks.now
  · have e : (Value.type "int" != Value.type "tuple") = true := by first | decide +kernel | rfl | decide
    rw [e]
    exact hq
end
def rSort3 (K : PySem.W.Frag) : List V → Hp → VK → Prop := fun vs H Q => ∃ (a : Addr) (xs : List V) (k : V → Int × Int) (c : V → Option Int), vs = [V.ref a] ∧ SqL K H a xs ∧
  (∀ x ∈ xs, ∃ t, x = V.ref t ∧ SqT K H t [.int (k x).1, .int (k x).2, (match c x with | none => V.non | some j => V.int j)]) ∧ (∀ x ∈ xs, ∀ y ∈ xs, k x = k y → c x = c y) ∧
  ∀ ys p, Srtd (ltP k) ys → Stb (ltP k) ys xs → H p = none → Q (.ref p) (upd H p (.lst ys))
theorem vals3 {x y z : V} {us : List Value} (r : Vals [x, y, z] us) : ∃ u v' w', us = [u, v', w'] ∧ RelV x u ∧ RelV y v' ∧ RelV z w' := by
  cases r with
  | cons r1 r2 =>
    obtain ⟨u, v', rfl, r3, r4⟩ := vals2 r2
    exact ⟨_, _, _, rfl, r1, r3, r4⟩
theorem cr_sort3 {X : Cx} : CallR X (.builtin "sorted") (rSort3 X.K) := by
  intro pins s σ H vs us Q I r h
  obtain ⟨a, xs, k, c, rfl, hs, hx, inj, q⟩ := h
  obtain ⟨its, rv, hl, hz⟩ := I.list hs
  obtain ⟨u, rfl, ru⟩ := vals1 r
  obtain rfl : u = Value.ref a := ru
  obtain ⟨e1, e2⟩ := refs_back rv fun x m => let ⟨t, e, _⟩ := hx x m; ⟨t, e⟩
  have mem : ∀ v ∈ its, backV v ∈ xs := fun v hv => by rw [e1]; exact List.mem_map.mpr ⟨_, hv, rfl⟩
  refine sorted_trips (k := fun u => k (backV u)) (c := fun u => c (backV u)) hl.isList (by rw [← rv.length]; exact hz) (fun v hv => ?_) (fun v hv u hu => inj _ (mem v hv) _ (mem u hu)) fun h' d out h1 h2 kp hd hn => ?_
  · obtain ⟨t', e, ht⟩ := hx _ (mem v hv)
    obtain ⟨t, rfl⟩ := e2 v hv
    cases e
    obtain ⟨its2, r2, ⟨o, ho, hc, n, hd⟩, _⟩ := I.tuple ht
    obtain ⟨u1, u2, u3, rfl, ri, rj, rk⟩ := vals3 r2
    obtain ⟨t1, rfl⟩ := ri
    obtain ⟨t2, rfl⟩ := rj
    refine ⟨t', o, t1, t2, u3, n, rfl, ho, hc, hd, ?_⟩
    revert rk
    show RelV (match c (V.ref t') with | none => V.non | some j => V.int j) u3 → (match c (V.ref t') with | none => u3 = Value.none | some j => ∃ t', u3 = Value.int j t')
    cases c (V.ref t') with
    | none => exact fun rk => rk
    | some j => exact fun rk => rk
  · have h3 : ∀ u ∈ out, ∃ a, u = Value.ref a := fun u hu => e2 u (h2.perm.mem_iff.mp hu)
    obtain ⟨n, hn⟩ := hn
    have hb : Stb (ltP k) (out.map backV) xs := e1 ▸ Stb.map (ltP_swo k) backV h2
    refine ⟨.ref d, upd H d (.lst (out.map backV)), I.laid (t' := s.toks) kp hd ⟨?_, out, n, vals_back h3, hn⟩, rfl, q _ d (srtd_map h1) hb (I.hok.fresh hd)⟩
    rw [hb.len]
    exact hz
end Jg
/-! ### try with several clauses, some with a name; None in a list or tuple of mixed things; X() of an own exception class -/
namespace Jg
open PySem PySem.Spec PyProof.Rows L2
/-- an exception at a has come to rest in s -/
def Afly (X : Cx) (pins : List (Addr × Obj)) (a : Addr) (cls : Value) (d : Option Addr) (σ : L2.St) (H : Hp) (s : Shared) : Prop :=
  ∃ (B : Heap) (sI : Shared), Inv X pins σ H sI ∧ (∀ b o, sI.heap.get? b = some o → b ∉ frs X.stack → B.get? b = some o) ∧ sI.heap.UpToSlots s.heap ∧ HandSPX.FlyingZ B (X.env :: X.outer) a (Zc cls d) s.heap ∧ H a = none ∧ s.os = sI.os ∧ AllBare s.gens
section
variable {X : Cx} {pins : List (Addr × Obj)} {a : Addr} {cls : Value} {d : Option Addr} {σ : L2.St} {H : Hp} {s : Shared}
theorem Afly.inv (F : Afly X pins a cls d σ H s) : Inv X pins σ H s := by
  obtain ⟨B, sI, J, nb, up, fl, na, os, ag⟩ := F
  exact J.landed nb fl.1 up os ag
/-- within a suite of the try -/
theorem Afly.suite (F : Afly X pins a cls d σ H s) (hf : X.env.frame = some X.env.locals) : ∃ (oe : Obj) (vs : Array Value), s.heap.get? a = some oe ∧ Zc cls d oe ∧ oe.data = .fields vs ∧ Inv (X.suite a ((a, oe) :: (X.pn ++ pins))) [] σ H s := by
  have J := F.inv
  obtain ⟨B, sI, _, _, _, fl, na, _, _⟩ := F
  obtain ⟨oe, vs, he, hz, hd⟩ := fl.there
  have nfr : a ∉ frs (X.env :: X.outer) := fun hm => by
    obtain ⟨_, o', e', hnf⟩ := fl.2.2.1.mem hm
    rw [he] at e'
    cases e'
    exact hnf _ hd
  refine ⟨oe, vs, he, hz, hd, J.suite he hd na (fun z => nfr (List.mem_filterMap.mpr ⟨X.env, List.mem_cons_self, by rw [hf, z]⟩)) fun hm => ?_⟩
  obtain ⟨e, hm2, q⟩ := List.mem_filterMap.mp hm
  exact nfr (List.mem_filterMap.mpr ⟨e, List.mem_cons_of_mem _ hm2, q⟩)
theorem Afly.test (F : Afly X pins a cls d σ H s) (hf : X.env.frame = some X.env.locals) {x : Str} {c : Value} {np : Pos} (hc : Names X x c) {b : Bool} (hb : PySem.W.exmOne X.K cls c = some b) {Q : Bool → Shared → Prop} {E E' : Value → Shared → Prop} (q : Q b s) :
    wpAny (model X.prog X.w) (X.A.mark (some (.ref a))) (eval (.Name x np) X.env) (fun u s1 => wpAny (model X.prog X.w) (X.A.mark (some (.ref a))) (excMatches (.ref a) u) Q E s1) E' s := by
  obtain ⟨oe, vs, he, hz, hd, S⟩ := F.suite hf
  have LM := PySem.W.exm_one (M := model X.prog X.w) F.inv.kIn (show PySem.W.Looks (model X.prog X.w) s.heap (typeOf (.ref a)) cls from fun A Q E s k q => wpAny_typeOf_ref (k _ _ he) (by rw [hz.1]; exact q)) hb
  have go := LM.here (A := X.A.mark (some (.ref a))) (E := E) (s := s) q
  obtain ⟨hg, hdbg, hm | ⟨hm, hv, hnn⟩⟩ := hc
  · exact ld_glob (X := X.suite a ((a, oe) :: (X.pn ++ pins))) S hg hm go hdbg
  · exact ld_blt (X := X.suite a ((a, oe) :: (X.pn ++ pins))) S hg hm hv go hnn hdbg
theorem Afly.again (F : Afly X pins a cls d σ H s) {M : Model} {A : Around} {E : Value → Shared → Prop} {Q : Unit → Shared → Prop} (q : ∀ s', Afly X pins a cls d σ H s' → Q () s') : wpAny M A (setFlight (.ref a) none) Q E s := by
  obtain ⟨B, sI, J, nb, up, fl, na, os, ag⟩ := F
  exact HandSPX.lands_againZ fl fun h' fl' up' => q _ ⟨B, sI, J, nb, up.trans up', fl', na, os, ag⟩
/-- no clause is left -/
theorem Afly.out (F : Afly X pins a cls d σ H s) (hs : X.stack = X.env :: X.outer) (hf : X.env.frame = some X.env.locals) {Wout : WX} (tk : Takes X Wout) (w : Wout cls d σ H) {D : Ends} :
    wpAny (model X.prog X.w) X.A (handleBy (.ref a) X.env []) (SP X pins D) X.xe s := by
  obtain ⟨B, sI, J, nb, up, fl, na, os, ag⟩ := F
  refine wpAny_handleBy_nil ?_
  obtain ⟨_, _, _, oe, vs, T, _, _, he, _, hd, h1, _⟩ := id fl
  unfold PySem.passOn
  refine wpAny_bind (wpAny_field he hd h1 ?_)
  rw [if_neg (show ¬ ((Value.ref T == Value.none) = true) from by simp)]
  have fin : wpAny (model X.prog X.w) X.A (setFlight (.ref a) X.env.frame) (fun _ s4 => wpAny (model X.prog X.w) X.A (throw (.ref a) : Sem Flow) (SP X pins D) X.xe s4) X.xe s := by
    rw [hf]
    exact HandSPX.setFlight_upZ fl fun h4 hh4 up4 => wpAny_throw (tk _ _ ⟨a, B, sI, pins, σ, H, cls, d, rfl, J, nb, up.trans up4, .inr (.inr (by rw [hs]; exact hh4)), na, os, ag, w⟩)
  first
    | exact wpAny_bind (wpAny_pure (wpAny_bind fin))
    | exact wpAny_bind fin
end
/-- how a suite ends whose exception's name (slot i) goes behind it -/
def ends' (i : Option Nat) (D : Ends) : Ends := match i with
  | none => D
  | some i => { nx := fun σ' H' => D.nx (σ'.set i none) H', rt := D.rt, bk := fun σ' H' => D.bk (σ'.set i none) H', ct := fun σ' H' => D.ct (σ'.set i none) H' }
def put' (i : Option Nat) (a : Addr) (σ : L2.St) : L2.St := match i with
  | none => σ
  | some i => σ.set i (some (.ref a))
abbrev Cl := Value × Option Nat × (Addr → Value → Option Addr → TS)
def wMix (K : PySem.W.Frag) (Wout : WX) (D : Ends) : List Cl → WX
  | [] => Wout
  | (c, i, ts) :: r => fun cls d σ H => ∃ b, PySem.W.exmOne K cls c = some b ∧ (b = true → ∀ a, H a = none → ts a cls d (ends' i D) (put' i a σ) H) ∧ (b = false → wMix K Wout D r cls d σ H)
inductive ClsOk (X : Cx) : List ExceptHandler → List Cl → Prop
  | nil : ClsOk X [] []
  | plain {x : Str} {c : Value} {ts : Addr → Value → Option Addr → TS} {b₀ : Stmt} {su : List Stmt} {np pos : Pos} {hds : List ExceptHandler} {l : List Cl} (hc : Names X x c)
      (hsu : ∀ (a : Addr) (oe : Obj) (cls : Value) (d : Option Addr) (pn : List (Addr × Obj)), Zc cls d oe → (∃ vs, oe.data = .fields vs) → PSs (X.suite a ((a, oe) :: pn)) (b₀ :: su) (ts a cls d)) (r : ClsOk X hds l) :
      ClsOk X (.ExceptHandler (some (.Name x np)) none (b₀ :: su) pos :: hds) ((c, none, ts) :: l)
  | named {x n : Str} {i : Nat} {c : Value} {ts : Addr → Value → Option Addr → TS} {b₀ : Stmt} {su : List Stmt} {np pos : Pos} {hds : List ExceptHandler} {l : List Cl} (hc : Names X x c) (hN : X.N.Nodup) (hi : X.N[i]? = some n) (hln : X.env.kindOf n = some .local)
      (hsu : ∀ (a : Addr) (oe : Obj) (cls : Value) (d : Option Addr) (pn : List (Addr × Obj)), Zc cls d oe → (∃ vs, oe.data = .fields vs) → PSs (X.suite a ((a, oe) :: pn)) (b₀ :: su) (ts a cls d)) (r : ClsOk X hds l) :
      ClsOk X (.ExceptHandler (some (.Name x np)) (some n) (b₀ :: su) pos :: hds) ((c, some i, ts) :: l)
section
variable {X : Cx} {body : List Stmt} {h₀ : ExceptHandler} {hds : List ExceptHandler} {l : List Cl} {pos : Pos} {tb : WX → TS} {Wout : WX}
theorem clauses_run (hs : X.stack = X.env :: X.outer) (hf : X.env.frame = some X.env.locals) (tk : Takes X Wout) {D : Ends} {pins : List (Addr × Obj)} {a : Addr} {cls : Value} {d : Option Addr} {σ : L2.St} {H : Hp} : ∀ {hds : List ExceptHandler} {l : List Cl}, ClsOk X hds l →
    ∀ {s : Shared}, Afly X pins a cls d σ H s → wMix X.K Wout D l cls d σ H → wpAny (model X.prog X.w) X.A (handleBy (.ref a) X.env hds) (SP X pins D) X.xe s := by
  intro hds l hk
  induction hk with
  | nil => exact fun F w => F.out hs hf tk w
  | plain hc hsu r ih =>
    intro s F w
    obtain ⟨b, hb, hy, hn⟩ := w
    refine wpAny_handleBy_cons (codeAny_handlers_test (F.test hf hc hb ?_)) (by intro q; cases q)
    cases b with
    | false => exact ih F (hn rfl)
    | true =>
      refine codeAny_handlers_suite (F.again fun s' F' => ?_)
      obtain ⟨oe, vs, he, hz, hd, S⟩ := F'.suite hf
      have ok := F'.inv.ok
      have na : H a = none := by obtain ⟨_, _, _, _, _, _, na, _⟩ := F; exact na
      refine wpAny_mono ((hsu a oe cls d (X.pn ++ pins) hz ⟨_, hd⟩).run [] s' σ H _ S (hy rfl a na)) (fun f s6 sp => ?_) fun _ _ z => False.elim z
      cases f with
      | next => obtain ⟨σ6, H6, S6, q6⟩ := sp; exact ⟨_, _, S6.unsuite ok, q6⟩
      | brk => obtain ⟨σ6, H6, S6, q6⟩ := sp; exact ⟨_, _, S6.unsuite ok, q6⟩
      | cont => obtain ⟨σ6, H6, S6, q6⟩ := sp; exact ⟨_, _, S6.unsuite ok, q6⟩
      | ret u => obtain ⟨v6, σ6, H6, S6, r6, q6⟩ := sp; exact ⟨_, _, _, S6.unsuite ok, r6, q6⟩
  | @named x n i c ts b₀ su np pos' hds l hc hN hi hln hsu r ih =>
    intro s F w
    obtain ⟨b, hb, hy, hn⟩ := w
    refine wpAny_handleBy_cons (codeAny_handlers_test (F.test hf hc hb ?_)) (by intro q; cases q)
    cases b with
    | false => exact ih F (hn rfl)
    | true =>
      refine codeAny_handlers_suite_as (F.again fun s' F' => ?_)
      obtain ⟨oe, vs, he, hz, hd, S⟩ := F'.suite hf
      have ok := F'.inv.ok
      have na : H a = none := by obtain ⟨_, _, _, _, _, _, na, _⟩ := F; exact na
      refine store_ok (X := X.suite a ((a, oe) :: (X.pn ++ pins))) (v := .ref a) S hN hi (.inl hln) rfl (fun s5 S5 => ?_) (.inr hln)
      have go : ∀ {s6 : Shared} {σ6 : L2.St} {H6 : Hp} {Q : Shared → Prop}, Inv (X.suite a ((a, oe) :: (X.pn ++ pins))) [] σ6 H6 s6 → (∀ s7, Inv X pins (σ6.set i none) H6 s7 → Q s7) →
          wpAny (model X.prog X.w) X.A (do bindName X.env n .none; unbindBehindTheSuite X.env n pos') (fun _ s7 => Q s7) X.xe s6 := fun S6 hq => gone_ok (S6.unsuite ok) hN hi hln hq
      refine wpAny_mono ((hsu a oe cls d (X.pn ++ pins) hz ⟨_, hd⟩).run [] s5 _ H _ S5 (hy rfl a na)) (fun f s6 sp => ?_) fun _ _ z => False.elim z
      cases f with
      | next => obtain ⟨σ6, H6, S6, q6⟩ := sp; exact go S6 fun s7 J7 => ⟨_, _, J7, q6⟩
      | brk => obtain ⟨σ6, H6, S6, q6⟩ := sp; exact go S6 fun s7 J7 => ⟨_, _, J7, q6⟩
      | cont => obtain ⟨σ6, H6, S6, q6⟩ := sp; exact go S6 fun s7 J7 => ⟨_, _, J7, q6⟩
      | ret u => obtain ⟨v6, σ6, H6, S6, r6, q6⟩ := sp; exact go S6 fun s7 J7 => ⟨_, _, _, J7, r6, q6⟩
theorem ps_try_mix (hs : X.stack = X.env :: X.outer) (hf : X.env.frame = some X.env.locals) (tk : Takes X Wout)
    (hb : ∀ (W : WX) (pn : List (Addr × Obj)) (xe : Value → Shared → Prop), Takes (X.tr pn xe) W → PassesOwn (model X.prog X.w) X.A X.env xe → PSs (X.tr pn xe) body (tb W))
    (hh : ClsOk X (h₀ :: hds) l) : PS X (.Try body (h₀ :: hds) [] [] pos) (fun D σ H => tb (wMix X.K Wout D l) D σ H) := by
  refine ⟨fun pins s σ H D I h => ?_⟩
  have ok := I.ok
  refine wpAny_Try_except (wpAny_mono ((hb (wMix X.K Wout D l) (X.pn ++ pins) (fun e s₁ => wpAny (model X.prog X.w) X.A (noteFrame e X.env) (fun _ s₂ => wpAny (model X.prog X.w) X.A (setFlight e none) (fun _ s₃ =>
    wpAny (model X.prog X.w) X.A (handleBy e X.env (h₀ :: hds)) (SP X pins D) X.xe s₃) X.xe s₂) X.xe s₁) (fun u s' xx => ?_) PassesOwn.looking).run [] s σ H D (I.toTry _) h) (fun f s1 sp => ?_) fun e s1 he => he)
  · obtain ⟨a, B, sI, pins', σ', H', cls, d, rfl, J', nb, up, sky, na, os, ag, w⟩ := xx
    have sky2 : Sky B (X.env :: X.outer) a (Zc cls d) X.env.locals s'.heap := by rw [← hs]; exact sky
    exact Sky.land Zc.steady (show X.A.frames = some (X.env :: X.outer) by rw [ok.frames, hs]) hf sky2 fun h3 fl3 up3 => clauses_run hs hf tk hh ⟨B, sI, J'.ofTry ok, nb, up.trans up3, fl3, na, os, ag⟩ w
  · cases f with
    | next => obtain ⟨σ', H', J', q⟩ := sp; exact wpAny_execs_nil ⟨σ', H', J'.ofTry ok, q⟩
    | brk => obtain ⟨σ', H', J', q⟩ := sp; exact ⟨σ', H', J'.ofTry ok, q⟩
    | cont => obtain ⟨σ', H', J', q⟩ := sp; exact ⟨σ', H', J'.ofTry ok, q⟩
    | ret u => obtain ⟨v, σ', H', J', r, q⟩ := sp; exact ⟨v, σ', H', J'.ofTry ok, r, q⟩
end
/-! None in -/
def NonMix (K : PySem.W.Frag) (H : Hp) (z : V) : Prop := z = .non ∨ (∃ i, z = .int i) ∨ (∃ i, z = .str i) ∨ ∃ p xs, z = .ref p ∧ SqT K H p xs
def rNonIn (K : PySem.W.Frag) : R2 := fun x y H Q => ∃ p xs, x = .non ∧ y = .ref p ∧ (SqL K H p xs ∨ SqT K H p xs) ∧ (∀ z ∈ xs, NonMix K H z) ∧ Q (.bl (xs.any isNon)) H
section
variable {X : Cx}
theorem mix_eq {A : Around} {pins : List (Addr × Obj)} {σ : L2.St} {H : Hp} {s : Shared} (I : Inv X pins σ H s) (hu : A.units < cLine) : ∀ {xs : List V} {us : List Value}, Vals xs us → (∀ z ∈ xs, NonMix X.K H z) →
    us.any PySem.Numpy.isNone = xs.any isNon ∧ ∀ u ∈ us, SeqAt.EqAt A s u .none (PySem.Numpy.isNone u)
  | _, _, .nil, _ => ⟨rfl, fun u hu' => by cases hu'⟩
  | y :: xs, u :: us, .cons r t, f => by
    obtain ⟨h1, h2⟩ := mix_eq I hu t fun z hz => f z (List.mem_cons_of_mem _ hz)
    have one : PySem.Numpy.isNone u = isNon y ∧ SeqAt.EqAt A s u .none (PySem.Numpy.isNone u) := by
      rcases f y (List.mem_cons_self ..) with rfl | ⟨i, rfl⟩ | ⟨i, rfl⟩ | ⟨p, ys, rfl, hq⟩
      · cases r
        exact ⟨rfl, SeqAt.EqAt.same _⟩
      · obtain ⟨t, rfl⟩ := r
        exact ⟨rfl, SeqAt.EqAt.int_none _ _⟩
      · obtain ⟨t, rfl⟩ := r
        exact ⟨rfl, SeqAt.EqAt.str_none _ _⟩
      · obtain rfl : u = Value.ref p := r
        obtain ⟨its, _, pl, _⟩ := I.tuple hq
        exact ⟨rfl, SeqAt.EqAt.tuple_none pl hu⟩
    refine ⟨by rw [List.any_cons, List.any_cons, one.1, h1], fun u' hm => ?_⟩
    rcases List.mem_cons.mp hm with e | hm
    · rw [e]
      exact one.2
    · exact h2 u' hm
theorem op_nonIn (hu : X.A.units + 64 < cLine) : OpR X (compareOp .In) (rNonIn X.K) := by
  intro pins s σ H x y v u Q I rx ry h
  obtain ⟨p, xs, rfl, rfl, hq, f, q⟩ := h
  cases rx
  cases ry
  have hu1 : X.A.in1.units < cLine := by show X.A.units + 1 < cLine; omega
  rcases hq with hq | hq
  · obtain ⟨its, rv, hl, _⟩ := I.list hq
    obtain ⟨m1, m2⟩ := mix_eq I hu1 rv f
    refine SeqAt.in_listAt PySem.Numpy.isNone hl.isList (fun z hz => m2 z (by simpa using hz)) ⟨.bl _, H, I, rfl, ?_⟩
    rw [show its.toArray.any PySem.Numpy.isNone = its.any PySem.Numpy.isNone by simp, m1]
    exact q
  · obtain ⟨its, rv, hl, _⟩ := I.tuple hq
    obtain ⟨m1, m2⟩ := mix_eq I hu1 rv f
    refine SeqAt.in_tupleAt PySem.Numpy.isNone hl (fun z hz => m2 z (by simpa using hz)) ⟨.bl _, H, I, rfl, ?_⟩
    rw [show its.toArray.any PySem.Numpy.isNone = its.any PySem.Numpy.isNone by simp, m1]
    exact q
/-- X(), X an own exception class without own __init__ -/
theorem pmk_own0 {C : Addr} {bmB : List Value} {B newId initId : String} {x : Str} {p pos : Pos} (F : ExcBaseFacts B newId initId bmB) (q : PySem.W.excIn X.K C bmB newId = true) (gC : X.mg x = some (.ref C))
    (kC : PySem.W.keepIn X.K (.ref C) = true) (r : Raises X (.ref C)) (hg : Gl X x) (hdb : (x == ("__debug__" : Str)) = false := by decide) : PMk X (.Call (.Name x p) [] [] pos) (fun σ H Q => Q (.ref C) none H) := by
  intro pins s σ H Q I h
  refine wpAny_Call_Name_kw (ld_glob I hg gC ?_ hdb)
  refine PySem.W.callWith_K0 I.kIn kC ?_
  show wpAny _ _ (call (.ref C) []) _ _ _
  obtain ⟨bm, N, nm, qn, bs, hdct, sn, sub, ab, col, dd, k0, k1, k2, k3, k5, mN, hC, hN, hni, T⟩ := exc_obj I.kIn q
  exact wpAny_call_exc_subT F T hC hN hni (fun h' e hm => mk_of I hm r h (I.hok.gone hm.new)) (Nat.zero_le _)
end
end Jg
/-! ### texts evaluated -/
namespace Js
open PySem PySem.Spec PyProof.Rows L2 Evl SX
open Rp (r)
abbrev strI (i : Int) : Str := PySem.Str.ofString (toString i)
theorem strI_len {i : Int} (h : -10 < i) (h2 : i < 1000000) : (strI i).length ≤ 6 := by
  by_cases h0 : 0 ≤ i
  · obtain ⟨n, rfl⟩ := Int.eq_ofNat_of_zero_le h0
    have e : strI (n : Int) = S (TL.numL n) := num_S n
    rw [e, S_len]
    exact TL.numL_len (by decide) (by omega)
  · have : i = -9 ∨ i = -8 ∨ i = -7 ∨ i = -6 ∨ i = -5 ∨ i = -4 ∨ i = -3 ∨ i = -2 ∨ i = -1 := by omega
    rcases this with rfl | rfl | rfl | rfl | rfl | rfl | rfl | rfl | rfl <;> decide +kernel
section
variable {K : PySem.W.Frag} {σ : L2.St} {H H' : Hp} {te ta tb tc td : TE} {α β γ : Type} [Rp α] [Rp β] [Rp γ] {a : α} {b : β} {c : γ}
theorem er_str' {i : Int} (ha : Er K ta σ H i) (h : -10 < i) (h2 : i < 1000000) : Er K (tCB (fun xs H Q => ∃ i, xs = [.int i] ∧ i.natAbs.log2 < 1920 ∧ Q (.str (toString i)) H) (tCons ta tNil)) σ H (strI i) := er_str ha (by omega)
def rJoin (K : PySem.W.Frag) : V → List V → Hp → VK → Prop := fun x xs H Q => ∃ a p, ∃ ys : List Str, x = .str a ∧ xs = [.ref p] ∧ (SqL K H p (ys.map V.str) ∨ SqT K H p (ys.map V.str)) ∧ (ys.map (·.length)).sum + ys.length * a.length ≤ 16777216 ∧ Q (.str (Txt.join a ys)) H
theorem joinK {X : Cx} {o e : Expr} {apos pos : Pos} (h : X.K = K) (ho : PE X o ta) (he : PE X e te) (hs : starEach [e] X.env = [(false, eval e X.env)] := by rfl) (hbase : attributeBase o "join" X.env (eval o X.env) = eval o X.env := by rfl) (hline : (apos.endLine == pos.line) = true := by rfl) :
    PE X (.Call (.Attribute o "join" apos) [e] [] pos) (tM1 (rJoin K) ta te) := h ▸ pe_join ho he hs hbase hline
theorem strs_of {H : Hp} {xs : List V} {ys : List Str} (h : Paired (r K H) xs ys) : xs = ys.map V.str := pd_eq (f := V.str) (pd_map h fun _ _ z => z)
theorem er_join {z : Str} {ys : List Str} (ha : Er K ta σ H z) (hb : Er K tb σ H (Ls.mk ys)) (hl : (ys.map (·.length)).sum + ys.length * z.length ≤ 16777216) : Er K (tM1 (rJoin K) ta tb) σ H (Txt.join z ys) := fun H1 e1 Q q => ha.evS H1 e1 _ fun H2 e2 => ⟨⟨z, rfl⟩, hb H2 (e1.trans e2) _ fun v H3 e3 hv => by
  obtain ⟨p, xs, rfl, h1, h2⟩ := hv
  rw [strs_of h2] at h1
  exact ⟨z, p, ys, rfl, rfl, .inl h1, hl, q _ H3 (e2.trans e3) rfl⟩⟩
theorem er_slFrom {z : Str} {n : Int} (ha : Er K ta σ H z) (hb : Er K tb σ H n) (hl : z.length ≤ sizeLine) : Er K (tSl C8.rSlX ta (tPart tb) tNoPart) σ H (Txt.slice z (some n) none) := fun H1 e1 Q q => ha.evS H1 e1 _ fun H2 e2 => hb.evI H2 (e1.trans e2) _ fun H3 e3 => ⟨n, rfl, z, rfl, hl, q _ H3 (e2.trans e3) rfl⟩
theorem er_slTo {z : Str} {n : Int} (ha : Er K ta σ H z) (hb : Er K tb σ H n) (hl : z.length ≤ sizeLine) : Er K (tSl C8.rSlX ta tNoPart (tPart tb)) σ H (Txt.slice z none (some n)) := fun H1 e1 Q q => ha.evS H1 e1 _ fun H2 e2 => hb.evI H2 (e1.trans e2) _ fun H3 e3 => ⟨n, rfl, z, rfl, hl, q _ H3 (e2.trans e3) rfl⟩
theorem el_split {z y : Str} (ha : Er K ta σ H z) (hb : Er K tb σ H y) (hy : (y.length == 0) = false) (hl : z.length + 2 ≤ sizeLine) :
    El K (tM1 (fun x xs H Q => ∃ a b, x = .str a ∧ xs = [.str b] ∧ (b.length == 0) = false ∧ a.length + 2 ≤ sizeLine ∧ rNewStrs (Txt.split a b) H Q) ta tb) σ H (Txt.split z y) := fun H1 e1 Q q => ha.evS H1 e1 _ fun H2 e2 => ⟨⟨z, rfl⟩, hb.evS H2 (e1.trans e2) _ fun H3 e3 =>
  ⟨z, y, rfl, rfl, hy, hl, fun p hp => q p _ _ ((e2.trans e3).trans (Ex.new hp)) (fresh_back e2 (fresh_back e3 hp)) upd_same (pd_of (F := r K _) (f := V.str) (fun b => (rfl : V.str b = V.str b)) _)⟩⟩
theorem el_splitMax {z y : Str} {k : Int} (ha : Er K ta σ H z) (hb : Er K tb σ H y) (hc : Er K tc σ H k) (hy : (y.length == 0) = false) (hk : 0 ≤ k ∧ k < 1000) (hl : z.length + 2 ≤ sizeLine) :
    El K (tBM K "str" (fun x xs H Q => ∃ (a b : Str) (k : Int), x = .str a ∧ xs = [.str b, .int k] ∧ (b.length == 0) = false ∧ -(2 ^ 63) ≤ k ∧ k < 2 ^ 63 ∧ a.length + 2 ≤ sizeLine ∧ rNewStrs (Txt.splitMax a b k) H Q) ta (tCons tb (tCons tc tNil))) σ H (Txt.splitMax z y k) :=
  fun H1 e1 Q q => ha.evS H1 e1 _ fun H2 e2 => ⟨rfl, hb.evS H2 (e1.trans e2) _ fun H3 e3 => hc.evI H3 ((e1.trans e2).trans e3) _ fun H4 e4 =>
  ⟨z, y, k, rfl, rfl, hy, by omega, by omega, hl, fun p hp => q p _ _ (((e2.trans e3).trans e4).trans (Ex.new hp)) (fresh_back e2 (fresh_back e3 (fresh_back e4 hp))) upd_same (pd_of (F := r K _) (f := V.str) (fun b => (rfl : V.str b = V.str b)) _)⟩⟩
theorem er_inSign {k : Nat} {z : Str} (ha : Er K ta σ H (⟨#[k]⟩ : Str)) (hb : Er K tb σ H z) : Er K (tOp (fun x y H Q => ∃ (c : Nat) (z : Str), x = .str ⟨#[c]⟩ ∧ y = .str z ∧ Q (.bl (decide (c ∈ z.cps.toList))) H) ta tb) σ H (decide (k ∈ z.cps.toList)) := fun H1 e1 Q q =>
  ha.evS H1 e1 _ fun H2 e2 => hb.evS H2 (e1.trans e2) _ fun H3 e3 => ⟨k, z, rfl, rfl, q _ H3 (e2.trans e3) rfl⟩
theorem er_ixS {z : Str} {i : Int} {k : Nat} (ha : Er K ta σ H z) (hb : Er K tb σ H i) (hl : z.length ≤ sizeLine) (h : atI z.cps.toList i = some k) : Er K (tOp rIxS ta tb) σ H (⟨#[k]⟩ : Str) := fun H1 e1 Q q =>
  ha.evS H1 e1 _ fun H2 e2 => hb.evI H2 (e1.trans e2) _ fun H3 e3 => ⟨z, i, k, rfl, rfl, hl, h, q _ H3 (e2.trans e3) rfl⟩
/-- len(xs) > 0 as a value of Bool, of a list as it stands -/
theorem signs_all (z : Str) (p : Nat → Bool) (q : Str → Bool) (h : ∀ c, q ⟨#[c]⟩ = p c) : ((signs z).map q).all id = z.cps.toList.all p := by
  unfold signs
  rw [List.map_map, List.all_map]
  congr 1
  funext c
  exact h c
end
end Js
namespace Js
open PySem PySem.Spec PyProof.Rows L2 Evl SX
open Rp (r)
section
variable {K : PySem.W.Frag} {σ : L2.St} {H H' : Hp} {te ta tb tc td : TE} {α β γ : Type} [Rp α] [Rp β] [Rp γ] {a : α} {b : β} {c : γ}
theorem inV_str (z : Str) (ys : List Str) : inV (.str z) (ys.map V.str) = decide (z ∈ ys) := by
  unfold inV
  induction ys with
  | nil => simp
  | cons y ys ih =>
    rw [List.map_cons, List.any_cons, ih]
    show ((y == z) || decide (z ∈ ys)) = _
    by_cases h : z = y
    · subst h
      simp
    · have h' : (y == z) = false := by
        cases e : y == z with
        | false => rfl
        | true => exact absurd (eq_of_beq e).symm h
      simp [h', h]
theorem inV_int (z : Int) (ys : List Int) : inV (.int z) (ys.map V.int) = decide (z ∈ ys) := by
  unfold inV
  induction ys with
  | nil => simp
  | cons y ys ih =>
    rw [List.map_cons, List.any_cons, ih]
    show ((y == z) || decide (z ∈ ys)) = _
    by_cases h : z = y
    · subst h
      simp
    · have h' : (y == z) = false := by
        cases e : y == z with
        | false => rfl
        | true => exact absurd (eq_of_beq e).symm h
      simp [h', h]
theorem flats (ys : List Str) : (ys.map V.str).all flatV = true := by rw [List.all_map]; exact List.all_eq_true.mpr fun _ _ => rfl
theorem flati (ys : List Int) : (ys.map V.int).all flatV = true := by rw [List.all_map]; exact List.all_eq_true.mpr fun _ _ => rfl
theorem ints_of {H : Hp} {xs : List V} {ys : List Int} (h : Paired (r K H) xs ys) : xs = ys.map V.int := pd_eq (f := V.int) (pd_map h fun _ _ z => z)
theorem er_inST {z : Str} {ys : List Str} (ha : Er K ta σ H z) (hb : Er K tb σ H ys) : Er K (tOp (rIn K false) ta tb) σ H (decide (z ∈ ys)) := fun H1 e1 Q q => ha.evS H1 e1 _ fun H2 e2 => hb H2 (e1.trans e2) _ fun v H3 e3 hv => by
  obtain ⟨p, xs, rfl, h1, h2⟩ := hv
  rw [strs_of h2] at h1
  refine ⟨p, _, rfl, .inr h1, rfl, flats ys, q _ H3 (e2.trans e3) ?_⟩
  rw [inV_str]
  rfl
theorem er_inIT {z : Int} {ys : List Int} (ha : Er K ta σ H z) (hb : Er K tb σ H ys) : Er K (tOp (rIn K false) ta tb) σ H (decide (z ∈ ys)) := fun H1 e1 Q q => ha.evI H1 e1 _ fun H2 e2 => hb H2 (e1.trans e2) _ fun v H3 e3 hv => by
  obtain ⟨p, xs, rfl, h1, h2⟩ := hv
  rw [ints_of h2] at h1
  refine ⟨p, _, rfl, .inr h1, rfl, flati ys, q _ H3 (e2.trans e3) ?_⟩
  rw [inV_int]
  rfl
theorem er_ninIT {z : Int} {ys : List Int} (ha : Er K ta σ H z) (hb : Er K tb σ H ys) : Er K (tOp (rIn K true) ta tb) σ H (!decide (z ∈ ys)) := fun H1 e1 Q q => ha.evI H1 e1 _ fun H2 e2 => hb H2 (e1.trans e2) _ fun v H3 e3 hv => by
  obtain ⟨p, xs, rfl, h1, h2⟩ := hv
  rw [ints_of h2] at h1
  refine ⟨p, _, rfl, .inr h1, rfl, flati ys, q _ H3 (e2.trans e3) ?_⟩
  rw [inV_int]
  rfl
theorem er_inIL {z : Int} {ys : List Int} (ha : Er K ta σ H z) (hb : Er K tb σ H (Ls.mk ys)) : Er K (tOp (rIn K false) ta tb) σ H (decide (z ∈ ys)) := fun H1 e1 Q q => ha.evI H1 e1 _ fun H2 e2 => hb H2 (e1.trans e2) _ fun v H3 e3 hv => by
  obtain ⟨p, xs, rfl, h1, h2⟩ := hv
  rw [ints_of h2] at h1
  refine ⟨p, _, rfl, .inl h1, rfl, flati ys, q _ H3 (e2.trans e3) ?_⟩
  rw [inV_int]
  rfl
theorem er_intS {z : Str} {n : Int} (ha : Er K ta σ H z) (h : PySem.intText? z = some n) (hl : z.length ≤ 640) : Er K (tCB (fun xs H Q => ∃ a n, xs = [.str a] ∧ PySem.intText? a = some n ∧ a.length ≤ 640 ∧ Q (.int n) H) (tCons ta tNil)) σ H n := fun H1 e1 Q q => ha.evS H1 e1 _ fun H2 e2 => ⟨z, n, rfl, h, hl, q _ H2 e2 rfl⟩
theorem any_none {H : Hp} (hn : ∀ K H a, ¬ r K H .non (a : α)) {xs : List V} {as : List (Option α)} (h : Paired (r K H) xs as) : xs.any isNon = as.any Option.isNone := by
  induction h with
  | nil => rfl
  | @cons x o xs as hx t ih =>
    rw [List.any_cons, List.any_cons, ih]
    congr 1
    cases o with
    | none =>
      obtain rfl : x = .non := hx
      rfl
    | some a =>
      have hx' : r K H x a := hx
      cases x with
      | non => exact absurd hx' (hn _ _ _)
      | _ => rfl
theorem nonK {X : Cx} (h : X.K = K) (hu : X.A.units + 64 < cLine) : OpR X (compareOp .In) (Jg.rNonIn K) := h ▸ Jg.op_nonIn hu
/-- None among values that are None, ints, texts or tuples -/
theorem er_nonIn {as : List (Option α)} (hm : ∀ H v (o : Option α), r K H v o → Jg.NonMix K H v) (hn : ∀ K H a, ¬ r K H .non (a : α)) (hb : ∀ H1, Ex H H1 → ∀ Q : VK, (∀ p xs H2, Ex H1 H2 → (SqL K H2 p xs ∨ SqT K H2 p xs) → Paired (r K H2) xs as → Q (.ref p) H2) → tb σ H1 Q) :
    Er K (tOp (Jg.rNonIn K) (tC .non) tb) σ H (as.any Option.isNone) := fun H1 e1 Q q => hb H1 e1 _ fun p xs H2 e2 h1 h2 => by
  refine ⟨p, xs, rfl, rfl, h1, fun z hz => ?_, q _ H2 e2 ?_⟩
  · obtain ⟨i, hi, rfl⟩ := List.getElem_of_mem hz
    obtain ⟨a, _, hr⟩ := pd_get h2 (List.getElem?_eq_getElem hi)
    exact hm _ _ _ hr
  · show V.bl _ = V.bl _
    rw [any_none hn h2]
end
end Js
/-! ### dicts by data, sorts by data, enumerate, data not in a list, calls that give new lists -/
namespace Js
open PySem PySem.Spec PyProof.Rows L2 Evl
open Rp (r)
section
variable {κ β : Type} [DecidableEq κ]
def putA (al : List (κ × β)) (k : κ) (b : β) : List (κ × β) := if (al.any fun kv => decide (kv.1 = k)) = true then al.map (fun kv => if kv.1 = k then (kv.1, b) else kv) else al ++ [(k, b)]
def lookA (al : List (κ × β)) (k : κ) : Option β := (al.find? fun kv => decide (kv.1 = k)).map (·.2)
def dropA (al : List (κ × β)) (k : κ) : List (κ × β) := al.filter fun kv => decide (kv.1 ≠ k)
theorem lookA_cons {p : κ × β} {al : List (κ × β)} {k : κ} : lookA (p :: al) k = if p.1 = k then some p.2 else lookA al k := by
  unfold lookA
  by_cases h : p.1 = k <;> simp [List.find?_cons, h]
theorem lookA_put {al : List (κ × β)} {k j : κ} {b : β} : lookA (putA al k b) j = if j = k then some b else lookA al j := by
  unfold putA
  split
  · rename_i h
    induction al with
    | nil => simp at h
    | cons p al ih =>
      rw [List.map_cons, lookA_cons, lookA_cons]
      by_cases hp : p.1 = k
      · rw [if_pos hp]
        by_cases hj : j = k
        · subst hj
          simp [hp]
        · have : ¬ p.1 = j := fun e => hj (e.symm.trans hp)
          simp only [this, if_false, hj]
          clear ih h
          induction al with
          | nil => rfl
          | cons q al ih =>
            rw [List.map_cons, lookA_cons, lookA_cons, ih]
            by_cases hq : q.1 = k
            · have : ¬ q.1 = j := fun e => hj (e.symm.trans hq)
              have hk : ¬ k = j := fun e => hj e.symm
              simp [hq, hk]
            · simp [hq]
      · have h' : (al.any fun kv => decide (kv.1 = k)) = true := by simpa [hp] using h
        rw [if_neg hp, ih h']
        by_cases hj : j = k
        · subst hj
          simp [hp]
        · simp [hj]
  · rename_i h
    induction al with
    | nil =>
      rw [List.nil_append, lookA_cons]
      by_cases hj : j = k
      · simp [hj]
      · have hk : ¬ k = j := fun e => hj e.symm
        simp [hj, hk]
    | cons p al ih =>
      have hp : ¬ p.1 = k := fun e => by simp [e] at h
      have h' : ¬ (al.any fun kv => decide (kv.1 = k)) = true := by simpa [hp] using h
      rw [List.cons_append, lookA_cons, lookA_cons, ih h']
      by_cases hj : j = k
      · subst hj
        simp [hp]
      · simp [hj]
theorem lookA_drop {al : List (κ × β)} {k j : κ} : lookA (dropA al k) j = if j = k then none else lookA al j := by
  unfold dropA
  induction al with
  | nil => simp [lookA]
  | cons p al ih =>
    by_cases hp : p.1 = k
    · rw [List.filter_cons_of_neg (by simp [hp]), ih, lookA_cons]
      by_cases hj : j = k
      · simp [hj]
      · have : ¬ p.1 = j := fun e => hj (e.symm.trans hp)
        simp [hj, this]
    · rw [List.filter_cons_of_pos (by simp [hp]), lookA_cons, lookA_cons, ih]
      by_cases hj : j = k
      · subst hj
        simp [hp]
      · simp [hj]
/-- keys once each -/
def NodupA (al : List (κ × β)) : Prop := (al.map (·.1)).Nodup
theorem nodup_put {al : List (κ × β)} {k : κ} {b : β} (h : NodupA al) : NodupA (putA al k b) := by
  unfold NodupA putA at *
  split
  · rw [List.map_map]
    have : ((fun x : κ × β => x.1) ∘ fun kv => if kv.1 = k then (kv.1, b) else kv) = fun x : κ × β => x.1 := by
      funext x
      simp only [Function.comp]
      split <;> rfl
    rw [this]
    exact h
  · rename_i hn
    rw [List.map_append, List.nodup_append]
    refine ⟨h, by simp, ?_⟩
    intro a ha c hc
    have hc' : c = k := by simpa using hc
    subst hc'
    rintro rfl
    obtain ⟨p, hp, rfl⟩ := List.mem_map.mp ha
    exact hn (List.any_eq_true.mpr ⟨p, hp, by simp⟩)
theorem nodup_drop {al : List (κ × β)} {k : κ} (h : NodupA al) : NodupA (dropA al k) := by
  unfold NodupA dropA at *
  exact h.sublist (List.filter_sublist.map _)
theorem mem_lookA {al : List (κ × β)} (h : NodupA al) {k : κ} {b : β} : (k, b) ∈ al ↔ lookA al k = some b := by
  induction al with
  | nil => simp [lookA]
  | cons p al ih =>
    have h2 : NodupA al := (List.nodup_cons.mp h).2
    have h1 : p.1 ∉ al.map (·.1) := (List.nodup_cons.mp h).1
    rw [lookA_cons, List.mem_cons, ih h2]
    by_cases hp : p.1 = k
    · rw [if_pos hp]
      constructor
      · rintro (e | e)
        · rw [← e]
        · rw [← ih h2] at e
          exact absurd (List.mem_map.mpr ⟨_, e, hp.symm⟩) h1
      · intro e
        left
        have := Option.some.inj e
        rw [← hp, ← this]
    · rw [if_neg hp]
      constructor
      · rintro (e | e)
        · rw [← e] at hp
          exact absurd rfl hp
        · exact e
      · exact Or.inr
/-- the dict's pairs stand for al -/
def DkR (F : V → β → Prop) (kf : κ → L2.Key) (kvs : List (L2.Key × V)) (al : List (κ × β)) : Prop := Paired (fun kv a => kv.1 = kf a.1 ∧ F kv.2 a.2) kvs al
variable {F : V → β → Prop} {kf : κ → L2.Key} {kvs : List (L2.Key × V)} {al : List (κ × β)} (hk : ∀ a b, kf a = kf b → a = b)
include hk
theorem dk_any (h : DkR F kf kvs al) (k : κ) : (kvs.any fun kv => decide (kv.1 = kf k)) = al.any fun kv => decide (kv.1 = k) := by
  unfold DkR at h
  induction h with
  | nil => rfl
  | @cons p q kvs al hp t ih =>
    rw [List.any_cons, List.any_cons, ih]
    congr 1
    rw [hp.1]
    by_cases e : q.1 = k
    · simp [e]
    · have : ¬ kf q.1 = kf k := fun z => e (hk _ _ z)
      simp [e, this]
theorem dk_val (h : DkR F kf kvs al) (k : κ) : (valV kvs (kf k) = none ∧ lookA al k = none) ∨ ∃ v b, valV kvs (kf k) = some v ∧ lookA al k = some b ∧ F v b := by
  unfold DkR at h
  induction h with
  | nil => exact .inl ⟨rfl, rfl⟩
  | @cons p q kvs al hp t ih =>
    by_cases e : q.1 = k
    · exact .inr ⟨p.2, q.2, valV_pos (by rw [hp.1, e]), by rw [lookA_cons, if_pos e], hp.2⟩
    · have : ¬ p.1 = kf k := fun z => e (hk _ _ (by rw [← z, hp.1]))
      rw [valV_neg this, lookA_cons, if_neg e]
      exact ih
theorem dk_put (h : DkR F kf kvs al) (k : κ) {v : V} {b : β} (hv : F v b) : DkR F kf (putK kvs (kf k) v) (putA al k b) := by
  unfold putK putA
  rw [dk_any hk h k]
  unfold DkR at h ⊢
  split
  · rename_i h0
    clear h0
    induction h with
    | nil => exact .nil
    | @cons p q kvs al hp t ih =>
      rw [List.map_cons, List.map_cons]
      refine .cons ?_ ih
      by_cases e : q.1 = k
      · rw [if_pos e, if_pos (by rw [hp.1, e])]
        exact ⟨hp.1, hv⟩
      · have : ¬ p.1 = kf k := fun z => e (hk _ _ (by rw [← z, hp.1]))
        rw [if_neg e, if_neg this]
        exact hp
  · exact pd_app h (pd_one ⟨rfl, hv⟩)
theorem dk_drop (h : DkR F kf kvs al) (k : κ) : DkR F kf (dropK kvs (kf k)) (dropA al k) := by
  unfold DkR dropK dropA at *
  induction h with
  | nil => exact .nil
  | @cons p q kvs al hp t ih =>
    by_cases e : q.1 = k
    · rw [List.filter_cons_of_neg (by simp [hp.1, e]), List.filter_cons_of_neg (by simp [e])]
      exact ih
    · have : ¬ p.1 = kf k := fun z => e (hk _ _ (by rw [← z, hp.1]))
      rw [List.filter_cons_of_pos (by simp [this]), List.filter_cons_of_pos (by simp [e])]
      exact .cons hp ih
end
theorem inl_inj : ∀ a b : Int, (Sum.inl a : L2.Key) = Sum.inl b → a = b := fun _ _ h => Sum.inl.inj h
theorem inr_inj : ∀ a b : Str, (Sum.inr a : L2.Key) = Sum.inr b → a = b := fun _ _ h => Sum.inr.inj h
section
variable {K : PySem.W.Frag} {σ : L2.St} {H H' : Hp} {te ta tb tc td : TE} {α β γ δ ε : Type} [Rp α] [Rp β] [Rp γ] [Rp δ] [Rp ε] {a : α} {b : β} {c : γ} {d : δ}
/-! calls that give a new list -/
def Pl1 (K : PySem.W.Frag) (pre : α → Prop) (f : α → List γ) : Sp := fun vs H Q _ => ∃ (x : V) (a : α), vs = [x] ∧ r K H x a ∧ pre a ∧ ∀ p xs H', Ex H H' → H p = none → H' p = some (.lst xs) → Paired (r K H') xs (f a) → Q (.ref p) H'
def Pl2 (K : PySem.W.Frag) (pre : α → β → Prop) (f : α → β → List γ) : Sp := fun vs H Q _ => ∃ (x y : V) (a : α) (b : β), vs = [x, y] ∧ r K H x a ∧ r K H y b ∧ pre a b ∧ ∀ p xs H', Ex H H' → H p = none → H' p = some (.lst xs) → Paired (r K H') xs (f a b) → Q (.ref p) H'
theorem lenl1 {pre : α → Prop} {f : α → List γ} {vs H Q E} (h : Pl1 K pre f vs H Q E) : vs.length = 1 := by obtain ⟨_, _, rfl, _⟩ := h; rfl
theorem lenl2 {pre : α → β → Prop} {f : α → β → List γ} {vs H Q E} (h : Pl2 K pre f vs H Q E) : vs.length = 2 := by obtain ⟨_, _, _, _, rfl, _⟩ := h; rfl
theorem el_f1 {pre : α → Prop} {f : α → List γ} {E : L2.St → XK} (ha : Er K ta σ H a) (hp : pre a) : El K (tF (Pl1 K pre f) E (tCons ta tNil)) σ H (f a) := fun H1 e1 Q q => ha H1 e1 _ fun v H2 e2 hv =>
  ⟨v, a, rfl, hv, hp, fun p xs H3 e3 hn h1 h2 => q p xs H3 (e2.trans e3) (fresh_back e2 hn) h1 h2⟩
theorem el_f2 {pre : α → β → Prop} {f : α → β → List γ} {E : L2.St → XK} (ha : Er K ta σ H a) (hb : Er K tb σ H b) (hp : pre a b) : El K (tF (Pl2 K pre f) E (tCons ta (tCons tb tNil))) σ H (f a b) := fun H1 e1 Q q => ha H1 e1 _ fun v H2 e2 hv => hb H2 (e1.trans e2) _ fun u H3 e3 hu =>
  ⟨v, u, a, b, rfl, Rp.mono e3 hv, hu, hp, fun p xs H4 e4 hn h1 h2 => q p xs H4 ((e2.trans e3).trans e4) (fresh_back e2 (fresh_back e3 hn)) h1 h2⟩
/-! for over enumerate -/
theorem r_forET [RpT α] {as : List α} {t : TS} {D : Ends} {i j : Nat} (h : Er K te σ H as) (k : ∀ H1, Ex H H1 → ∃ Pv : Nat → L2.St → Hp → Prop, Pv 0 σ H1 ∧ (∀ n σ' H', Pv n σ' H' → ExT H1 H') ∧
    (∀ n a u σ' H' H'', as[n]? = some a → Pv n σ' H' → Ex H' H'' → r K H'' u a → t { D with nx := Pv (n + 1), ct := Pv (n + 1), bk := D.nx } ((σ'.set i (some (.int (n : Nat)))).set j (some u)) H'') ∧ ∀ σ' H', Pv as.length σ' H' → D.nx σ' H') :
    tFor (Jg.iEnumT K (tCons te tNil)) (gTup K 2 (gCons (gName i) (gCons (gName j) gNil))) t D σ H := h H (Ex.refl H) _ fun v H1 e1 hv => by
  obtain ⟨p, xs, rfl, h1, h2⟩ := hv
  obtain ⟨Pv, p0, pe, ps, pd⟩ := k H1 e1
  refine ⟨p, xs, rfl, h1, for_it Jg.walk_enumT Pv p0 (fun n σ' H' _ pv => (pe n σ' H' pv) K p xs h1) (fun n x σ' H' H'' hn pv y => ?_) fun σ' H' pv => pd σ' H' (by rw [← pd_len h2]; exact pv)⟩
  obtain ⟨t1, x1, x2, rfl, ht, rfl, y1, y2⟩ := y
  obtain ⟨a, ha, hr⟩ := pd_get h2 y2
  have e0 := Option.some.inj y1
  subst e0
  exact ⟨t1, _, rfl, st_of upd_same, rfl, _, _, rfl, x2, _, rfl, rfl, ps n a x2 σ' H' _ ha pv (Ex.new ht) (Rp.mono (Ex.new ht) (RpT.t (pe n σ' H' pv) hr))⟩
theorem r_forEL [RpT α] {as : List α} {t : TS} {D : Ends} {i j : Nat} (h : Er K te σ H (Ls.mk as)) (k : ∀ p xs H1, Ex H H1 → SqL K H1 p xs → ∃ Pv : Nat → L2.St → Hp → Prop, Pv 0 σ H1 ∧ (∀ n σ' H', Pv n σ' H' → ExT H1 H' ∧ SqL K H' p xs) ∧
    (∀ n a u σ' H' H'', as[n]? = some a → Pv n σ' H' → Ex H' H'' → r K H'' u a → t { D with nx := Pv (n + 1), ct := Pv (n + 1), bk := D.nx } ((σ'.set i (some (.int (n : Nat)))).set j (some u)) H'') ∧ ∀ σ' H', Pv as.length σ' H' → D.nx σ' H') :
    tFor (iEnum K (tCons te tNil)) (gTup K 2 (gCons (gName i) (gCons (gName j) gNil))) t D σ H := h H (Ex.refl H) _ fun v H1 e1 hv => by
  obtain ⟨p, xs, rfl, h1, h2⟩ := hv
  obtain ⟨Pv, p0, pe, ps, pd⟩ := k p xs H1 e1 h1
  refine ⟨p, xs, rfl, h1, for_it walk_enum Pv p0 (fun n σ' H' _ pv => (pe n σ' H' pv).2) (fun n x σ' H' H'' hn pv y => ?_) fun σ' H' pv => pd σ' H' (by rw [← pd_len h2]; exact pv)⟩
  obtain ⟨t1, x1, x2, rfl, ht, rfl, y1, y2⟩ := y
  obtain ⟨a, ha, hr⟩ := pd_get h2 y2
  have e0 := Option.some.inj y1
  subst e0
  exact ⟨t1, _, rfl, st_of upd_same, rfl, _, _, rfl, x2, _, rfl, rfl, ps n a x2 σ' H' _ ha pv (Ex.new ht) (Rp.mono (Ex.new ht) (RpT.t (pe n σ' H' pv).1 hr))⟩
/-- for over range(a, b) -/
theorem r_forR [Inhabited Nat] {lo n : Int} {t : TS} {D : Ends} {i : Nat} (h : Er K ta σ H lo) (h' : Er K tb σ H n) (hb : -100000 ≤ lo ∧ lo ≤ 100000 ∧ -100000 ≤ n ∧ n ≤ 100000) (Pv : Nat → L2.St → Hp → Prop) (h0 : ∀ H1, Ex H H1 → Pv 0 σ H1)
    (hs : ∀ (j : Nat) σ' H', (j : Int) < n - lo → Pv j σ' H' → t { D with nx := Pv (j + 1), ct := Pv (j + 1), bk := D.nx } (σ'.set i (some (.int (lo + (j : Nat))))) H') (hd : ∀ σ' H', Pv (n - lo).toNat σ' H' → D.nx σ' H') : tFor (iRng2 (tCons ta (tCons tb tNil))) (gName i) t D σ H :=
  h.evI H (Ex.refl H) _ fun H1 e1 => h'.evI H1 e1 _ fun H2 e2 => ⟨lo, n, rfl, ⟨by omega, by omega, by omega, by omega⟩, for_range (lo := lo) (n := (n - lo).toNat) Pv (h0 H2 (e1.trans e2)) (fun j σ' H' hj p => hs j σ' H' (by omega) p) hd⟩
/-! pairs of an int and an int or None, as data -/
def pdP (x : Int × Option Int) : PyData := .tuple [.int x.1, match x.2 with | none => .none | some v => .int v]
theorem dp_P {H : Hp} {v : V} {x : Int × Option Int} (h : r K H v x) : Dp K H v (pdP x) := by
  obtain ⟨k, o⟩ := x
  obtain ⟨p, y, z, rfl, hs, hy, hz⟩ := h
  obtain rfl : y = .int k := hy
  refine .tup hs (.cons (.int k) (.cons ?_ .nil))
  cases o with
  | none =>
    obtain rfl : z = .non := hz
    exact .non
  | some v =>
    obtain rfl : z = .int v := hz
    exact .int v
theorem dp_all {H : Hp} {xs : List V} {l : List (Int × Option Int)} (h : Paired (r K H) xs l) : DpAll K H xs (l.map pdP) := by
  induction h with
  | nil => exact .nil
  | cons h _ ih => exact .cons (dp_P h) ih
theorem eqv_P (x y : Int × Option Int) : PyData.eqv (pdP x) (pdP y) = decide (x = y) := by
  obtain ⟨k, o⟩ := x
  obtain ⟨k', o'⟩ := y
  show ((k == k') && (PyData.eqv _ _ && true)) = _
  cases o <;> cases o' <;> simp [PyData.eqv, Prod.ext_iff, Bool.beq_eq_decide_eq]
theorem shaped_P (x : Int × Option Int) : SeqAt.shaped (pdP x) = true := by
  obtain ⟨k, o⟩ := x
  cases o <;> rfl
end
end Js
/-! ### sorted, told by data -/
namespace Jg
open PySem PySem.Spec PyProof.Rows L2 SrtO
def rSort2 (K : PySem.W.Frag) : List V → Hp → VK → Prop := fun vs H Q => ∃ (a : Addr) (xs : List V) (k : V → Int × Int), vs = [V.ref a] ∧ SqL K H a xs ∧ (∀ x ∈ xs, ∃ t, x = V.ref t ∧ SqT K H t [.int (k x).1, .int (k x).2]) ∧ ∀ ys p, Srtd (ltP k) ys → Stb (ltP k) ys xs → H p = none → Q (.ref p) (upd H p (.lst ys))
theorem cr_sort2 {X : Cx} : CallR X (.builtin "sorted") (rSort2 X.K) := by
  intro pins s σ H vs us Q I r h
  obtain ⟨a, xs, k, rfl, hs, hx, q⟩ := h
  obtain ⟨its, rv, hl, hz⟩ := I.list hs
  obtain ⟨u, rfl, ru⟩ := vals1 r
  obtain rfl : u = Value.ref a := ru
  obtain ⟨e1, e2⟩ := refs_back rv fun x m => let ⟨t, e, _⟩ := hx x m; ⟨t, e⟩
  have mem : ∀ v ∈ its, backV v ∈ xs := fun v hv => by rw [e1]; exact List.mem_map.mpr ⟨_, hv, rfl⟩
  refine sorted_pairsO (k := fun u => k (backV u)) hl.isList (by rw [← rv.length]; exact hz) (fun v hv => ?_) fun h' d out h1 h2 kp hd hn => ?_
  · obtain ⟨t', e, ht⟩ := hx _ (mem v hv)
    obtain ⟨t, rfl⟩ := e2 v hv
    cases e
    obtain ⟨its2, r2, ⟨o, ho, hc, n, hd⟩, _⟩ := I.tuple ht
    obtain ⟨u1, u2, rfl, ri, rj⟩ := vals2 r2
    obtain ⟨t1, rfl⟩ := ri
    obtain ⟨t2, rfl⟩ := rj
    exact ⟨t', o, t1, t2, n, rfl, ho, hc, hd⟩
  · have h3 : ∀ u ∈ out, ∃ a, u = Value.ref a := fun u hu => e2 u (h2.perm.mem_iff.mp hu)
    obtain ⟨n, hn⟩ := hn
    have hb : Stb (ltP k) (out.map backV) xs := e1 ▸ Stb.map (ltP_swo k) backV h2
    refine ⟨.ref d, upd H d (.lst (out.map backV)), I.laid (t' := s.toks) kp hd ⟨?_, out, n, vals_back h3, hn⟩, rfl, q _ d (srtd_map h1) hb (I.hok.fresh hd)⟩
    rw [hb.len]
    exact hz
end Jg
namespace Js
open PySem PySem.Spec PyProof.Rows L2 Evl
open Rp (r)
def kT (x : T3 Int Int (Option Int)) : Int × Int := (x.a, x.b)
/-- sorted(xs): the items are triples (int, int, int or None) -/
def rSortT (K : PySem.W.Frag) : List V → Hp → VK → Prop := fun vs H Q => ∃ (a : Addr) (xs : List V) (as : List (T3 Int Int (Option Int))), vs = [V.ref a] ∧ SqL K H a xs ∧ Paired (r K H) xs as ∧ (∀ x ∈ as, ∀ y ∈ as, kT x = kT y → x = y) ∧
  ∀ ys bs p, Paired (r K H) ys bs → bs.Perm as → bs.Pairwise (fun x y => SrtO.lexB (kT y) (kT x) = false) → H p = none → Q (.ref p) (upd H p (.lst ys))
/-- the items are pairs of two ints -/
def rSortP (K : PySem.W.Frag) : List V → Hp → VK → Prop := fun vs H Q => ∃ (a : Addr) (xs : List V) (as : List (Int × Int)), vs = [V.ref a] ∧ SqL K H a xs ∧ Paired (r K H) xs as ∧
  ∀ ys bs p, Paired (r K H) ys bs → bs.Perm as → bs.Pairwise (fun x y => SrtO.lexB y x = false) → H p = none → Q (.ref p) (upd H p (.lst ys))
theorem opt_inj {K : PySem.W.Frag} {H : Hp} {v : V} {o o' : Option Int} (h : r K H v o) (h' : r K H v o') : o = o' := by
  cases o with
  | none =>
    obtain rfl : v = .non := h
    cases o' with
    | none => rfl
    | some j => cases (show V.non = V.int j from h')
  | some i =>
    obtain rfl : v = .int i := h
    cases o' with
    | none => cases (show V.int i = V.non from h')
    | some j =>
      have : V.int i = V.int j := h'
      cases this
      rfl
theorem pd_of_fn {α β : Type} {F : α → β → Prop} {g : α → β} {l : List α} (h : ∀ x ∈ l, F x (g x)) : Paired F l (l.map g) := by
  induction l with
  | nil => exact .nil
  | cons x l ih => exact .cons (h x (List.mem_cons_self ..)) (ih fun y hy => h y (List.mem_cons_of_mem _ hy))
theorem pd_fn {α β : Type} {F : α → β → Prop} {g : α → β} {l : List α} {m : List β} (h : Paired F l m) (hf : ∀ x b, F x b → g x = b) : l.map g = m := by
  induction h with
  | nil => rfl
  | cons h _ ih => rw [List.map_cons, hf _ _ h, ih]
theorem pd_mem {α β : Type} {F : α → β → Prop} {l : List α} {m : List β} (h : Paired F l m) {x : α} (hx : x ∈ l) : ∃ b ∈ m, F x b := by
  obtain ⟨i, hi, rfl⟩ := List.getElem_of_mem hx
  obtain ⟨b, hb, hr⟩ := pd_get h (List.getElem?_eq_getElem hi)
  exact ⟨b, List.mem_of_getElem? hb, hr⟩
section
variable {X : Cx}
theorem cr_sortT {K : PySem.W.Frag} (hK : X.K = K) : CallR X (.builtin "sorted") (rSortT K) := by
  subst hK
  intro pins s σ H vs us Q I rv h
  obtain ⟨a, xs, as, rfl, hs, hp, inj, q⟩ := h
  have uniq : ∀ v (x y : T3 Int Int (Option Int)), r X.K H v x → r X.K H v y → x = y := by
    rintro v x y ⟨p, v1, v2, v3, rfl, h1, h2, h3, h4⟩ ⟨p', w1, w2, w3, e, g1, g2, g3, g4⟩
    cases e
    have := I.tuple_inj h1 g1
    simp only [List.cons.injEq, and_true] at this
    obtain ⟨rfl, rfl, rfl⟩ := this
    obtain ⟨xa, xb, xc⟩ := x
    obtain ⟨ya, yb, yc⟩ := y
    have ea : V.int xa = V.int ya := h2.symm.trans g2
    have eb : V.int xb = V.int yb := h3.symm.trans g3
    cases ea
    cases eb
    exact congrArg (T3.mk xa xb) (opt_inj h4 g4)
  classical
  let g : V → T3 Int Int (Option Int) := fun v => if h : ∃ x, r X.K H v x then h.choose else ⟨0, 0, none⟩
  have hg : ∀ v x, r X.K H v x → g v = x := fun v x hx => by
    have ex : ∃ x, r X.K H v x := ⟨x, hx⟩
    show (if h : ∃ x, r X.K H v x then h.choose else ⟨0, 0, none⟩) = x
    rw [dif_pos ex]
    exact uniq v _ _ ex.choose_spec hx
  have em : xs.map g = as := pd_fn hp hg
  refine Jg.cr_sort3 pins s σ H [.ref a] us Q I rv ⟨a, xs, fun v => kT (g v), fun v => (g v).c, rfl, hs, fun x hx => ?_, fun x hx y hy e => ?_, fun ys p h1 h2 hn => ?_⟩
  · obtain ⟨b, _, hb⟩ := pd_mem hp hx
    dsimp only
    rw [hg x b hb]
    obtain ⟨p, v1, v2, v3, rfl, h1, h2, h3, h4⟩ := hb
    refine ⟨p, rfl, ?_⟩
    obtain rfl : v1 = .int b.a := h2
    obtain rfl : v2 = .int b.b := h3
    obtain ⟨ba, bb, bc⟩ := b
    cases bc with
    | none =>
      obtain rfl : v3 = .non := h4
      exact h1
    | some j =>
      obtain rfl : v3 = .int j := h4
      exact h1
  · have mx : g x ∈ as := em ▸ List.mem_map.mpr ⟨x, hx, rfl⟩
    have my : g y ∈ as := em ▸ List.mem_map.mpr ⟨y, hy, rfl⟩
    exact congrArg T3.c (inj _ mx _ my e)
  · refine q ys (ys.map g) p (pd_of_fn fun x hx => ?_) (em ▸ h2.perm.map g) (List.pairwise_map.mpr h1) hn
    obtain ⟨b, _, hb⟩ := pd_mem hp (h2.perm.mem_iff.mp hx)
    rw [hg x b hb]
    exact hb
theorem cr_sortP {K : PySem.W.Frag} (hK : X.K = K) : CallR X (.builtin "sorted") (rSortP K) := by
  subst hK
  intro pins s σ H vs us Q I rv h
  obtain ⟨a, xs, as, rfl, hs, hp, q⟩ := h
  have uniq : ∀ v (x y : Int × Int), r X.K H v x → r X.K H v y → x = y := by
    rintro v x y ⟨p, v1, v2, rfl, h1, h2, h3⟩ ⟨p', w1, w2, e, g1, g2, g3⟩
    cases e
    have := I.tuple_inj h1 g1
    simp only [List.cons.injEq, and_true] at this
    obtain ⟨rfl, rfl⟩ := this
    obtain ⟨xa, xb⟩ := x
    obtain ⟨ya, yb⟩ := y
    have ea : V.int xa = V.int ya := h2.symm.trans g2
    have eb : V.int xb = V.int yb := h3.symm.trans g3
    cases ea
    cases eb
    rfl
  classical
  let g : V → Int × Int := fun v => if h : ∃ x, r X.K H v x then h.choose else (0, 0)
  have hg : ∀ v x, r X.K H v x → g v = x := fun v x hx => by
    have ex : ∃ x, r X.K H v x := ⟨x, hx⟩
    show (if h : ∃ x, r X.K H v x then h.choose else (0, 0)) = x
    rw [dif_pos ex]
    exact uniq v _ _ ex.choose_spec hx
  have em : xs.map g = as := pd_fn hp hg
  refine Jg.cr_sort2 pins s σ H [.ref a] us Q I rv ⟨a, xs, g, rfl, hs, fun x hx => ?_, fun ys p h1 h2 hn => ?_⟩
  · obtain ⟨b, _, hb⟩ := pd_mem hp hx
    rw [hg x b hb]
    obtain ⟨p, v1, v2, rfl, h1, h2, h3⟩ := hb
    obtain rfl : v1 = .int b.1 := h2
    obtain rfl : v2 = .int b.2 := h3
    exact ⟨p, rfl, h1⟩
  · refine q ys (ys.map g) p (pd_of_fn fun x hx => ?_) (em ▸ h2.perm.map g) (List.pairwise_map.mpr h1) hn
    obtain ⟨b, _, hb⟩ := pd_mem hp (h2.perm.mem_iff.mp hx)
    rw [hg x b hb]
    exact hb
end
end Js
/-! ### checks -/
namespace Js
open PySem PySem.Spec PyProof.Rows L2 Evl
open Rp (r)
/-- lo .. m, rising -/
def ascB (lo m : Int) : List Int → Bool
  | [] => true
  | a :: l => (decide (lo ≤ a) && decide (a ≤ m)) && ascB (a + 1) m l
def toldB (x : Int × Option Int) : Bool := decide (0 ≤ x.1) && decide (x.1 ≤ 999)
def batchB (b : List (Int × Option Int)) : Bool := decide (b.length ≤ 60) && b.all toldB && ascB 0 999 (b.map (·.1))
section
variable {P : Program} {w : World} {K : PySem.W.Frag} {mg : PySem.Str → Option Value} {base : Heap}
theorem len1 {α γ : Type} [Rp α] [Rp γ] {pre : α → Prop} {f : α → γ} {vs H Q E} (h : Pu1 K pre f vs H Q E) : vs.length = 1 := by obtain ⟨_, _, rfl, _⟩ := h; rfl
theorem len2 {α β γ : Type} [Rp α] [Rp β] [Rp γ] {pre : α → β → Prop} {f : α → β → γ} {vs H Q E} (h : Pu2 K pre f vs H Q E) : vs.length = 2 := by obtain ⟨_, _, _, _, rfl, _⟩ := h; rfl
theorem len3 {α β δ γ : Type} [Rp α] [Rp β] [Rp δ] [Rp γ] {pre : α → β → δ → Prop} {f : α → β → δ → γ} {vs H Q E} (h : Pu3 K pre f vs H Q E) : vs.length = 3 := by obtain ⟨_, _, _, _, _, _, rfl, _⟩ := h; rfl
theorem len4 {α β δ ε γ : Type} [Rp α] [Rp β] [Rp δ] [Rp ε] [Rp γ] {pre : α → β → δ → ε → Prop} {f : α → β → δ → ε → γ} {vs H Q E} (h : Pu4 K pre f vs H Q E) : vs.length = 4 := by obtain ⟨_, _, _, _, _, _, _, _, rfl, _⟩ := h; rfl
theorem ok_is_integer (T : Tx w K mg) : FnAt P w K mg base 1 (He.fAd K ("is_integer", none)) (Pu1 K (fun (_ : Int) => True) fun _ => true) := by
  have S : FnScope ["thing"] ["thing"] (defScope s_is_integer) := ⟨rfl, rfl, rfl, by decide +kernel, rfl, by decide +kernel, by decide +kernel⟩
  refine mk0 0 T.f_is_integer S (fun _ _ _ _ _ _ us hl => match us, hl with | [_], _ => rfl) (fun vs H Q E h => len1 h) fun cdv A outer s H vs Q E hr h => ?_
  obtain ⟨x, i, rfl, h_thing, -, q⟩ := h
  refine ⟨_, pss_one (ps_ret (pe_and (pe_callB (isiK (K := K) rfl) rfl T.z_isinstance (by decide +kernel) (pa_cons (pv 0) (pa_cons (pe_bltn (v := .ty "int") (u := .type "int") rfl T.z_int (by decide +kernel) rfl) pa_nil))) (pe_one (pe_not (pe_callB (isiK (K := K) rfl) rfl T.z_isinstance (by decide +kernel) (pa_cons (pv 0) (pa_cons (pe_bltn (v := .ty "bool") (u := .type "bool") rfl T.z_bool (by decide +kernel) rfl) pa_nil))))))), ?_⟩
  exact r_ret (K := K) (er_andV (er_isI (er_var rfl h_thing)) fun _ => er_notV (er_isB (er_var rfl h_thing))) q
theorem ok_is_within (T : Tx w K mg) : FnAt P w K mg base 2 (He.fAd K ("is_within", none)) (Pu3 K (fun (_ _ _ : Int) => True) fun t l m => decide (l ≤ t) && decide (t ≤ m)) := by
  have S : FnScope ["thing", "least", "most"] ["thing", "least", "most"] (defScope s_is_within) := ⟨rfl, rfl, rfl, by decide +kernel, rfl, by decide +kernel, by decide +kernel⟩
  have G_is_integer := ok_is_integer (P := P) (base := base) T
  refine mk0 1 T.f_is_within S (fun _ _ _ _ _ _ us hl => match us, hl with | [_, _, _], _ => rfl) (fun vs H Q E h => len3 h) fun cdv A outer s H vs Q E hr h => ?_
  obtain ⟨x, y, z, t, l, m, rfl, h_thing, h_least, h_most, -, q⟩ := h
  refine ⟨_, pss_one (ps_ret (pe_and (pe_f G_is_integer T.g_is_integer hr (by decide) passN (pa_cons (pv 0) pa_nil)) (pe_one (pe_chain op_le op_le (pv 1) (pv 0) (pv 2))))), ?_⟩
  exact r_ret (K := K) (er_andV (er_f1 (er_var rfl h_thing) trivial) fun _ => er_chain (K := K) (er_var rfl h_least) (er_var rfl h_thing) (er_var rfl h_most) (fun _ => rv_I0) (fun _ => rv_I0)) q
theorem ok_is_pair (T : Tx w K mg) : FnAt P w K mg base 1 (He.fAd K ("is_pair", none)) (Pu1 K (fun (_ : Int × Option Int) => True) fun _ => true) := by
  have S : FnScope ["thing"] ["thing"] (defScope s_is_pair) := ⟨rfl, rfl, rfl, by decide +kernel, rfl, by decide +kernel, by decide +kernel⟩
  refine mk0 0 T.f_is_pair S (fun _ _ _ _ _ _ us hl => match us, hl with | [_], _ => rfl) (fun vs H Q E h => len1 h) fun cdv A outer s H vs Q E hr h => ?_
  obtain ⟨x, i, rfl, h_thing, -, q⟩ := h
  refine ⟨_, pss_one (ps_ret (pe_and (pe_callB (isiK (K := K) rfl) rfl T.z_isinstance (by decide +kernel) (pa_cons (pv 0) (pa_cons (pe_bltn (v := .ty "tuple") (u := .type "tuple") rfl T.z_tuple (by decide +kernel) rfl) pa_nil))) (pe_one (pe_cmpR op_eq (pe_callB (lenK (K := K) rfl) rfl T.z_len (by decide +kernel) (pa_cons (pv 0) pa_nil)) pe_int (nomark _))))), ?_⟩
  exact r_ret (K := K) (er_andV (er_isP (er_var rfl h_thing)) fun _ => er_eqI (er_lenP (er_var rfl h_thing)) (er_i _)) q
theorem ok_is_ascending (T : Tx w K mg) : FnAt P w K mg base 3 (He.fAd K ("is_ascending", none)) (Pu3 K (fun (_ : List Int) (_ _ : Int) => True) fun as l m => ascB l m as) := by
  have S : FnScope ["thing", "least", "most", "last", "number"] ["thing", "least", "most"] (defScope s_is_ascending) := ⟨rfl, rfl, rfl, by decide +kernel, rfl, by decide +kernel, by decide +kernel⟩
  have G_is_within := ok_is_within (P := P) (base := base) T
  refine mk0 2 T.f_is_ascending S (fun _ _ _ _ _ _ us hl => match us, hl with | [_, _, _], _ => rfl) (fun vs H Q E h => len3 h) fun cdv A outer s H vs Q E hr h => ?_
  obtain ⟨x, y, z, as, l, m, rfl, h_thing, h_least, h_most, -, q⟩ := h
  refine ⟨_, pss_cons (ps_if (pt_not (pt_val (pe_callB (isiK (K := K) rfl) rfl T.z_isinstance (by decide +kernel) (pa_cons (pv 0) (pa_cons (pe_bltn (v := .ty "tuple") (u := .type "tuple") rfl T.z_tuple (by decide +kernel) rfl) pa_nil)))))
        (pss_one (ps_ret pe_bl))
        (pss_nil))
      (pss_cons (ps_set (i := 3) S.nd rfl (Or.inl rfl) (pe_op op_sub (pv 1) pe_int))
      (pss_cons (ps_for PassesOwn.never rfl (pi_tup (pv 0)) (pg_name (i := 4) S.nd rfl (Or.inl rfl))
        (pss_cons (ps_if (pt_not (pt_val (pe_f G_is_within T.g_is_within hr (by decide) passN (pa_cons (pv 4) (pa_cons (pe_op op_add (pv 3) pe_int) (pa_cons (pv 2) pa_nil))))))
          (pss_one (ps_ret pe_bl))
          (pss_nil))
        (pss_one (ps_set (i := 3) S.nd rfl (Or.inl rfl) (pv 4)))))
      (pss_one (ps_ret pe_bl)))), ?_⟩
  obtain rfl : y = .int l := h_least
  obtain rfl : z = .int m := h_most
  refine r_if (et_not (et_v (K := K) (er_isT (er_var rfl h_thing)))) (fun z => by cases z) fun _ H1 e1 => ?_
  refine r_set (K := K) (er_II (er_var (a := l) rfl rfl) (er_i 1)) fun v H2 e2 h_last => ?_
  obtain rfl : v = .int (l - 1) := h_last
  refine r_forT (K := K) (er_var rfl (Rp.mono (e1.trans e2) h_thing)) fun H3 e3 => ⟨fun i σ' H' => Ex H3 H' ∧ ∃ (la : Int) (nu : Option V), σ' = [some x, some (.int l), some (.int m), some (.int la), nu] ∧ ascB l m as = ascB (la + 1) m (as.drop i), ?_, ?_, ?_, ?_⟩
  · exact ⟨Ex.refl _, l - 1, none, rfl, by rw [List.drop_zero]; congr 1; omega⟩
  · exact fun i σ' H' pv => Js.Ex.t pv.1
  · rintro i a v σ' H' ha hr ⟨eH, la, nu, rfl, hq⟩
    obtain rfl : v = .int a := hr
    have hd : as.drop i = a :: as.drop (i + 1) := by
      obtain ⟨hi, e⟩ := List.getElem?_eq_some_iff.mp ha
      rw [List.drop_eq_getElem_cons hi, e]
    rw [hd] at hq
    refine r_if (et_not (et_v (K := K) (er_f3 (er_var (a := a) rfl rfl) (er_II (er_var (a := la) rfl rfl) (er_i 1)) (er_var (a := m) rfl rfl) trivial))) (fun hc H5 e5 => ?_) fun hc H5 e5 => ?_
    · refine r_ret (K := K) (er_b false) fun v H6 e6 hv => q v H6 ((((e1.trans e2).trans e3).trans eH).trans (e5.trans e6)) ?_
      have hc' : (decide (la + 1 ≤ a) && decide (a ≤ m)) = false := by simpa only [Bool.not_eq_true'] using hc
      have : ascB l m as = false := by rw [hq]; unfold ascB; rw [hc', Bool.false_and]
      show r K H6 v (ascB l m as)
      rw [this]
      exact hv
    · have hc' : (decide (la + 1 ≤ a) && decide (a ≤ m)) = true := by simpa only [Bool.not_eq_false'] using hc
      refine r_set (K := K) (er_var (a := a) rfl rfl) fun v H6 e6 hv => ?_
      obtain rfl : v = .int a := hv
      refine ⟨(eH.trans e5).trans e6, a, _, rfl, ?_⟩
      rw [hq]
      show (_ && _) = _
      rw [hc', Bool.true_and]
  · rintro σ' H' ⟨eH, la, nu, rfl, hq⟩
    rw [List.drop_length] at hq
    refine q (.bl true) H' (((e1.trans e2).trans e3).trans eH) ?_
    show r K H' (.bl true) (ascB l m as)
    rw [hq]
    rfl
/-- it returns None, or raises an own exception of the class at C -/
def spNum (K : PySem.W.Frag) (pre : Int → Int → Int → Prop) (bad : Int → Int → Int → Prop) : Sp := fun vs H Q E => ∃ t l m : Int, vs = [.int t, .int l, .int m] ∧ ((pre t l m ∧ ∀ H', Ex H H' → Q .non H') ∨ (bad t l m ∧ ∀ H', Ex H H' → E (.ref (He.ga K "NoNumber")) none H'))
theorem ok_check_number (T : Tx w K mg) : FnAt P w K mg base 3 (He.fAd K ("check_number", none)) (spNum K (fun t l m => l ≤ t ∧ t ≤ m) (fun t l m => ¬ (l ≤ t ∧ t ≤ m))) := by
  have S : FnScope ["thing", "least", "most"] ["thing", "least", "most"] (defScope s_check_number) := ⟨rfl, rfl, rfl, by decide +kernel, rfl, by decide +kernel, by decide +kernel⟩
  have G_is_within := ok_is_within (P := P) (base := base) T
  refine mkX 2 T.f_check_number S (fun _ _ _ _ _ _ us hl => match us, hl with | [_, _, _], _ => rfl) (fun vs H Q E h => by obtain ⟨_, _, _, rfl, _⟩ := h; rfl) fun cdv A outer s H vs Q E hr h => ?_
  obtain ⟨t, l, m, rfl, q⟩ := h
  refine ⟨_, pss_one (ps_if (pt_not (pt_val (pe_f G_is_within T.g_is_within hr (by decide) passN (pa_cons (pv 0) (pa_cons (pv 1) (pa_cons (pv 2) pa_nil))))))
        (pss_one (ps_raise rfl (takes_of rfl rfl rfl rfl) (Jg.pmk_own0 PySem.F.excBase_ValueError T.x_NoNumber.1 T.g_NoNumber T.x_NoNumber.2.1 (raises_own T.x_NoNumber.2.2.1 T.x_NoNumber.2.2.2) rfl)))
        (pss_nil)), ?_⟩
  refine r_if (et_not (et_v (K := K) (er_f3 (er_var (a := t) rfl rfl) (er_var (a := l) rfl rfl) (er_var (a := m) rfl rfl) trivial))) (fun hc H1 e1 => ?_) fun hc H1 e1 => ?_
  · rcases q with ⟨h1, _⟩ | ⟨_, q⟩
    · simp [h1] at hc
    · exact q H1 e1
  · rcases q with ⟨_, q⟩ | ⟨h1, _⟩
    · exact q H1 e1
    · simp at hc
      exact absurd hc h1
theorem ok_check_many (T : Tx w K mg) : FnAt P w K mg base 1 (He.fAd K ("check_many", none)) (Pu2 K (fun (t m : Int) => t ≤ m) fun _ _ => ()) := by
  have S : FnScope ["number", "most"] ["number", "most"] (defScope s_check_many) := ⟨rfl, rfl, rfl, by decide +kernel, rfl, by decide +kernel, by decide +kernel⟩
  refine mk0 0 T.f_check_many S (fun _ _ _ _ _ _ us hl => match us, hl with | [_, _], _ => rfl) (fun vs H Q E h => len2 h) fun cdv A outer s H vs Q E hr h => ?_
  obtain ⟨x, y, t, m, rfl, h_number, h_most, hp, q⟩ := h
  refine ⟨_, pss_one (ps_if (pt_cmpR op_gt (pv 0) (pv 1) (nomark _))
        (pss_one (ps_never))
        (pss_nil)), ?_⟩
  refine r_if (et_t (K := K) (er_IB (er_var rfl h_number) (er_var rfl h_most))) (fun hc H1 e1 => ?_) fun hc H1 e1 => q .non H1 e1 rfl
  have := of_decide_eq_true hc
  omega
theorem ok_is_key (T : Tx w K mg) : FnAt P w K mg base 3 (He.fAd K ("is_key", none)) (Pu1 K (fun (_ : Int) => True) fun t => decide (0 ≤ t) && decide (t ≤ 999)) := by
  have S : FnScope ["thing"] ["thing"] (defScope s_is_key) := ⟨rfl, rfl, rfl, by decide +kernel, rfl, by decide +kernel, by decide +kernel⟩
  have G_is_within := ok_is_within (P := P) (base := base) T
  refine mk0 2 T.f_is_key S (fun _ _ _ _ _ _ us hl => match us, hl with | [_], _ => rfl) (fun vs H Q E h => len1 h) fun cdv A outer s H vs Q E hr h => ?_
  obtain ⟨x, t, rfl, h_thing, -, q⟩ := h
  refine ⟨_, pss_one (ps_ret (pe_f G_is_within T.g_is_within hr (by decide) passN (pa_cons (pv 0) (pa_cons pe_int (pa_cons (pe_gi T.i_MOST_KEY) pa_nil))))), ?_⟩
  exact r_ret (K := K) (er_f3 (er_var rfl h_thing) (er_i 0) (er_i 999) trivial) q
theorem ok_check_key (T : Tx w K mg) : FnAt P w K mg base 4 (He.fAd K ("check_key", none)) (Pu1 K (fun (t : Int) => 0 ≤ t ∧ t ≤ 999) fun _ => ()) := by
  have S : FnScope ["thing"] ["thing"] (defScope s_check_key) := ⟨rfl, rfl, rfl, by decide +kernel, rfl, by decide +kernel, by decide +kernel⟩
  have G_is_key := ok_is_key (P := P) (base := base) T
  refine mk0 3 T.f_check_key S (fun _ _ _ _ _ _ us hl => match us, hl with | [_], _ => rfl) (fun vs H Q E h => len1 h) fun cdv A outer s H vs Q E hr h => ?_
  obtain ⟨x, t, rfl, h_thing, hp, q⟩ := h
  refine ⟨_, pss_one (ps_if (pt_not (pt_val (pe_f G_is_key T.g_is_key hr (by decide) passN (pa_cons (pv 0) pa_nil))))
        (pss_one (ps_never))
        (pss_nil)), ?_⟩
  refine r_if (et_not (et_v (K := K) (er_f1 (er_var rfl h_thing) trivial))) (fun hc H1 e1 => ?_) fun hc H1 e1 => q .non H1 e1 rfl
  simp [hp] at hc
theorem ok_is_told (T : Tx w K mg) : FnAt P w K mg base 4 (He.fAd K ("is_told", none)) (Pu1 K (fun (_ : Int × Option Int) => True) toldB) := by
  have S : FnScope ["thing"] ["thing"] (defScope s_is_told) := ⟨rfl, rfl, rfl, by decide +kernel, rfl, by decide +kernel, by decide +kernel⟩
  have G_is_pair := ok_is_pair (P := P) (base := base) T
  have G_is_key := ok_is_key (P := P) (base := base) T
  have G_is_integer := ok_is_integer (P := P) (base := base) T
  refine mk0 3 T.f_is_told S (fun _ _ _ _ _ _ us hl => match us, hl with | [_], _ => rfl) (fun vs H Q E h => len1 h) fun cdv A outer s H vs Q E hr h => ?_
  obtain ⟨x, ⟨k, o⟩, rfl, h_thing, -, q⟩ := h
  refine ⟨_, pss_one (ps_ret (pe_and (pe_f G_is_pair T.g_is_pair hr (by decide) passN (pa_cons (pv 0) pa_nil)) (pe_and (pe_f G_is_key T.g_is_key hr (by decide) passN (pa_cons (pe_ix (ixT (K := K) rfl) (pv 0) pe_int (fun _ _ => rfl)) pa_nil)) (pe_one (pe_or (pe_cmpR op_isN (pe_ix (ixT (K := K) rfl) (pv 0) pe_int (fun _ _ => rfl)) pe_non (nomark _)) (pe_one (pe_f G_is_integer T.g_is_integer hr (by decide) passN (pa_cons (pe_ix (ixT (K := K) rfl) (pv 0) pe_int (fun _ _ => rfl)) pa_nil)))))))), ?_⟩
  refine r_ret (K := K) (Er.is (er_andV (er_f1 (er_var rfl h_thing) trivial) fun _ => er_andV (er_f1 (er_fst (er_var rfl h_thing)) trivial) fun _ => er_orV (y := true) (er_isN nI (er_snd (er_var rfl h_thing))) fun hn => ?_) ?_) q
  · cases o with
    | none => cases hn
    | some i => exact er_f1 (pre := fun (_ : Int) => True) (a := i) (er_snd (b := i) (er_var rfl h_thing)) trivial
  · unfold toldB
    simp
theorem ok_is_batch (T : Tx w K mg) : FnAt P w K mg base 5 (He.fAd K ("is_batch", none)) (Pu1 K (fun (b : List (Int × Option Int)) => b.length < 100000) batchB) := by
  have S : FnScope ["thing", "pair"] ["thing"] (defScope s_is_batch) := ⟨rfl, rfl, rfl, by decide +kernel, rfl, by decide +kernel, by decide +kernel⟩
  have G_is_told := ok_is_told (P := P) (base := base) T
  have G_is_ascending := ok_is_ascending (P := P) (base := base) T
  refine mk0 4 T.f_is_batch S (fun _ _ _ _ _ _ us hl => match us, hl with | [_], _ => rfl) (fun vs H Q E h => len1 h) fun cdv A outer s H vs Q E hr h => ?_
  obtain ⟨x, b, rfl, h_thing, hl, q⟩ := h
  refine ⟨_, pss_cons (ps_if (PW.pt (pw_or (pt_not (pt_val (pe_callB (isiK (K := K) rfl) rfl T.z_isinstance (by decide +kernel) (pa_cons (pv 0) (pa_cons (pe_bltn (v := .ty "tuple") (u := .type "tuple") rfl T.z_tuple (by decide +kernel) rfl) pa_nil))))) (pw_or (pt_cmpR op_gt (pe_callB (lenK (K := K) rfl) rfl T.z_len (by decide +kernel) (pa_cons (pv 0) pa_nil)) (pe_gi T.i_MOST_PAIRS) (nomark _)) (pw_or1 (pt_not (pt_val (pe_callB (allK (K := K) rfl rfl) rfl T.z_all (by decide +kernel) (pa_cons (pe_lc (own := [("pair", 1)]) (g := gName 1) (tt := tYes) rfl S.nd (pi_tup (pv 0)) (blkOk_by (N := ["thing", "pair"]) (sc := defScope s_is_batch) (own := [("pair", 1)]) (by decide +kernel)) (fun _ _ _ _ _ => pg_name (i := 1) S.nd rfl (Or.inl rfl)) (fun _ _ _ _ _ => pts_nil) (fun _ _ _ _ _ => pe_f G_is_told T.g_is_told hr (by decide) passN (pa_cons (pv 1) pa_nil))) pa_nil))))))))
        (pss_one (ps_ret pe_bl))
        (pss_nil))
      (pss_one (ps_ret (pe_f G_is_ascending T.g_is_ascending hr (by decide) passN (pa_cons (pe_callTy (tupK (K := K) rfl) rfl T.z_tuple (by decide +kernel) (pa_cons (pe_lc (own := [("pair", 1)]) (g := gName 1) (tt := tYes) rfl S.nd (pi_tup (pv 0)) (blkOk_by (N := ["thing", "pair"]) (sc := defScope s_is_batch) (own := [("pair", 1)]) (by decide +kernel)) (fun _ _ _ _ _ => pg_name (i := 1) S.nd rfl (Or.inl rfl)) (fun _ _ _ _ _ => pts_nil) (fun _ _ _ _ _ => pe_ix (ixT (K := K) rfl) (pv 1) pe_int (fun _ _ => rfl))) pa_nil)) (pa_cons pe_int (pa_cons (pe_gi T.i_MOST_KEY) pa_nil)))))), ?_⟩
  refine r_if (et_or (et_not (et_v (K := K) (er_isT (er_var rfl h_thing)))) fun _ => et_or (et_t (K := K) (er_IB (er_lenT (er_var rfl h_thing)) (er_i 60))) fun _ => et_not (et_v (K := K) (er_all (el_lcY (f := toldB) (wr_tup (er_var rfl h_thing)) hl fun a v H1 ha e1 hv Q q => gb_name (q _ H1 (Ex.refl _) rfl (er_f1 (er_var rfl hv) trivial)))))) (fun hc H1 e1 => ?_) fun hc H1 e1 => ?_
  · refine r_ret (K := K) (er_b false) fun v H2 e2 hv => q v H2 (e1.trans e2) ?_
    have : batchB b = false := by
      unfold batchB
      by_cases h6 : b.length ≤ 60
      · have h7 : b.all toldB = false := by
          have h8 : ¬ ((60 : Int) < (b.length : Int)) := by omega
          simp [h8] at hc
          rw [List.all_eq_false]
          obtain ⟨a, o, hm, ht⟩ := hc
          exact ⟨(a, o), hm, by simp [ht]⟩
        simp [h7]
      · simp [h6]
    rw [this]
    exact hv
  · refine r_ret (K := K) (Er.is (er_f3 (er_tupOf (El.er' (el_lcY (f := fun (x : Int × Option Int) => x.1) (wr_tup (er_var rfl (Rp.mono e1 h_thing))) hl fun a v H1 ha e1 hv Q q => gb_name (q _ H1 (Ex.refl _) rfl (er_fst (er_var rfl hv)))))) (er_i 0) (er_i 999) trivial) ?_) fun v H2 e2 hv => q v H2 (e1.trans e2) hv
    have h8 : ¬ ((60 : Int) < (b.length : Int)) := fun z => by simp [z] at hc
    have h9 : b.all toldB = true := by
      cases h : b.all toldB with
      | true => rfl
      | false =>
        simp [h8] at hc
        rw [List.all_eq_false] at h
        obtain ⟨⟨a, o⟩, hm, ht⟩ := h
        exact absurd (hc a o hm) ht
    unfold batchB
    have h10 : b.length ≤ 60 := by omega
    simp [h9, h10]
end
end Js
/-! ### texts -/
namespace Js
open PySem PySem.Spec PyProof.Rows L2 Evl SX
open Rp (r)
/-- key and value within the printed range -/
def okPair (x : Int × Option Int) : Prop := 0 ≤ x.1 ∧ x.1 < 1000 ∧ ∀ v, x.2 = some v → -10 < v ∧ v < 1000
def pwS (x : Int × Option Int) : Str := match x.2 with
  | none => strI x.1 ++ "-"
  | some v => (strI x.1 ++ "=") ++ strI v
def textL (f : α → Str) (e : Str) (sep : Str) (l : List α) : Str := if l = [] then e else Txt.join sep (l.map f)
theorem len_cat (x y : Str) : (x ++ y).length = x.length + y.length := by
  rw [← S_tl x, ← S_tl y, S_cat, S_len, S_len, S_len, List.length_append]
theorem pwS_len {x : Int × Option Int} (h : okPair x) : (pwS x).length ≤ 13 := by
  obtain ⟨k, o⟩ := x
  obtain ⟨h1, h2, h3⟩ := h
  have a := strI_len (i := k) (by simp at h1; omega) (by simp at h2; omega)
  cases o with
  | none =>
    show (strI k ++ "-").length ≤ 13
    rw [len_cat, show (("-" : Str)).length = 1 by decide +kernel]
    omega
  | some v =>
    have b := strI_len (i := v) (h3 v rfl).1 (by have := (h3 v rfl).2; omega)
    show ((strI k ++ "=") ++ strI v).length ≤ 13
    rw [len_cat, len_cat, show (("=" : Str)).length = 1 by decide +kernel]
    omega
theorem sum_le {l : List Nat} {m : Nat} (h : ∀ x ∈ l, x ≤ m) : l.sum ≤ l.length * m := by
  induction l with
  | nil => simp
  | cons a l ih =>
    have := h a (List.mem_cons_self ..)
    have := ih fun x hx => h x (List.mem_cons_of_mem _ hx)
    simp [Nat.succ_mul]
    omega
section
variable {P : Program} {w : World} {K : PySem.W.Frag} {mg : PySem.Str → Option Value} {base : Heap}
theorem er_lenGt {α : Type} [Rp α] {as : List α} {ta : TE} {σ H} (ha : Er K ta σ H (Ls.mk as)) : Er K (tOp (rI0 fun i j => .bl (decide (j < i))) (tCB (rLenS K) (tCons ta tNil)) (tC (.int 0))) σ H (!decide (as = [])) :=
  Er.is (er_IB (g := fun i j => decide (j < i)) (er_lenL ha) (er_i 0)) (by cases as <;> simp)
theorem ok_pair_word (T : Tx w K mg) : FnAt P w K mg base 1 (He.fAd K ("pair_word", none)) (Pu1 K okPair pwS) := by
  have S : FnScope ["pair", "key", "value"] ["pair"] (defScope s_pair_word) := ⟨rfl, rfl, rfl, by decide +kernel, rfl, by decide +kernel, by decide +kernel⟩
  refine mk0 0 T.f_pair_word S (fun _ _ _ _ _ _ us hl => match us, hl with | [_], _ => rfl) (fun vs H Q E h => len1 h) fun cdv A outer s H vs Q E hr h => ?_
  obtain ⟨x, ⟨k, o⟩, rfl, h_pair, hp, q⟩ := h
  obtain ⟨h1, h2, h3⟩ := hp
  have lk := strI_len (i := k) (by simp at h1; omega) (by simp at h2; omega)
  refine ⟨_, pss_cons (ps_asg (pv 0) (pg_tup rfl (pgs_cons (pg_name (i := 1) S.nd rfl (Or.inl rfl)) (pgs_cons (pg_name (i := 2) S.nd rfl (Or.inl rfl)) pgs_nil))))
      (pss_one (ps_ret (pe_ifExp (pt_cmpR op_isN (pv 2) pe_non (nomark _)) (pe_op op_add_str (pe_callTy call_str_int rfl T.z_str (by decide +kernel) (pa_cons (pv 1) pa_nil)) pe_str) (pe_op op_add_str (pe_op op_add_str (pe_callTy call_str_int rfl T.z_str (by decide +kernel) (pa_cons (pv 1) pa_nil)) pe_str) (pe_callTy call_str_int rfl T.z_str (by decide +kernel) (pa_cons (pv 2) pa_nil)))))), ?_⟩
  refine r_asg2 (er_var rfl h_pair) fun y z H1 e1 hy hz => ?_
  obtain rfl : y = .int k := hy
  refine r_ret (K := K) (er_if (a := pwS (k, o)) (k := o.isNone) (et_t (K := K) (er_isN nI (er_var rfl hz))) (fun hn => ?_) fun hn => ?_) fun v H2 e2 hv => q v H2 (e1.trans e2) hv
  · cases o with
    | some v => cases hn
    | none =>
      refine er_catS (i := strI k) (j := "-") (er_str' (er_var (a := k) rfl rfl) (by simp at h1; omega) (by simp at h2; omega)) (er_s _) ?_
      rw [show (("-" : Str)).length = 1 by decide +kernel]
      exact sz_of (by omega)
  · cases o with
    | none => cases hn
    | some v =>
      have b1 := (h3 v rfl).1
      have b2 := (h3 v rfl).2
      have lv := strI_len (i := v) b1 (by omega)
      have l1 : (("=" : Str)).length = 1 := by decide +kernel
      obtain rfl : z = .int v := hz
      refine er_catS (i := strI k ++ "=") (j := strI v) (er_catS (i := strI k) (j := "=") (er_str' (er_var (a := k) rfl rfl) (by simp at h1; omega) (by simp at h2; omega)) (er_s _) ?_) (er_str' (er_var (a := v) rfl rfl) b1 (by omega)) ?_
      · rw [l1]
        exact sz_of (by omega)
      · rw [len_cat, l1]
        exact sz_of (by omega)
theorem ok_pairs_text (T : Tx w K mg) : FnAt P w K mg base 2 (He.fAd K ("pairs_text", none)) (Pu1 K (fun (ps : Ls (Int × Option Int)) => ps.l.length ≤ 1000 ∧ ∀ x ∈ ps.l, okPair x) fun ps => textL pwS "-" " " ps.l) := by
  have S : FnScope ["pairs", "pair"] ["pairs"] (defScope s_pairs_text) := ⟨rfl, rfl, rfl, by decide +kernel, rfl, by decide +kernel, by decide +kernel⟩
  have G_pair_word := ok_pair_word (P := P) (base := base) T
  refine mk0 1 T.f_pairs_text S (fun _ _ _ _ _ _ us hl => match us, hl with | [_], _ => rfl) (fun vs H Q E h => len1 h) fun cdv A outer s H vs Q E hr h => ?_
  obtain ⟨x, ⟨ps⟩, rfl, h_pairs, hp, q⟩ := h
  obtain ⟨hl, hok⟩ := hp
  dsimp only at hl hok q
  refine ⟨_, pss_one (ps_ret (pe_ifExp (pt_cmpR op_gt (pe_callB (lenK (K := K) rfl) rfl T.z_len (by decide +kernel) (pa_cons (pv 0) pa_nil)) pe_int (nomark _)) (joinK (K := K) rfl pe_str (pe_lc (own := [("pair", 1)]) (g := gName 1) (tt := tYes) rfl S.nd (pi_list (pv 0)) (blkOk_by (N := ["pairs", "pair"]) (sc := defScope s_pairs_text) (own := [("pair", 1)]) (by decide +kernel)) (fun _ _ _ _ _ => pg_name (i := 1) S.nd rfl (Or.inl rfl)) (fun _ _ _ _ _ => pts_nil) (fun _ _ _ _ _ => pe_f G_pair_word T.g_pair_word hr (by decide) passN (pa_cons (pv 1) pa_nil)))) (pe_gs T.s_NOTHING))), ?_⟩
  refine r_ret (K := K) (er_if (a := textL pwS "-" " " ps) (k := !decide (ps = [])) (et_t (K := K) (er_lenGt (er_var rfl h_pairs))) (fun hn => ?_) fun hn => ?_) q
  · have hn' : ¬ ps = [] := by simpa using hn
    rw [show textL pwS "-" " " ps = Txt.join " " (ps.map pwS) from if_neg hn']
    refine er_join (z := " ") (er_s _) (El.er' (el_lcY (f := pwS) (wr_list (er_var rfl h_pairs)) (by omega) fun a v H1 ha e1 hv Q q => gb_name (q _ H1 (Ex.refl _) rfl (er_f1 (er_var rfl hv) (hok a ha))))) ?_
    have := sum_le (l := (ps.map pwS).map (·.length)) (m := 13) fun n hm => by
      obtain ⟨z, hz, rfl⟩ := List.mem_map.mp hm
      obtain ⟨y, hy, rfl⟩ := List.mem_map.mp hz
      exact pwS_len (hok y hy)
    rw [List.length_map, List.length_map] at this
    rw [List.length_map, show ((" " : Str)).length = 1 by decide +kernel]
    omega
  · have hn' : ps = [] := by simpa using hn
    rw [show textL pwS "-" " " ps = "-" from if_pos hn']
    exact er_s _
theorem ok_begins_text (T : Tx w K mg) : FnAt P w K mg base 1 (He.fAd K ("begins_text", none)) (Pu1 K (fun (ps : List Int) => ps.length ≤ 1000 ∧ ∀ x ∈ ps, 0 ≤ x ∧ x < 1000) fun ps => Txt.join "," (ps.map strI)) := by
  have S : FnScope ["plan", "begin"] ["plan"] (defScope s_begins_text) := ⟨rfl, rfl, rfl, by decide +kernel, rfl, by decide +kernel, by decide +kernel⟩
  refine mk0 0 T.f_begins_text S (fun _ _ _ _ _ _ us hl => match us, hl with | [_], _ => rfl) (fun vs H Q E h => len1 h) fun cdv A outer s H vs Q E hr h => ?_
  obtain ⟨x, ps, rfl, h_plan, hp, q⟩ := h
  obtain ⟨hl, hok⟩ := hp
  refine ⟨_, pss_one (ps_ret (joinK (K := K) rfl pe_str (pe_lc (own := [("begin", 1)]) (g := gName 1) (tt := tYes) rfl S.nd (pi_tup (pv 0)) (blkOk_by (N := ["plan", "begin"]) (sc := defScope s_begins_text) (own := [("begin", 1)]) (by decide +kernel)) (fun _ _ _ _ _ => pg_name (i := 1) S.nd rfl (Or.inl rfl)) (fun _ _ _ _ _ => pts_nil) (fun _ _ _ _ _ => pe_callTy call_str_int rfl T.z_str (by decide +kernel) (pa_cons (pv 1) pa_nil))))), ?_⟩
  refine r_ret (K := K) (er_join (z := ",") (er_s _) (El.er' (el_lcY (f := strI) (wr_tup (er_var rfl h_plan)) (by omega) fun a v H1 ha e1 hv Q q => gb_name (q _ H1 (Ex.refl _) rfl (er_str' (er_var rfl hv) (by have := hok a ha; omega) (by have := hok a ha; omega))))) ?_) q
  have := sum_le (l := (ps.map strI).map (·.length)) (m := 6) fun n hm => by
    obtain ⟨z, hz, rfl⟩ := List.mem_map.mp hm
    obtain ⟨y, hy, rfl⟩ := List.mem_map.mp hz
    exact strI_len (by have := hok y hy; omega) (by have := hok y hy; omega)
  rw [List.length_map, List.length_map] at this
  rw [List.length_map, show (("," : Str)).length = 1 by decide +kernel]
  omega
theorem ok_words_or_none (T : Tx w K mg) : FnAt P w K mg base 1 (He.fAd K ("words_or_none", none)) (Pu1 K (fun (ps : Ls Str) => ps.l.length ≤ 1000 ∧ ∀ x ∈ ps.l, x.length ≤ 1000) fun ps => textL id "none" " " ps.l) := by
  have S : FnScope ["words"] ["words"] (defScope s_words_or_none) := ⟨rfl, rfl, rfl, by decide +kernel, rfl, by decide +kernel, by decide +kernel⟩
  refine mk0 0 T.f_words_or_none S (fun _ _ _ _ _ _ us hl => match us, hl with | [_], _ => rfl) (fun vs H Q E h => len1 h) fun cdv A outer s H vs Q E hr h => ?_
  obtain ⟨x, ⟨ps⟩, rfl, h_words, hp, q⟩ := h
  obtain ⟨hl, hok⟩ := hp
  dsimp only at hl hok q
  refine ⟨_, pss_one (ps_ret (pe_ifExp (pt_cmpR op_gt (pe_callB (lenK (K := K) rfl) rfl T.z_len (by decide +kernel) (pa_cons (pv 0) pa_nil)) pe_int (nomark _)) (joinK (K := K) rfl pe_str (pv 0)) (pe_gs T.s_NONE))), ?_⟩
  refine r_ret (K := K) (er_if (a := textL id "none" " " ps) (k := !decide (ps = [])) (et_t (K := K) (er_lenGt (er_var rfl h_words))) (fun hn => ?_) fun hn => ?_) q
  · have hn' : ¬ ps = [] := by simpa using hn
    rw [show textL id "none" " " ps = Txt.join " " (ps.map id) from if_neg hn', List.map_id]
    refine er_join (z := " ") (er_s _) (er_var rfl h_words) ?_
    have := sum_le (l := ps.map (·.length)) (m := 1000) fun n hm => by
      obtain ⟨y, hy, rfl⟩ := List.mem_map.mp hm
      exact hok y hy
    rw [List.length_map] at this
    rw [show ((" " : Str)).length = 1 by decide +kernel]
    have : ps.length * 1000 ≤ 1000 * 1000 := Nat.mul_le_mul_right _ hl
    omega
  · have hn' : ps = [] := by simpa using hn
    rw [show textL id "none" " " ps = "none" from if_pos hn']
    exact er_s _
end
/-- f-l:n -/
def rwS (f l n : Int) : Str := (((strI f ++ "-") ++ strI l) ++ ":") ++ strI n
section
variable {P : Program} {w : World} {K : PySem.W.Frag} {mg : PySem.Str → Option Value} {base : Heap}
theorem er_rw {ta tb tc : TE} {σ H} {f l n : Int} (ha : Er K ta σ H f) (hb : Er K tb σ H l) (hc : Er K tc σ H n) (h : (0 ≤ f ∧ f < 1000) ∧ (0 ≤ l ∧ l < 1000) ∧ 0 ≤ n ∧ n < 100000) :
    Er K (let s := fun t => tCB (fun xs H Q => ∃ i, xs = [.int i] ∧ i.natAbs.log2 < 1920 ∧ Q (.str (toString i)) H) (tCons t tNil); let cat := tOp (fun x y H Q => ∃ i j, x = .str i ∧ y = .str j ∧ i.length + j.length ≤ sizeLine ∧ Q (.str (i ++ j)) H);
      cat (cat (cat (cat (s ta) (tC (.str "-"))) (s tb)) (tC (.str ":"))) (s tc)) σ H (rwS f l n) := by
  have l1 := strI_len (i := f) (by omega) (by omega)
  have l2 := strI_len (i := l) (by omega) (by omega)
  have l3 := strI_len (i := n) (by omega) (by omega)
  have c1 : (("-" : Str)).length = 1 := by decide +kernel
  have c2 : ((":" : Str)).length = 1 := by decide +kernel
  refine er_catS (er_catS (er_catS (er_catS (er_str' ha (by omega) (by omega)) (er_s _) ?_) (er_str' hb (by omega) (by omega)) ?_) (er_s _) ?_) (er_str' hc (by omega) (by omega)) ?_
  all_goals (try rw [len_cat]); (try rw [len_cat]); (try rw [len_cat]); (try rw [c1]); (try rw [c2]); exact sz_of (by omega)
theorem ok_run_word (T : Tx w K mg) : FnAt P w K mg base 1 (He.fAd K ("run_word", none)) (Pu3 K (fun (f l : Int) (ru : List (T3 Int Int (Option Int))) => (0 ≤ f ∧ f < 1000) ∧ (0 ≤ l ∧ l < 1000) ∧ ru.length < 100000) fun f l ru => rwS f l ru.length) := by
  have S : FnScope ["first", "last", "run"] ["first", "last", "run"] (defScope s_run_word) := ⟨rfl, rfl, rfl, by decide +kernel, rfl, by decide +kernel, by decide +kernel⟩
  refine mk0 0 T.f_run_word S (fun _ _ _ _ _ _ us hl => match us, hl with | [_, _, _], _ => rfl) (fun vs H Q E h => len3 h) fun cdv A outer s H vs Q E hr h => ?_
  obtain ⟨x, y, z, f, l, ru, rfl, h_first, h_last, h_run, hp, q⟩ := h
  refine ⟨_, pss_one (ps_ret (pe_op op_add_str (pe_op op_add_str (pe_op op_add_str (pe_op op_add_str (pe_callTy call_str_int rfl T.z_str (by decide +kernel) (pa_cons (pv 0) pa_nil)) pe_str) (pe_callTy call_str_int rfl T.z_str (by decide +kernel) (pa_cons (pv 1) pa_nil))) pe_str) (pe_callTy call_str_int rfl T.z_str (by decide +kernel) (pa_cons (pe_callB (lenK (K := K) rfl) rfl T.z_len (by decide +kernel) (pa_cons (pv 2) pa_nil)) pa_nil)))), ?_⟩
  exact r_ret (K := K) (er_rw (er_var rfl h_first) (er_var rfl h_last) (er_lenT (er_var rfl h_run)) ⟨hp.1, hp.2.1, by omega, by omega⟩) q
end
end Js
/-! ### reading -/
namespace Js
open PySem PySem.Spec PyProof.Rows L2 Evl SX
open Rp (r)
def figB (c : Nat) : Bool := decide (c ∈ ("0123456789" : Str).cps.toList)
def numberOf (z : Str) : Option Int :=
  if ((decide ((1 : Int) ≤ (z.length : Int)) && decide ((z.length : Int) ≤ 9)) && z.cps.toList.all figB) = true then
    (if 1 < z.length ∧ z.cps.toList[0]? = some 48 then none else some ((NumText.digitsVal z.cps.toList : Nat) : Int)) else none
def valueOf (z : Str) : Option Int :=
  if Txt.slice z none (some 1) ≠ "-" then numberOf z else match numberOf (Txt.slice z (some 1) none) with
  | none => none
  | some n => if n = 0 then none else some (-n)
def pairOf (z : Str) : Option (Int × Option Int) :=
  if Txt.slice z (some (-1)) none = "-" then (match numberOf (Txt.slice z none (some (-1))) with
    | none => none
    | some k => some (k, none)) else match Txt.split z "=" with
  | [a, b] => (match numberOf a, valueOf b with
    | some k, some v => some (k, some v)
    | _, _ => none)
  | _ => none
/-- short enough, with its parts -/
def shV (z : Str) : Prop := z.length ≤ 90000 ∧ (Txt.slice z (some 1) none).length ≤ 90000
def shP (z : Str) : Prop := z.length ≤ 90000 ∧ (Txt.slice z none (some (-1))).length ≤ 90000 ∧ (∀ a ∈ Txt.split z "=", shV a)
theorem figB_iff {c : Nat} : figB c = true ↔ 48 ≤ c ∧ c ≤ 57 := by
  have e : ("0123456789" : Str).cps.toList = [48, 49, 50, 51, 52, 53, 54, 55, 56, 57] := by decide +kernel
  unfold figB
  rw [e, decide_eq_true_eq]
  simp only [List.mem_cons, List.not_mem_nil, or_false]
  omega
section
variable {P : Program} {w : World} {K : PySem.W.Frag} {mg : PySem.Str → Option Value} {base : Heap}
theorem er_signIn {ta tb : TE} {σ H} {z y : Str} (ha : Er K ta σ H z) (hz : ∃ c, z = ⟨#[c]⟩) (hb : Er K tb σ H y) : Er K (tOp (fun x y H Q => ∃ (c : Nat) (z : Str), x = .str ⟨#[c]⟩ ∧ y = .str z ∧ Q (.bl (decide (c ∈ z.cps.toList))) H) ta tb) σ H (decide (z.cps.toList.headD 0 ∈ y.cps.toList)) := by
  obtain ⟨c, rfl⟩ := hz
  exact er_inSign ha hb
theorem sign_one {z s : Str} (h : s ∈ signs z) : ∃ c, s = ⟨#[c]⟩ := by
  obtain ⟨c, _, rfl⟩ := List.mem_map.mp h
  exact ⟨c, rfl⟩
theorem len_sz {z : Str} (h : z.length ≤ 90000) : z.length ≤ sizeLine := sz_of (by omega)
theorem len_signs {z : Str} (h : z.length ≤ 90000) : (signs z).length < 100000 := by
  have : (signs z).length = z.length := by simp [signs, Str.length]
  omega
theorem ok_number_of (T : Tx w K mg) : FnAt P w K mg base 1 (He.fAd K ("number_of", none)) (Pu1 K (fun (z : Str) => z.length ≤ 90000) numberOf) := by
  have S : FnScope ["word", "sign"] ["word"] (defScope s_number_of) := ⟨rfl, rfl, rfl, by decide +kernel, rfl, by decide +kernel, by decide +kernel⟩
  refine mk0 0 T.f_number_of S (fun _ _ _ _ _ _ us hl => match us, hl with | [_], _ => rfl) (fun vs H Q E h => len1 h) fun cdv A outer s H vs Q E hr h => ?_
  obtain ⟨x, z, rfl, h_word, hl, q⟩ := h
  refine ⟨_, pss_cons (ps_if (PW.pt (pw_or (pt_not (pt_chain op_le op_le pe_int (pe_callB call_len_str rfl T.z_len (by decide +kernel) (pa_cons (pv 0) pa_nil)) (pe_gi T.i_MOST_FIGURES))) (pw_or1 (pt_not (pt_val (pe_callB (allK (K := K) rfl rfl) rfl T.z_all (by decide +kernel) (pa_cons (pe_lc (own := [("sign", 1)]) (g := gName 1) (tt := tYes) rfl S.nd (pi_str (pv 0)) (blkOk_by (N := ["word", "sign"]) (sc := defScope s_number_of) (own := [("sign", 1)]) (by decide +kernel)) (fun _ _ _ _ _ => pg_name (i := 1) S.nd rfl (Or.inl rfl)) (fun _ _ _ _ _ => pts_nil) (fun _ _ _ _ _ => pe_cmpR op_in_sign (pv 1) (pe_gs T.s_FIGURES) rfl)) pa_nil)))))))
        (pss_one (ps_ret pe_non))
        (pss_nil))
      (pss_one (ps_ret (pe_ifExp (PW.pt (pw_and (pt_cmpR op_gt (pe_callB call_len_str rfl T.z_len (by decide +kernel) (pa_cons (pv 0) pa_nil)) pe_int (nomark _)) (pw_and1 (pt_cmpR op_eq (pe_ix ix_str (pv 0) pe_int (fun _ _ => rfl)) pe_str (nomark _))))) pe_non (pe_callTy call_int_str rfl T.z_int (by decide +kernel) (pa_cons (pv 0) pa_nil))))), ?_⟩
  refine r_if (et_or (et_not (et_chain (K := K) (er_i 1) (er_lenS (er_var rfl h_word) (len_sz hl)) (er_i 9) (fun _ => rv_I0) (fun _ => rv_I0))) fun _ => et_not (et_v (K := K) (er_all (el_lcY (f := fun s => decide (s.cps.toList.headD 0 ∈ ("0123456789" : Str).cps.toList)) (wr_str (er_var rfl h_word)) (len_signs hl) fun a v H1 ha e1 hv Q q => gb_name (q _ H1 (Ex.refl _) rfl (er_signIn (er_var rfl hv) (sign_one ha) (er_s _)))))))
    (fun hc H1 e1 => ?_) fun hc H1 e1 => ?_
  all_goals rw [signs_all z figB _ fun c => rfl] at hc
  · refine r_ret (K := K) (er_no (α := Int)) fun v H2 e2 hv => q v H2 (e1.trans e2) ?_
    have : numberOf z = none := if_neg fun h => by
      rw [Bool.and_eq_true] at h
      rw [h.1, h.2] at hc
      cases hc
    rw [this]
    exact hv
  · have hc1 : ((decide ((1 : Int) ≤ (z.length : Int)) && decide ((z.length : Int) ≤ 9)) && z.cps.toList.all figB) = true := by
      rw [Bool.or_eq_false_iff, Bool.not_eq_false', Bool.not_eq_false'] at hc
      rw [hc.1, hc.2]
      rfl
    have hc2 := hc1
    rw [Bool.and_eq_true, Bool.and_eq_true, decide_eq_true_eq, decide_eq_true_eq] at hc2
    obtain ⟨⟨c1, c2⟩, c3⟩ := hc2
    have hne : z.cps.toList ≠ [] := fun e => by
      have : z.length = 0 := by rw [← S_tl z, S_len, e]; rfl
      omega
    obtain ⟨c, l, ecl⟩ := List.exists_cons_of_ne_nil hne
    have en : numberOf z = if 1 < z.length ∧ z.cps.toList[0]? = some 48 then none else some ((NumText.digitsVal z.cps.toList : Nat) : Int) := if_pos hc1
    refine r_ret (K := K) (er_if (a := numberOf z) (et_and (et_t (K := K) (er_IB (g := fun i j => decide (j < i)) (er_lenS (er_var rfl (Rp.mono e1 h_word)) (len_sz hl)) (er_i 1))) fun _ => et_t (K := K) (er_eqS (er_ixS (k := c) (er_var rfl (Rp.mono e1 h_word)) (er_i 0) (len_sz hl) (by rw [ecl]; exact atI_nat (j := 0) rfl)) (er_s "0"))) (fun hb => ?_) fun hb => ?_) fun v H2 e2 hv => q v H2 (e1.trans e2) hv
    · rw [Bool.and_eq_true, decide_eq_true_eq, decide_eq_true_eq] at hb
      have e48 : c = 48 := by
        have h0 : ("0" : Str) = ⟨#[48]⟩ := by decide +kernel
        have := hb.2
        rw [h0] at this
        injection this with this
        simpa using this
      rw [en, if_pos ⟨by omega, by rw [ecl, e48]; rfl⟩]
      exact er_no
    · rw [en, if_neg ?_]
      · refine er_intS (n := ((NumText.digitsVal z.cps.toList : Nat) : Int)) (er_var rfl (Rp.mono e1 h_word)) ?_ (by omega)
        have := int_S (a := z.cps.toList) (by
          rw [List.all_eq_true] at c3 ⊢
          intro x hx
          have := figB_iff.mp (c3 x hx)
          simp [this]) hne (by rw [← S_len, S_tl]; omega)
        rwa [S_tl] at this
      · rintro ⟨h1, h2⟩
        rw [ecl] at h2
        have e48 : c = 48 := by simpa using h2
        subst e48
        have h0 : ("0" : Str) = ⟨#[48]⟩ := by decide +kernel
        rw [h0] at hb
        simp at hb
        omega
theorem ev1 {te : TE} {σ H} {z y : Str} (h : Er K te σ H z) : EvT (tTest (tOp rNe te (tC (.str y)))) σ H (!decide (z = y)) := et_t (K := K) (er_neS h (er_s y))
theorem ok_value_of (T : Tx w K mg) : FnAt P w K mg base 2 (He.fAd K ("value_of", none)) (Pu1 K shV valueOf) := by
  have S : FnScope ["word", "found"] ["word"] (defScope s_value_of) := ⟨rfl, rfl, rfl, by decide +kernel, rfl, by decide +kernel, by decide +kernel⟩
  have G_number_of := ok_number_of (P := P) (base := base) T
  refine mk0 1 T.f_value_of S (fun _ _ _ _ _ _ us hl => match us, hl with | [_], _ => rfl) (fun vs H Q E h => len1 h) fun cdv A outer s H vs Q E hr h => ?_
  obtain ⟨x, z, rfl, h_word, hl, q⟩ := h
  obtain ⟨hl, hl2⟩ := hl
  refine ⟨_, pss_cons (ps_if (pt_cmpR op_ne (pe_slice C8.sl_txt (pv 0) po_none (po_some pe_int)) pe_str (nomark _))
        (pss_one (ps_ret (pe_f G_number_of T.g_number_of hr (by decide) passN (pa_cons (pv 0) pa_nil))))
        (pss_nil))
      (pss_cons (ps_set (i := 1) S.nd rfl (Or.inl rfl) (pe_f G_number_of T.g_number_of hr (by decide) passN (pa_cons (pe_slice C8.sl_txt (pv 0) (po_some pe_int) po_none) pa_nil)))
      (pss_one (ps_ret (pe_ifExp (PW.pt (pw_or (pt_cmpR op_isN (pv 1) pe_non (nomark _)) (pw_or1 (pt_cmpR op_eq (pv 1) pe_int (nomark _))))) pe_non (pe_un un_neg (pv 1)))))), ?_⟩
  refine r_if (et_t (K := K) (er_neS (er_slTo (er_var rfl h_word) (er_i 1) (len_sz hl)) (er_s "-"))) (fun hc H1 e1 => ?_) fun hc H1 e1 => ?_
  · have hc' : Txt.slice z none (some 1) ≠ "-" := by simpa using hc
    refine r_ret (K := K) (er_f1 (er_var rfl (Rp.mono e1 h_word)) hl) fun v H2 e2 hv => q v H2 (e1.trans e2) ?_
    rw [show valueOf z = numberOf z from if_pos hc']
    exact hv
  · have hc' : ¬ Txt.slice z none (some 1) ≠ "-" := by simpa using hc
    have en : valueOf z = match numberOf (Txt.slice z (some 1) none) with
      | none => none
      | some n => if n = 0 then none else some (-n) := if_neg hc'
    refine r_set (K := K) (er_f1 (er_slFrom (er_var rfl (Rp.mono e1 h_word)) (er_i 1) (len_sz hl)) hl2) fun v H2 e2 h_found => ?_
    generalize numberOf (Txt.slice z (some 1) none) = o at h_found en
    cases o with
    | none =>
      refine r_ret (K := K) (er_if (a := valueOf z) (et_or (b := false) (et_t (K := K) (er_isN (o := (none : Option Int)) nI (er_var rfl h_found))) fun hb => by cases hb) (fun _ => ?_) fun hb => by cases hb) fun v H3 e3 hv => q v H3 ((e1.trans e2).trans e3) hv
      rw [en]
      exact er_no
    | some n =>
      obtain rfl : v = .int n := h_found
      refine r_ret (K := K) (er_if (a := valueOf z) (et_or (et_t (K := K) (er_isN (o := some n) nI (er_var rfl rfl))) fun _ => et_t (K := K) (er_eqI (er_var (a := n) rfl rfl) (er_i 0))) (fun hb => ?_) fun hb => ?_) fun v H3 e3 hv => q v H3 ((e1.trans e2).trans e3) hv
      · have : n = 0 := by simpa using hb
        rw [en]
        simp only [this, if_true]
        exact er_no
      · have : n ≠ 0 := by simpa using hb
        rw [en]
        simp only [this, if_false]
        exact Er.some' (er_neg (er_var (a := n) rfl rfl))
end
end Js
/-! ### reading of pairs, of whole lines -/
namespace Js
open PySem PySem.Spec PyProof.Rows L2 Evl SX
open Rp (r)
def pairsOf (z : Str) : Option (List (Int × Option Int)) := if z = "-" then some [] else if ((Txt.split z " ").map pairOf).any Option.isNone = true then none else some (((Txt.split z " ").map pairOf).filterMap id)
def smB (c : Nat) : Bool := decide (c ∈ ("abcdefghijklmnopqrstuvwxyz" : Str).cps.toList)
def isName (z : Str) : Bool := (decide ((1 : Int) ≤ (z.length : Int)) && decide ((z.length : Int) ≤ 8)) && z.cps.toList.all smB
/-- a value of a line -/
inductive Val where
  | s (z : Str)
  | i (n : Int)
  | p (b : List (Int × Option Int))
deriving DecidableEq
def rVal (K : PySem.W.Frag) (H : Hp) (v : V) : Val → Prop
  | .s z => v = .str z
  | .i n => v = .int n
  | .p b => r K H v b
instance : Rp Val := ⟨rVal, fun {K H H' v a} e h => by
  cases a with
  | s z => exact h
  | i n => exact h
  | p b => exact Rp.mono (a := b) e h⟩
instance : RpT Val := ⟨fun {K H H' v a} e h => by
  cases a with
  | s z => exact h
  | i n => exact h
  | p b => exact RpT.t (a := b) e h⟩
def toldOf (sort z : Str) : Option Val := if sort = "number" then (numberOf z).map .i else if sort = "words" then (pairsOf z).map .p else if isName z = true then some (.s z) else none
def shW (z : Str) : Prop := z.length ≤ 90000 ∧ (Txt.split z " ").length ≤ 90000 ∧ ∀ a ∈ Txt.split z " ", shP a
section
variable {P : Program} {w : World} {K : PySem.W.Frag} {mg : PySem.Str → Option Value} {base : Heap}
theorem r_par {α β : Type} [Rp α] [Rp β] {a : α} {b : β} {i j : Nat} {ta tb : TE} {D : Ends} {σ H} (ha : Er K ta σ H a) (hb : Er K tb σ H b) (k : ∀ v u H1, Ex H H1 → r K H1 v a → r K H1 u b → D.nx ((σ.set i (some v)).set j (some u)) H1) : tPar i j (tCons ta (tCons tb tNil)) D σ H :=
  ha H (Ex.refl H) _ fun v H1 e1 hv => hb H1 e1 _ fun u H2 e2 hu => ⟨v, u, rfl, k v u H2 (e1.trans e2) (Rp.mono e2 hv) hu⟩
theorem nVal : ∀ K H (a : Val), ¬ r K H .non a := fun K H a h => by
  cases a with
  | s z => cases (show V.non = V.str z from h)
  | i n => cases (show V.non = V.int n from h)
  | p b => exact nT K H b h
theorem mixP : ∀ H v (o : Option (Int × Option Int)), r K H v o → Jg.NonMix K H v := fun H v o h => by
  cases o with
  | none => exact .inl h
  | some a =>
    obtain ⟨p, x, y, e, hs, _⟩ := (show r K H v a from h)
    exact .inr (.inr (.inr ⟨p, _, e, hs⟩))
theorem mixV : ∀ H v (o : Option Val), r K H v o → Jg.NonMix K H v := fun H v o h => by
  cases o with
  | none => exact .inl h
  | some a =>
    cases a with
    | s z => exact .inr (.inr (.inl ⟨z, h⟩))
    | i n => exact .inr (.inl ⟨n, h⟩)
    | p b =>
      obtain ⟨p, x, e, hs, _⟩ := (show r K H v b from h)
      exact .inr (.inr (.inr ⟨p, _, e, hs⟩))
theorem pd_some {α : Type} [Rp α] {H : Hp} : ∀ {as : List (Option α)} {xs : List V}, Paired (r K H) xs as → as.any Option.isNone = false → Paired (r K H) xs (as.filterMap id)
  | [], _, .nil, _ => .nil
  | o :: as, _, .cons h t, hn => by
    rw [List.any_cons, Bool.or_eq_false_iff] at hn
    cases o with
    | none => cases hn.1
    | some a => exact .cons (show r K H _ a from h) (pd_some t hn.2)
theorem ok_pair_of (T : Tx w K mg) : FnAt P w K mg base 3 (He.fAd K ("pair_of", none)) (Pu1 K shP pairOf) := by
  have S : FnScope ["word", "key", "sides", "value"] ["word"] (defScope s_pair_of) := ⟨rfl, rfl, rfl, by decide +kernel, rfl, by decide +kernel, by decide +kernel⟩
  have G_number_of := ok_number_of (P := P) (base := base) T
  have G_value_of := ok_value_of (P := P) (base := base) T
  refine mk0 2 T.f_pair_of S (fun _ _ _ _ _ _ us hl => match us, hl with | [_], _ => rfl) (fun vs H Q E h => len1 h) fun cdv A outer s H vs Q E hr h => ?_
  obtain ⟨x, z, rfl, h_word, hl, q⟩ := h
  obtain ⟨hl, hl2, hl3⟩ := hl
  refine ⟨_, pss_cons (ps_if (pt_cmpR op_eq (pe_slice C8.sl_txt (pv 0) (po_some (pe_un un_neg pe_int)) po_none) pe_str (nomark _))
        (pss_cons (ps_set (i := 1) S.nd rfl (Or.inl rfl) (pe_f G_number_of T.g_number_of hr (by decide) passN (pa_cons (pe_slice C8.sl_txt (pv 0) po_none (po_some (pe_un un_neg pe_int))) pa_nil)))
        (pss_one (ps_ret (pe_ifExp (pt_cmpR op_isN (pv 1) pe_non (nomark _)) pe_non (pe_tup (pa_cons (pv 1) (pa_cons pe_non pa_nil)))))))
        (pss_nil))
      (pss_cons (ps_set (i := 2) S.nd rfl (Or.inl rfl) (pe_split (pv 0) pe_str))
      (pss_cons (ps_if (pt_cmpR op_ne (pe_callB (lenK (K := K) rfl) rfl T.z_len (by decide +kernel) (pa_cons (pv 2) pa_nil)) pe_int (nomark _))
        (pss_one (ps_ret pe_non))
        (pss_nil))
      (pss_cons (ps_par (i := 1) (j := 3) (by rfl) S.nd rfl rfl (by decide) rfl rfl (pa_cons (pe_f G_number_of T.g_number_of hr (by decide) passN (pa_cons (pe_ix (ixL (K := K) rfl) (pv 2) pe_int (fun _ _ => rfl)) pa_nil)) (pa_cons (pe_f G_value_of T.g_value_of hr (by decide) passN (pa_cons (pe_ix (ixL (K := K) rfl) (pv 2) pe_int (fun _ _ => rfl)) pa_nil)) pa_nil)) (by rfl))
      (pss_one (ps_ret (pe_ifExp (PW.pt (pw_or (pt_cmpR op_isN (pv 1) pe_non (nomark _)) (pw_or1 (pt_cmpR op_isN (pv 3) pe_non (nomark _))))) pe_non (pe_tup (pa_cons (pv 1) (pa_cons (pv 3) pa_nil))))))))), ?_⟩
  refine r_if (et_t (K := K) (er_eqS (er_slFrom (er_var rfl h_word) (er_neg (er_i 1)) (len_sz hl)) (er_s "-"))) (fun hc H1 e1 => ?_) fun hc H1 e1 => ?_
  · have hc' : Txt.slice z (some (-1)) none = "-" := by simpa using hc
    have en : pairOf z = match numberOf (Txt.slice z none (some (-1))) with
      | none => none
      | some k => some (k, none) := if_pos hc'
    refine r_set (K := K) (er_f1 (er_slTo (er_var rfl (Rp.mono e1 h_word)) (er_neg (er_i 1)) (len_sz hl)) hl2) fun v H2 e2 h_key => ?_
    generalize numberOf (Txt.slice z none (some (-1))) = o at h_key en
    refine r_ret (K := K) (er_if (a := pairOf z) (et_t (K := K) (er_isN (o := o) nI (er_var rfl h_key))) (fun hb => ?_) fun hb => ?_) fun v H3 e3 hv => q v H3 ((e1.trans e2).trans e3) hv
    · cases o with
      | some k => cases hb
      | none => rw [en]; exact er_no
    · cases o with
      | none => cases hb
      | some k => rw [en]; exact Er.some' (er_tup2 (er_var (a := k) rfl h_key) (er_no (α := Int)))
  · have hc' : ¬ Txt.slice z (some (-1)) none = "-" := by simpa using hc
    have en : pairOf z = match Txt.split z "=" with
      | [a, b] => (match numberOf a, valueOf b with
        | some k, some v => some (k, some v)
        | _, _ => none)
      | _ => none := if_neg hc'
    refine r_set (K := K) (El.er' (el_split (er_var rfl (Rp.mono e1 h_word)) (er_s "=") (by decide +kernel) (sz_of (by omega)))) fun v H2 e2 h_sides => ?_
    generalize Txt.split z "=" = l at h_sides en hl3
    refine r_if (et_t (K := K) (er_neI (er_lenL (er_var rfl h_sides)) (er_i 2))) (fun hb H3 e3 => ?_) fun hb H3 e3 => ?_
    · refine r_ret (K := K) (er_no (α := Int × Option Int)) fun v H4 e4 hv => q v H4 (((e1.trans e2).trans e3).trans e4) ?_
      have : pairOf z = none := by
        rw [en]
        match l, hb with
        | [], _ => rfl
        | [_], _ => rfl
        | [_, _], hb => simp at hb
        | _ :: _ :: _ :: _, _ => rfl
      rw [this]
      exact hv
    · have h2 : l.length = 2 := by
        have : (l.length : Int) = 2 := by simpa using hb
        omega
      match l, h2 with
      | [a, b], _ =>
      have sa := hl3 a (by simp)
      have sb := hl3 b (by simp)
      refine r_par (er_f1 (er_ixL (er_var rfl (Rp.mono e3 h_sides)) (er_i 0) (j := 0) rfl rfl) sa.1) (er_f1 (er_ixL (er_var rfl (Rp.mono e3 h_sides)) (er_i 1) (j := 1) rfl rfl) sb) fun v2 u2 H4 e4 h_key h_value => ?_
      dsimp only at en
      generalize numberOf a = o1 at h_key en
      generalize valueOf b = o2 at h_value en
      refine r_ret (K := K) (er_if (a := pairOf z) (et_or (et_t (K := K) (er_isN (o := o1) nI (er_var rfl h_key))) fun _ => et_t (K := K) (er_isN (o := o2) nI (er_var rfl h_value))) (fun hb => ?_) fun hb => ?_) fun v H5 e5 hv => q v H5 ((((e1.trans e2).trans e3).trans e4).trans e5) hv
      · cases o1 with
        | none => rw [en]; exact er_no
        | some k =>
          cases o2 with
          | none => rw [en]; exact er_no
          | some u => cases hb
      · cases o1 with
        | none => cases hb
        | some k =>
          cases o2 with
          | none => cases hb
          | some u => rw [en]; exact Er.some' (er_tup2 (er_var (a := k) rfl h_key) (er_var (a := some u) rfl h_value))
theorem ok_pairs_of (T : Tx w K mg) : FnAt P w K mg base 4 (He.fAd K ("pairs_of", none)) (Pu1 K shW pairsOf) := by
  have S : FnScope ["text", "found", "word"] ["text"] (defScope s_pairs_of) := ⟨rfl, rfl, rfl, by decide +kernel, rfl, by decide +kernel, by decide +kernel⟩
  have G_pair_of := ok_pair_of (P := P) (base := base) T
  refine mk0 3 T.f_pairs_of S (fun _ _ _ _ _ _ us hl => match us, hl with | [_], _ => rfl) (fun vs H Q E h => len1 h) fun cdv A outer s H vs Q E hr h => ?_
  obtain ⟨x, z, rfl, h_text, hl, q⟩ := h
  obtain ⟨hl, hl2, hl3⟩ := hl
  refine ⟨_, pss_cons (ps_if (pt_cmpR op_eq (pv 0) (pe_gs T.s_NOTHING) (nomark _))
        (pss_one (ps_ret (pe_tup pa_nil)))
        (pss_nil))
      (pss_cons (ps_set (i := 1) S.nd rfl (Or.inl rfl) (pe_callTy (tupK (K := K) rfl) rfl T.z_tuple (by decide +kernel) (pa_cons (pe_lc (own := [("word", 2)]) (g := gName 2) (tt := tYes) rfl S.nd (pi_list (pe_split (pv 0) pe_str)) (blkOk_by (N := ["text", "found", "word"]) (sc := defScope s_pairs_of) (own := [("word", 2)]) (by decide +kernel)) (fun _ _ _ _ _ => pg_name (i := 2) S.nd rfl (Or.inl rfl)) (fun _ _ _ _ _ => pts_nil) (fun _ _ _ _ _ => pe_f G_pair_of T.g_pair_of hr (by decide) passN (pa_cons (pv 2) pa_nil))) pa_nil)))
      (pss_one (ps_ret (pe_ifExp (pt_cmpR (nonK (K := K) rfl hr.units) pe_non (pv 1) rfl) pe_non (pv 1))))), ?_⟩
  refine r_if (et_t (K := K) (er_eqS (er_var rfl h_text) (er_s "-"))) (fun hc H1 e1 => ?_) fun hc H1 e1 => ?_
  · have hc' : z = "-" := by simpa using hc
    refine r_ret (K := K) (Er.some' (a := ([] : List (Int × Option Int))) er_tup0) fun v H2 e2 hv => q v H2 (e1.trans e2) ?_
    rw [show pairsOf z = some [] from if_pos hc']
    exact hv
  · have hc' : ¬ z = "-" := by simpa using hc
    have en : pairsOf z = if ((Txt.split z " ").map pairOf).any Option.isNone = true then none else some (((Txt.split z " ").map pairOf).filterMap id) := if_neg hc'
    refine r_set (K := K) (er_tupOf (El.er' (el_lcY (f := pairOf) (wr_list (El.er' (el_split (er_var rfl (Rp.mono e1 h_text)) (er_s " ") (by decide +kernel) (sz_of (by omega))))) (by omega) fun a v H1 ha e1 hv Q q => gb_name (q _ H1 (Ex.refl _) rfl (er_f1 (er_var rfl hv) (hl3 a ha)))))) fun v H2 e2 h_found => ?_
    generalize (Txt.split z " ").map pairOf = l at h_found en
    have et : EvT (tTest (tOp (Jg.rNonIn K) (tC .non) (tVar 1))) (List.set (L2.start ["text", "found", "word"] [x]) 1 (some v)) H2 (l.any Option.isNone) := et_t (K := K) (er_nonIn (as := l) mixP nP fun H3 e3 Q q => by
      obtain ⟨p, xs, rfl, g1, g2⟩ := Rp.mono e3 h_found
      exact ⟨_, rfl, q p xs H3 (Ex.refl _) (.inr g1) g2⟩)
    refine r_ret (K := K) (er_if (a := pairsOf z) et (fun hb => ?_) fun hb => ?_) fun v H3 e3 hv => q v H3 ((e1.trans e2).trans e3) hv
    · rw [en, if_pos hb]
      exact er_no
    · rw [en, if_neg (by rw [hb]; exact Bool.false_ne_true)]
      refine Er.some' (er_var rfl ?_)
      obtain ⟨p, xs, rfl, g1, g2⟩ := h_found
      exact ⟨p, xs, rfl, g1, pd_some g2 hb⟩
theorem ok_is_name (T : Tx w K mg) : FnAt P w K mg base 1 (He.fAd K ("is_name", none)) (Pu1 K (fun (z : Str) => z.length ≤ 90000) isName) := by
  have S : FnScope ["word", "sign"] ["word"] (defScope s_is_name) := ⟨rfl, rfl, rfl, by decide +kernel, rfl, by decide +kernel, by decide +kernel⟩
  refine mk0 0 T.f_is_name S (fun _ _ _ _ _ _ us hl => match us, hl with | [_], _ => rfl) (fun vs H Q E h => len1 h) fun cdv A outer s H vs Q E hr h => ?_
  obtain ⟨x, z, rfl, h_word, hl, q⟩ := h
  refine ⟨_, pss_one (ps_ret (pe_and (pe_chain op_le op_le pe_int (pe_callB call_len_str rfl T.z_len (by decide +kernel) (pa_cons (pv 0) pa_nil)) (pe_gi T.i_MOST_SIGNS)) (pe_one (pe_callB (allK (K := K) rfl rfl) rfl T.z_all (by decide +kernel) (pa_cons (pe_lc (own := [("sign", 1)]) (g := gName 1) (tt := tYes) rfl S.nd (pi_str (pv 0)) (blkOk_by (N := ["word", "sign"]) (sc := defScope s_is_name) (own := [("sign", 1)]) (by decide +kernel)) (fun _ _ _ _ _ => pg_name (i := 1) S.nd rfl (Or.inl rfl)) (fun _ _ _ _ _ => pts_nil) (fun _ _ _ _ _ => pe_cmpR op_in_sign (pv 1) (pe_gs T.s_SMALL) rfl)) pa_nil))))), ?_⟩
  refine r_ret (K := K) (er_andV (er_chain (K := K) (er_i 1) (er_lenS (er_var rfl h_word) (len_sz hl)) (er_i 8) (fun _ => rv_I0) (fun _ => rv_I0)) fun _ => er_all (el_lcY (f := fun s => decide (s.cps.toList.headD 0 ∈ ("abcdefghijklmnopqrstuvwxyz" : Str).cps.toList)) (wr_str (er_var rfl h_word)) (len_signs hl) fun a v H1 ha e1 hv Q q => gb_name (q _ H1 (Ex.refl _) rfl (er_signIn (er_var rfl hv) (sign_one ha) (er_s _))))) fun v H1 e1 hv => q v H1 e1 ?_
  rw [signs_all z smB _ fun c => rfl] at hv
  exact hv
theorem mapI {H : Hp} {v : V} {o : Option Int} (h : r K H v o) : r K H v (o.map Val.i) := by cases o <;> exact h
theorem mapP {H : Hp} {v : V} {o : Option (List (Int × Option Int))} (h : r K H v o) : r K H v (o.map Val.p) := by cases o <;> exact h
theorem ok_told_by (T : Tx w K mg) : FnAt P w K mg base 5 (He.fAd K ("told_by", none)) (Pu2 K (fun (_ : Str) (z : Str) => shW z) toldOf) := by
  have S : FnScope ["sort", "word"] ["sort", "word"] (defScope s_told_by) := ⟨rfl, rfl, rfl, by decide +kernel, rfl, by decide +kernel, by decide +kernel⟩
  have G_number_of := ok_number_of (P := P) (base := base) T
  have G_pairs_of := ok_pairs_of (P := P) (base := base) T
  have G_is_name := ok_is_name (P := P) (base := base) T
  refine mk0 4 T.f_told_by S (fun _ _ _ _ _ _ us hl => match us, hl with | [_, _], _ => rfl) (fun vs H Q E h => len2 h) fun cdv A outer s H vs Q E hr h => ?_
  obtain ⟨x, y, s, z, rfl, h_sort, h_word, hl, q⟩ := h
  refine ⟨_, pss_cons (ps_if (pt_cmpR op_eq (pv 0) pe_str (nomark _))
        (pss_one (ps_ret (pe_f G_number_of T.g_number_of hr (by decide) passN (pa_cons (pv 1) pa_nil))))
        (pss_nil))
      (pss_cons (ps_if (pt_cmpR op_eq (pv 0) pe_str (nomark _))
        (pss_one (ps_ret (pe_f G_pairs_of T.g_pairs_of hr (by decide) passN (pa_cons (pv 1) pa_nil))))
        (pss_nil))
      (pss_one (ps_ret (pe_ifExp (pt_val (pe_f G_is_name T.g_is_name hr (by decide) passN (pa_cons (pv 1) pa_nil))) (pv 1) pe_non)))), ?_⟩
  refine r_if (et_t (K := K) (er_eqS (er_var rfl h_sort) (er_s "number"))) (fun hc H1 e1 => ?_) fun hc H1 e1 => ?_
  · have hc' : s = "number" := by simpa using hc
    refine r_ret (K := K) (er_f1 (er_var rfl (Rp.mono e1 h_word)) hl.1) fun v H2 e2 hv => q v H2 (e1.trans e2) ?_
    rw [show toldOf s z = (numberOf z).map .i from if_pos hc']
    exact mapI hv
  · have hc' : ¬ s = "number" := by simpa using hc
    refine r_if (et_t (K := K) (er_eqS (er_var rfl (Rp.mono e1 h_sort)) (er_s "words"))) (fun hd H2 e2 => ?_) fun hd H2 e2 => ?_
    · have hd' : s = "words" := by simpa using hd
      refine r_ret (K := K) (er_f1 (er_var rfl (Rp.mono (e1.trans e2) h_word)) hl) fun v H3 e3 hv => q v H3 ((e1.trans e2).trans e3) ?_
      rw [show toldOf s z = (pairsOf z).map .p from (if_neg hc').trans (if_pos hd')]
      exact mapP hv
    · have hd' : ¬ s = "words" := by simpa using hd
      have en : toldOf s z = if isName z = true then some (.s z) else none := (if_neg hc').trans (if_neg hd')
      refine r_ret (K := K) (er_if (a := toldOf s z) (et_v (K := K) (er_f1 (er_var rfl (Rp.mono (e1.trans e2) h_word)) hl.1)) (fun hb => ?_) fun hb => ?_) fun v H3 e3 hv => q v H3 ((e1.trans e2).trans e3) hv
      · rw [en, if_pos hb]
        exact Er.some' (a := Val.s z) (er_var rfl (Rp.mono (e1.trans e2) h_word))
      · rw [en, if_neg (by rw [hb]; exact Bool.false_ne_true)]
        exact er_no
end
end Js
/-! ### a line's values -/
namespace Js
open PySem PySem.Spec PyProof.Rows L2 Evl SX
open Rp (r)
def wordsOf (z : Str) (sorts : List Str) : List Str := if ("words" : Str) ∈ sorts then Txt.splitMax z " " sorts.length else Txt.split z " "
structure LineOk (z first : Str) (sorts : List Str) (vals : List Val) : Prop where
  len : z.length ≤ 80000
  nl : 10 ∉ z.cps.toList
  fst : (Txt.split z " ")[0]? = some first
  cnt : (wordsOf z sorts).length = sorts.length + 1
  sh : ∀ a ∈ wordsOf z sorts, shW a
  few : sorts.length ≤ 10
  told : (sorts.zip ((wordsOf z sorts).drop 1)).map (fun p => toldOf p.1 p.2) = vals.map some
/-- what FORMS says of the first word -/
def FormK (K : PySem.W.Frag) (first : Str) (sorts : List Str) : Prop := ∃ t : Addr, PySem.W.nsIn K (He.ga K "FORMS") first = some (some (.ref t)) ∧ ∀ H : Hp, SqT K H t (sorts.map V.str)
def spVals (K : PySem.W.Frag) : Sp := fun vs H Q _ => ∃ z first sorts vals, vs = [.str z] ∧ FormK K first sorts ∧ LineOk z first sorts vals ∧
  ∀ p xs H', Ex H H' → H p = none → H' p = some (.lst xs) → Paired (r K H') xs (Val.s first :: vals) → Q (.ref p) H'
section
variable {P : Program} {w : World} {K : PySem.W.Frag} {mg : PySem.Str → Option Value} {base : Heap}
theorem el_slL {α : Type} [Rp α] {as : List α} {n : Nat} {ta tb : TE} {σ H} (ha : Er K ta σ H (Ls.mk as)) (hb : Er K tb σ H n) : El K (tSl (rSlL K) ta (tPart tb) tNoPart) σ H (as.drop n) := fun H1 e1 Q q => ha H1 e1 _ fun v H2 e2 hv => hb H2 (e1.trans e2) _ fun u H3 e3 hu => by
  obtain rfl : u = .int (n : Int) := hu
  obtain ⟨p, xs, rfl, h1, h2⟩ := Rp.mono e3 hv
  refine ⟨_, rfl, p, xs, rfl, h1, fun p2 hp => q p2 _ _ ((e2.trans e3).trans (Ex.new hp)) (fresh_back e2 (fresh_back e3 hp)) upd_same ?_⟩
  have e : cutV xs (some (n : Int)) none = xs.drop n := by
    unfold cutV
    rw [HT.sIx_none, HT.sIx_nat, List.take_of_length_le (by rw [List.length_drop]; omega)]
    by_cases hn : n ≤ xs.length
    · rw [Nat.min_eq_left hn]
    · rw [Nat.min_eq_right (by omega), List.drop_length, List.drop_eq_nil_of_le (by omega)]
  rw [e]
  exact pd_map (pd_drop h2 _) fun _ _ h => Rp.mono (Ex.new hp) h
theorem el_catV {α : Type} [Rp α] {as bs : List α} {p : Addr} {ys : List V} {ta tb : TE} {σ H} (ha : El K ta σ H as) (hb : Ev tb σ H (.ref p)) (hp : H p = some (.lst ys)) (hy : Paired (r K H) ys bs) (hl : as.length + bs.length ≤ sizeLine) : El K (tOp rCat ta tb) σ H (as ++ bs) := fun H1 e1 Q q => ha H1 e1 _ fun p1 xs H2 e2 _ h1 h2 => hb H2 (e1.trans e2) _ fun H3 e3 =>
  ⟨p1, p, xs, ys, rfl, rfl, e3 _ _ h1, e3 _ _ (e2 _ _ (e1 _ _ hp)), by rw [pd_len h2, pd_len hy]; exact hl, fun q2 hq => q q2 _ _ ((e2.trans e3).trans (Ex.new hq)) (fresh_back e2 (fresh_back e3 hq)) upd_same
    (pd_app (pd_map h2 fun _ _ h => Rp.mono (e3.trans (Ex.new hq)) h) (pd_map hy fun _ _ h => Rp.mono (((e1.trans e2).trans e3).trans (Ex.new hq)) h))⟩
theorem er_isStr {z : Str} {ta : TE} {σ H} (ha : Er K ta σ H z) : Er K (tCB (rIsi K) (tCons ta (tCons (tC (.ty "str")) tNil))) σ H true := er_isS ha
theorem er_ninKD {d : Addr} {z : Str} {u : Value} {ta : TE} {σ H} (ha : Er K ta σ H z) (h : PySem.W.nsIn K d z = some (some u)) : Er K (tOp (fun x y H Q => ∃ (z : Str) (r : Option Value), x = .str z ∧ y = .ref d ∧ PySem.W.nsIn K d z = some r ∧ Q (.bl (!r.isSome)) H) ta (tC (.ref d))) σ H false := fun H1 e1 Q q => ha.evS H1 e1 _ fun H2 e2 => ⟨z, _, rfl, rfl, h, q _ H2 e2 rfl⟩
theorem er_ixKD {d t : Addr} {es n} {z : Str} {sorts : List Str} {ta : TE} {σ H} (D : KDict K w d es n) (ha : Er K ta σ H z) (h : PySem.W.nsIn K d z = some (some (.ref t))) (hs : ∀ H, SqT K H t (sorts.map V.str)) : Er K (tOp (rIxD K w) (tC (.ref d)) ta) σ H sorts := fun H1 e1 Q q => ha.evS H1 e1 _ fun H2 e2 =>
  ⟨d, z, .ref t, rfl, rfl, ⟨es, n, .ref t, D.at_, D.lit, h, rfl⟩, q _ H2 e2 ⟨t, _, rfl, hs H2, pd_of (F := r K H2) (f := V.str) (fun b => (rfl : V.str b = V.str b)) _⟩⟩
theorem pd_somes {α : Type} [Rp α] {H : Hp} {bs : List α} {xs : List V} (h : Paired (r K H) xs (bs.map some)) : Paired (r K H) xs bs := by
  have := pd_some h (by rw [List.any_eq_false]; intro o ho; obtain ⟨b, _, rfl⟩ := List.mem_map.mp ho; simp)
  rwa [List.filterMap_map, show (id ∘ some : α → Option α) = some from rfl, List.filterMap_some] at this
theorem ok_values_of (T : Tx w K mg) : FnAt P w K mg base 6 (He.fAd K ("values_of", none)) (spVals K) := by
  have S : FnScope ["line", "first", "sorts", "words", "found", "sort", "word"] ["line"] (defScope s_values_of) := ⟨rfl, rfl, rfl, by decide +kernel, rfl, by decide +kernel, by decide +kernel⟩
  have G_told_by := ok_told_by (P := P) (base := base) T
  refine mk0 5 T.f_values_of S (fun _ _ _ _ _ _ us hl => match us, hl with | [_], _ => rfl) (fun vs H Q E h => by obtain ⟨_, _, _, _, rfl, _⟩ := h; rfl) fun cdv A outer s H vs Q E hr h => ?_
  obtain ⟨z, first, sorts, vals, rfl, ⟨t, hns, hst⟩, L, q⟩ := h
  obtain ⟨es, n, KD⟩ := T.kd
  refine ⟨_, pss_cons (ps_if (PW.pt (pw_or (pt_not (pt_val (pe_callB (isiK (K := K) rfl) rfl T.z_isinstance (by decide +kernel) (pa_cons (pv 0) (pa_cons (pe_bltn (v := .ty "str") (u := .type "str") rfl T.z_str (by decide +kernel) rfl) pa_nil))))) (pw_or1 (pt_cmpR op_in_sign pe_str (pv 0) rfl))))
        (pss_one (ps_never))
        (pss_nil))
      (pss_cons (ps_set (i := 1) S.nd rfl (Or.inl rfl) (pe_ix (ixL (K := K) rfl) (pe_split (pv 0) pe_str) pe_int (fun _ _ => rfl)))
      (pss_cons (ps_if (pt_cmpR (op_notIn_kd KD) (pv 1) (pe_ga T.g_FORMS) rfl)
        (pss_one (ps_never))
        (pss_nil))
      (pss_cons (ps_set (i := 2) S.nd rfl (Or.inl rfl) (pe_ix ix_kdict (pe_ga T.g_FORMS) (pv 1) (fun _ _ => rfl)))
      (pss_cons (ps_set (i := 3) S.nd rfl (Or.inl rfl) (pe_ifExp (pt_cmpR (inK (K := K) rfl) pe_str (pv 2) rfl) (pe_bm PySem.F.plainAttrs_str PySem.F.slot_str_split PySem.F.type_str_split mt_splitMax (pv 0) (pa_cons pe_str (pa_cons (pe_callB (lenK (K := K) rfl) rfl T.z_len (by decide +kernel) (pa_cons (pv 2) pa_nil)) pa_nil))) (pe_split (pv 0) pe_str)))
      (pss_cons (ps_if (pt_cmpR op_ne (pe_callB (lenK (K := K) rfl) rfl T.z_len (by decide +kernel) (pa_cons (pv 3) pa_nil)) (pe_op op_add (pe_callB (lenK (K := K) rfl) rfl T.z_len (by decide +kernel) (pa_cons (pv 2) pa_nil)) pe_int) (nomark _))
        (pss_one (ps_never))
        (pss_nil))
      (pss_cons (ps_setLc (i := 4) (own := [("sort", 5), ("word", 6)]) (g := gTup K 2 (gCons (gName 5) (gCons (gName 6) gNil))) (tt := tYes) rfl S.nd rfl rfl (sw_true rfl rfl rfl (by decide +kernel)) (Jg.pi_zipM rfl T.z_zip (pa_cons (pv 2) (pa_cons (pe_slice sl_list (pv 3) (po_some pe_int) po_none) pa_nil))) (blkOk_by (N := ["line", "first", "sorts", "words", "found", "sort", "word"]) (sc := defScope s_values_of) (own := [("sort", 5), ("word", 6)]) (by decide +kernel)) (fun _ _ _ _ _ => pg_tup rfl (pgs_cons (pg_name (i := 5) S.nd rfl (Or.inl rfl)) (pgs_cons (pg_name (i := 6) S.nd rfl (Or.inl rfl)) pgs_nil))) (fun _ _ _ _ _ => pts_nil) (fun _ _ _ _ _ => pe_f G_told_by T.g_told_by hr (by decide) passN (pa_cons (pv 5) (pa_cons (pv 6) pa_nil))))
      (pss_cons (ps_if (pt_cmpR (nonK (K := K) rfl hr.units) pe_non (pv 4) rfl)
        (pss_one (ps_never))
        (pss_nil))
      (pss_one (ps_ret (pe_op op_cat (pe_lst (pa_cons (pv 1) pa_nil)) (pv 4))))))))))), ?_⟩
  have nl : ("\n" : Str) = ⟨#[10]⟩ := by decide +kernel
  have hz : ∀ {H : Hp}, r K H (.str z) z := rfl
  refine r_if (et_or (et_not (et_v (K := K) (er_isS (er_var (a := z) rfl rfl)))) fun _ => et_t (K := K) (er_inSign (k := 10) ((er_s _).is nl) (er_var (a := z) rfl rfl))) (fun hc H1 e1 => ?_) fun hc H1 e1 => ?_
  · simp [L.nl] at hc
  refine r_set (K := K) (er_ixL (a := first) (j := 0) (El.er' (el_split (er_var (a := z) rfl rfl) (er_s " ") (by decide +kernel) (sz_of (by have := L.len; omega)))) (er_i 0) rfl L.fst) fun v H2 e2 h_first => ?_
  obtain rfl : v = .str first := h_first
  refine r_if (et_t (K := K) (er_ninKD (er_var (a := first) rfl rfl) hns)) (fun hc => by cases hc) fun _ H3 e3 => ?_
  refine r_set (K := K) (er_ixKD KD (er_var (a := first) rfl rfl) hns hst) fun v H4 e4 h_sorts => ?_
  refine r_set (K := K) (er_if (a := Ls.mk (wordsOf z sorts)) (et_t (K := K) (er_inST (er_s "words") (er_var rfl h_sorts))) (fun hb => ?_) fun hb => ?_) fun v2 H5 e5 h_words => ?_
  · rw [show wordsOf z sorts = Txt.splitMax z " " sorts.length from if_pos (of_decide_eq_true hb)]
    exact El.er' (el_splitMax (er_var (a := z) rfl rfl) (er_s " ") (er_lenT (er_var rfl h_sorts)) (by decide +kernel) ⟨by omega, by have := L.few; omega⟩ (sz_of (by have := L.len; omega)))
  · rw [show wordsOf z sorts = Txt.split z " " from if_neg (of_decide_eq_false hb)]
    exact El.er' (el_split (er_var (a := z) rfl rfl) (er_s " ") (by decide +kernel) (sz_of (by have := L.len; omega)))
  refine r_if (et_t (K := K) (er_neI (er_lenL (er_var rfl h_words)) (er_II (er_lenT (er_var rfl (Rp.mono e5 h_sorts))) (er_i 1)))) (fun hc H6 e6 => ?_) fun _ H6 e6 => ?_
  · have := L.cnt
    simp [this] at hc
  refine r_setL (K := K) (el_lcY (f := fun p : Str × Str => toldOf p.1 p.2) (wr_zip (er_var rfl (Rp.mono (e5.trans e6) h_sorts)) (El.er' (el_slL (er_var rfl (Rp.mono e6 h_words)) (er_n 1)))) ?_ fun a v H1 ha e1 hv Q q => gb_pair hv fun x y hx hy => q _ _ (Ex.refl _) rfl (er_f2 (er_var rfl hx) (er_var rfl hy) ?_)) fun p xs H7 e7 hn h1 h2 => ?_
  · rw [List.length_zip]
    have := L.few
    omega
  · exact L.sh _ (List.mem_of_mem_drop (List.of_mem_zip ha).2)
  rw [L.told] at h2
  have et : EvT (tTest (tOp (Jg.rNonIn K) (tC .non) (tVar 4))) (List.set (List.set (List.set (List.set (L2.start ["line", "first", "sorts", "words", "found", "sort", "word"] [.str z]) 1 (some (.str first))) 2 (some v)) 3 (some v2)) 4 (some (.ref p))) H7 false := et_is (et_t (K := K) (er_nonIn (as := vals.map some) mixV nVal fun H3 e3 Q q => ⟨_, rfl, q p xs H3 (Ex.refl _) (.inl (sq_of (e3 _ _ h1))) (pd_map h2 fun _ _ h => Rp.mono e3 h)⟩)) (by rw [List.any_eq_false]; intro o ho; obtain ⟨b, _, rfl⟩ := List.mem_map.mp ho; simp)
  refine r_if et (fun hc => by cases hc) fun _ H8 e8 => ?_
  refine el_catV (as := [Val.s first]) (el_1 (er_var (a := Val.s first) rfl rfl)) (ev_var rfl) (e8 _ _ h1) (pd_map (pd_somes h2) fun _ _ h => Rp.mono e8 h) ?_ H8 (Ex.refl _) _ fun p2 ys H9 e9 hn2 g1 g2 => ?_
  · have : (vals.map some).length = (sorts.zip ((wordsOf z sorts).drop 1)).length := by rw [← L.told, List.length_map]
    rw [List.length_map, List.length_zip] at this
    have := L.few
    exact sz_of (by simp; omega)
  · have ee := (((((((e1.trans e2).trans e3).trans e4).trans e5).trans e6).trans e7).trans e8)
    exact q p2 ys H9 (ee.trans e9) (fresh_back ee hn2) g1 g2
end
end Js
/-! ### feeds, versions -/
namespace Js
open PySem PySem.Spec PyProof.Rows L2 Evl SX
open Rp (r)
structure FeedD where
  b : List (List (Int × Option Int))
  k : List Int
instance : Rp FeedD := ⟨fun K H v f => ∃ p dx vb vk, v = .ref p ∧ H p = some (.ins (He.ga K "Feed") dx [("batches", vb), ("kept", vk)]) ∧ r K H vb f.b ∧ r K H vk f.k,
  fun e ⟨p, dx, vb, vk, h1, h2, h3, h4⟩ => ⟨p, dx, vb, vk, h1, e _ _ h2, Rp.mono e h3, Rp.mono e h4⟩⟩
/-- all but what stands at p stays -/
def Kp (p : Addr) (H H' : Hp) : Prop := ∀ a o, a ≠ p → H a = some o → H' a = some o
theorem Kp.upd {p : Addr} {H : Hp} {o : HO} : Kp p H (upd H p o) := fun a u h e => by rw [upd_ne h]; exact e
theorem Kp.trans {p : Addr} {H H1 H2 : Hp} (a : Kp p H H1) (b : Kp p H1 H2) : Kp p H H2 := fun x o h e => b x o h (a x o h e)
theorem Ex.kp {p : Addr} {H H' : Hp} (e : Ex H H') : Kp p H H' := fun a o _ h => e a o h
theorem Kp.ex {p : Addr} {B H H' : Hp} (e : Ex B H) (h : B p = none) (k : Kp p H H') : Ex B H' := fun a o z => k a o (fun q => by rw [q, h] at z; cases z) (e a o z)
def feedOk (b : List (List (Int × Option Int))) (k : List Int) : Prop := 1 ≤ b.length ∧ b.length ≤ 40 ∧ (∀ x ∈ b, x.length < 100000 ∧ batchB x = true) ∧ ascB 0 ((b.length : Int) - 1) k = true
def spFeed (K : PySem.W.Frag) : Sp := fun vs H Q _ => ∃ x dx vb vk b k, vs = [.ref x, vb, vk] ∧ H x = some (.ins (He.ga K "Feed") dx []) ∧ r K H vb b ∧ r K H vk k ∧ feedOk b k ∧ ∀ H', Kp x H H' → H' x = some (.ins (He.ga K "Feed") dx [("batches", vb), ("kept", vk)]) → Q .non H'
section
variable {P : Program} {w : World} {K : PySem.W.Frag} {mg : PySem.Str → Option Value} {base : Heap}
theorem r_fld {p C dx : Addr} {fs : List (Str × V)} {f : Str} {v : V} {ta tv : TE} {D : Ends} {σ H} {α : Type} [Rp α] {a : α} (hv : Er K tv σ H a) (ho : ∀ H1, Ex H H1 → Ev ta σ H1 (.ref p)) (hp : H p = some (.ins C dx fs)) (hc : Cls K C) (hn : NoAttr K C f) (hl : fs.length < 1000)
    (k : ∀ y H1, Ex H H1 → r K H1 y a → D.nx σ (upd H1 p (.ins C dx (putF f y fs)))) : sFld K ta tv f D σ H := hv H (Ex.refl H) _ fun y H1 e1 hy => ho H1 e1 H1 (Ex.refl _) _ fun H2 e2 => ⟨p, C, dx, fs, rfl, e2 _ _ (e1 _ _ hp), hc, hn, hl, k y H2 (e1.trans e2) (Rp.mono e2 hy)⟩
theorem r_fldV {p C dx : Addr} {fs : List (Str × V)} {f : Str} {v : V} {ta tv : TE} {D : Ends} {σ H} (hv : Ev tv σ H v) (ho : Ev ta σ H (.ref p)) (hp : H p = some (.ins C dx fs)) (hc : Cls K C) (hn : NoAttr K C f) (hl : fs.length < 1000)
    (k : ∀ H1, Ex H H1 → D.nx σ (upd H1 p (.ins C dx (putF f v fs)))) : sFld K ta tv f D σ H := hv H (Ex.refl H) _ fun H1 e1 => ho H1 e1 _ fun H2 e2 => ⟨p, C, dx, fs, rfl, e2 _ _ (e1 _ _ hp), hc, hn, hl, k H2 (e1.trans e2)⟩
theorem er_feedB (T : Tx w K mg) {f : FeedD} {ta : TE} {σ H} (ha : Er K ta σ H f) : Er K (tFld K ta "batches") σ H f.b := fun H1 e1 Q q => ha H1 e1 _ fun v H2 e2 hv => by
  obtain ⟨p, dx, vb, vk, rfl, h1, h2, h3⟩ := hv
  exact ⟨p, _, dx, _, vb, rfl, h1, T.c_Feed, T.n_Feed_batches, rfl, q _ H2 e2 h2⟩
theorem er_feedK (T : Tx w K mg) {f : FeedD} {ta : TE} {σ H} (ha : Er K ta σ H f) : Er K (tFld K ta "kept") σ H f.k := fun H1 e1 Q q => ha H1 e1 _ fun v H2 e2 hv => by
  obtain ⟨p, dx, vb, vk, rfl, h1, h2, h3⟩ := hv
  exact ⟨p, _, dx, _, vk, rfl, h1, T.c_Feed, T.n_Feed_kept, rfl, q _ H2 e2 h3⟩
theorem er_newFeed {E : L2.St → XK} {b : List (List (Int × Option Int))} {k : List Int} {ta tb : TE} {σ H} (ha : Er K ta σ H b) (hb : Er K tb σ H k) (ok : feedOk b k) : Er K (tO (He.ga K "Feed") (spFeed K) E (tCons ta (tCons tb tNil))) σ H (FeedD.mk b k) := fun H1 e1 Q q => ha H1 e1 _ fun v H2 e2 hv => hb H2 (e1.trans e2) _ fun u H3 e3 hu => fun x dx nx ndx ne => by
  have e4 : Ex H3 (upd (upd H3 dx (.own x)) x (.ins (He.ga K "Feed") dx [])) := Ex.mut (Ex.new ndx) nx
  refine ⟨x, dx, v, u, b, k, rfl, upd_same, Rp.mono (e3.trans e4) hv, Rp.mono e4 hu, ok, fun H' kp hx => ⟨rfl, ?_⟩⟩
  have e5 : Ex H3 H' := Kp.ex e4 nx kp |> fun z => z
  exact q _ H' ((e2.trans e3).trans e5) ⟨x, dx, v, u, rfl, hx, Rp.mono (e3.trans e5) hv, Rp.mono e5 hu⟩
theorem ok_Feed_init (T : Tx w K mg) : FnAt P w K mg base 6 (He.fAd K ("Feed", some "__init__")) (spFeed K) := by
  have S : FnScope ["self", "batches", "kept", "hour", "batch"] ["self", "batches", "kept"] (defScope s_Feed_init) := ⟨rfl, rfl, rfl, by decide +kernel, rfl, by decide +kernel, by decide +kernel⟩
  have G_is_batch := ok_is_batch (P := P) (base := base) T
  have G_is_ascending := ok_is_ascending (P := P) (base := base) T
  refine mk0 5 T.f_Feed_init S (fun _ _ _ _ _ _ us hl => match us, hl with | [_, _, _], _ => rfl) (fun vs H Q E h => by obtain ⟨_, _, _, _, _, _, rfl, _⟩ := h; rfl) fun cdv A outer s H vs Q E hr h => ?_
  obtain ⟨x, dx, vb, vk, b, k, rfl, hx, h_batches, h_kept, ⟨o1, o2, o3, o4⟩, q⟩ := h
  refine ⟨_, pss_cons (ps_if (PW.pt (pw_or (pt_not (pt_val (pe_callB (isiK (K := K) rfl) rfl T.z_isinstance (by decide +kernel) (pa_cons (pv 1) (pa_cons (pe_bltn (v := .ty "tuple") (u := .type "tuple") rfl T.z_tuple (by decide +kernel) rfl) pa_nil))))) (pw_or1 (pt_not (pt_chain op_le op_le pe_int (pe_callB (lenK (K := K) rfl) rfl T.z_len (by decide +kernel) (pa_cons (pv 1) pa_nil)) (pe_gi T.i_MOST_HOURS_feeds))))))
        (pss_one (ps_never))
        (pss_nil))
      (pss_cons (ps_for PassesOwn.never rfl (Jg.pi_enumT rfl T.z_enumerate (pa_cons (pv 1) pa_nil)) (pg_tup rfl (pgs_cons (pg_name (i := 3) S.nd rfl (Or.inl rfl)) (pgs_cons (pg_name (i := 4) S.nd rfl (Or.inl rfl)) pgs_nil)))
        (pss_one (ps_if (pt_not (pt_val (pe_f G_is_batch T.g_is_batch hr (by decide) passN (pa_cons (pv 4) pa_nil))))
          (pss_one (ps_never))
          (pss_nil))))
      (pss_cons (ps_if (pt_not (pt_val (pe_f G_is_ascending T.g_is_ascending hr (by decide) passN (pa_cons (pv 2) (pa_cons pe_int (pa_cons (pe_op op_sub (pe_callB (lenK (K := K) rfl) rfl T.z_len (by decide +kernel) (pa_cons (pv 1) pa_nil)) pe_int) pa_nil))))))
        (pss_one (ps_never))
        (pss_nil))
      (pss_cons (ps_fld (pv 0) (pv 1) rfl)
      (pss_one (ps_fld (pv 0) (pv 2) rfl))))), ?_⟩
  refine r_if (et_or (et_not (et_v (K := K) (er_isT (er_var rfl h_batches)))) fun _ => et_not (et_chain (K := K) (er_i 1) (er_lenT (er_var rfl h_batches)) (er_i 40) (fun _ => rv_I0) (fun _ => rv_I0))) (fun hc H1 e1 => ?_) fun hc H1 e1 => ?_
  · simp at hc
    omega
  refine r_forET (K := K) (er_var rfl (Rp.mono e1 h_batches)) fun H2 e2 => ⟨fun i σ' H' => Ex H2 H' ∧ ∃ n1 n2, σ' = [some (.ref x), some vb, some vk, n1, n2], ⟨Ex.refl _, none, none, rfl⟩, fun n σ' H' pv => Js.Ex.t pv.1, ?_, ?_⟩
  · rintro n a u σ' H' H'' ha ⟨eH, n1, n2, rfl⟩ e3 hu
    have hb := o3 a (List.mem_of_getElem? ha)
    refine r_if (et_not (et_v (K := K) (er_f1 (er_var rfl hu) hb.1))) (fun hc H4 e4 => ?_) fun hc H4 e4 => ⟨(eH.trans e3).trans e4, _, _, rfl⟩
    rw [hb.2] at hc
    cases hc
  · rintro σ' H' ⟨eH, n1, n2, rfl⟩
    have eA := (e1.trans e2).trans eH
    refine r_if (et_not (et_v (K := K) (er_f3 (er_var rfl (Rp.mono eA h_kept)) (er_i 0) (er_II (er_lenT (er_var rfl (Rp.mono eA h_batches))) (er_i 1)) trivial))) (fun hc H4 e4 => ?_) fun hc H4 e4 => ?_
    · rw [show ascB 0 (↑b.length - 1) k = true from o4] at hc
      cases hc
    have eB := eA.trans e4
    refine r_fldV (ev_var rfl) (ev_var rfl) (eB _ _ hx) T.c_Feed T.n_Feed_batches (by decide) fun H5 e5 => ?_
    refine r_fldV (ev_var rfl) (ev_var rfl) upd_same T.c_Feed T.n_Feed_kept (by show (1 : Nat) < 1000; decide) fun H6 e6 => ?_
    exact q _ ((((Ex.kp (eB.trans e5)).trans Kp.upd).trans (Ex.kp e6)).trans Kp.upd) upd_same
/-- without the struck ones ahead -/
def struckL (l : List (Int × Option Int)) : List (Int × Option Int) := l.dropWhile fun x => x.2.isNone
theorem ok_without_struck (T : Tx w K mg) : FnAt P w K mg base 1 (He.fAd K ("without_struck", none)) (Pl1 K (fun (_ : Ls (Int × Option Int)) => True) fun l => struckL l.l) := by
  have S : FnScope ["versions", "at", "version"] ["versions"] (defScope s_without_struck) := ⟨rfl, rfl, rfl, by decide +kernel, rfl, by decide +kernel, by decide +kernel⟩
  refine mk0 0 T.f_without_struck S (fun _ _ _ _ _ _ us hl => match us, hl with | [_], _ => rfl) (fun vs H Q E h => lenl1 h) fun cdv A outer s H vs Q E hr h => ?_
  obtain ⟨x, ⟨l⟩, rfl, h_versions, -, q⟩ := h
  refine ⟨_, pss_cons (ps_for PassesOwn.never rfl (pi_enum rfl T.z_enumerate (pa_cons (pv 0) pa_nil)) (pg_tup rfl (pgs_cons (pg_name (i := 1) S.nd rfl (Or.inl rfl)) (pgs_cons (pg_name (i := 2) S.nd rfl (Or.inl rfl)) pgs_nil)))
        (pss_one (ps_if (pt_cmpR op_notN (pe_ix (ixT (K := K) rfl) (pv 2) pe_int (fun _ _ => rfl)) pe_non (nomark _))
          (pss_one (ps_ret (pe_slice sl_list (pv 0) (po_some (pv 1)) po_none)))
          (pss_nil))))
      (pss_one (ps_ret (pe_lst pa_nil))), ?_⟩
  dsimp only at q
  refine r_forEL (K := K) (er_var rfl h_versions) fun p0 xs0 H2 e2 hs => ⟨fun i σ' H' => Ex H2 H' ∧ ∃ n1 n2, σ' = [some x, n1, n2] ∧ struckL l = struckL (l.drop i), ⟨Ex.refl _, none, none, rfl, by simp⟩, fun n σ' H' pv => ⟨Js.Ex.t pv.1, ex_l pv.1 hs⟩, ?_, ?_⟩
  · rintro n ⟨k, o⟩ u σ' H' H'' ha ⟨eH, n1, n2, rfl, hq⟩ e3 hu
    have hd : l.drop n = (k, o) :: l.drop (n + 1) := by
      obtain ⟨hi, e⟩ := List.getElem?_eq_some_iff.mp ha
      rw [List.drop_eq_getElem_cons hi, e]
    rw [hd] at hq
    have eA := (e2.trans eH).trans e3
    refine r_if (et_t (K := K) (er_notN (o := o) nI (er_snd (er_var rfl hu)))) (fun hc H4 e4 => ?_) fun hc H4 e4 => ?_
    · refine el_slL (n := n) (er_var rfl (Rp.mono (eA.trans e4) h_versions)) (er_var (a := n) rfl rfl) H4 (Ex.refl _) _ fun p xs H5 e5 hn h1 h2 => q p xs H5 ((eA.trans e4).trans e5) (fresh_back (eA.trans e4) hn) h1 ?_
      have : struckL l = l.drop n := by
        rw [hq, hd]
        unfold struckL
        rw [List.dropWhile_cons_of_neg]
        cases o <;> simp_all
      rw [this]
      exact h2
    · refine ⟨(eH.trans e3).trans e4, _, _, rfl, ?_⟩
      rw [hq]
      unfold struckL
      rw [List.dropWhile_cons_of_pos]
      cases o <;> simp_all
  · rintro σ' H' ⟨eH, n1, n2, rfl, hq⟩
    rw [List.drop_length] at hq
    refine el_0 (α := Int × Option Int) (K := K) (σ := [some x, n1, n2]) H' (Ex.refl _) _ fun p xs H5 e5 hn h1 h2 => q p xs H5 ((e2.trans eH).trans e5) (fresh_back (e2.trans eH) hn) h1 ?_
    rw [show struckL l = [] from hq]
    exact h2
/-- at each mark the last version up to it, each once -/
def needS (l : List (Int × Option Int)) (acc : List (Int × Option Int)) (m : Int) : List (Int × Option Int) := match (l.filter fun x => decide (x.1 ≤ m)).getLast? with
  | none => acc
  | some x => if x ∈ acc then acc else acc ++ [x]
def needL (l : List (Int × Option Int)) (ms : List Int) : List (Int × Option Int) := ms.foldl (needS l) []
theorem er_notInP {x : Int × Option Int} {l : List (Int × Option Int)} {ta tb : TE} {σ H} (ha : Er K ta σ H x) (hb : Er K tb σ H (Ls.mk l)) (hl : SeqAt.shaped (.list (l.map pdP)) = true) : Er K (tOp (L2.rNotInD K) ta tb) σ H (!decide (x ∈ l)) := fun H1 e1 Q q => ha H1 e1 _ fun v H2 e2 hv => hb H2 (e1.trans e2) _ fun u H3 e3 hu => by
  obtain ⟨p, xs, rfl, h1, h2⟩ := hu
  refine ⟨pdP x, l.map pdP, dp_P (Rp.mono e3 hv), .lst h1 (dp_all h2), shaped_P x, hl, q _ H3 (e2.trans e3) ?_⟩
  show V.bl _ = V.bl _
  congr 2
  rw [List.any_map]
  have : ((fun z => PyData.eqv z (pdP x)) ∘ pdP) = fun y => decide (y = x) := funext fun y => eqv_P y x
  rw [this]
  by_cases h : x ∈ l
  · simp [h]
  · simp [h]
    rintro a b hm rfl
    exact h hm
theorem notInDK {X : Cx} (h : X.K = K) (hu : X.A.units + 65 < cLine) : OpR X (compareOp .NotIn) (L2.rNotInD K) := h ▸ op_notInD hu
theorem depth_P (x : Int × Option Int) : (pdP x).depth = 1 := by
  obtain ⟨k, o⟩ := x
  cases o <;> rfl
theorem shaped_L (l : List (Int × Option Int)) : SeqAt.shaped (.list (l.map pdP)) = true := by
  have h1 : PyData.canLayAll0 (l.map pdP) = true := by
    induction l with
    | nil => rfl
    | cons x l ih =>
      show (PyData.canLay0 (pdP x) && PyData.canLayAll0 (l.map pdP)) = true
      rw [ih, SeqAt.canLay_of_shaped (shaped_P x)]
      rfl
  have h2 : PyData.depthAll (l.map pdP) ≤ 1 := by
    clear h1
    induction l with
    | nil => exact Nat.zero_le _
    | cons x l ih =>
      show max (PyData.depth (pdP x)) (PyData.depthAll (l.map pdP)) ≤ 1
      rw [depth_P]
      exact Nat.max_le.mpr ⟨Nat.le_refl _, ih⟩
  show (PyData.canLayAll0 (l.map pdP) && decide (PyData.depthAll (l.map pdP) + 1 ≤ 64)) = true
  rw [h1, Bool.true_and, decide_eq_true_eq]
  omega
theorem units65 {k : Nat} {A : Around} (r : Room k A) : A.units + 65 < cLine := by
  have := r.un
  omega
theorem getLast_at {α : Type} {l : List α} {x : α} (h : l.getLast? = some x) : l[l.length - 1]? = some x := by rw [← h, List.getLast?_eq_getElem?]
/-- xs.append(e) of a datum -/
theorem r_app {α : Type} [Rp α] {a : α} {l : Addr} {xs : List V} {ta te : TE} {D : Ends} {σ H} (hl : H l = some (.lst xs)) (ha : Ev ta σ H (.ref l)) (h : Er K te σ H a) (hz : xs.length < 100000) (k : ∀ v H1, Ex H H1 → r K H1 v a → D.nx σ (upd H1 l (.lst (xs ++ [v])))) :
    tDrop (tBM K "list" rAppend ta (tCons te tNil)) D σ H := ha H (Ex.refl H) _ fun H1 e1 =>
  ⟨Or.inl ⟨rfl, xs, sq_of (e1 l _ hl)⟩, h H1 e1 _ fun v H2 e2 hv => ⟨l, xs, v, rfl, rfl, e2 l _ (e1 l _ hl), sz_lt hz, k v H2 (e1.trans e2) hv⟩⟩
theorem kp_t {p : Addr} {H H' : Hp} {xs : List V} (k : Kp p H H') (h : H p = some (.lst xs)) : ExT H H' := fun K q zs hs => by
  rcases hs with (hs | ⟨o, hs⟩) | hs
  · exact .inl (.inl (k _ _ (fun z => by rw [z, h] at hs; cases hs) hs))
  · exact .inl (.inr ⟨o, k _ _ (fun z => by rw [z, h] at hs; cases hs) hs⟩)
  · exact .inr hs
theorem r_forLV {α : Type} [Rp α] [RpT α] {as : List α} {t : TS} {D : Ends} {g : TG} {te : TE} {p : Addr} {xs : List V} {σ H} (hv : Ev te σ H (.ref p)) (h1 : SqL K H p xs) (h2 : Paired (r K H) xs as) (k : ∀ H1, Ex H H1 → ∃ Pv : Nat → L2.St → Hp → Prop, Pv 0 σ H1 ∧ (∀ i σ' H', Pv i σ' H' → ExT H1 H' ∧ SqL K H' p xs) ∧
    (∀ i a v σ' H', as[i]? = some a → r K H' v a → Pv i σ' H' → g v σ' H' fun σ2 H2 => t { D with nx := Pv (i + 1), ct := Pv (i + 1), bk := D.nx } σ2 H2) ∧ ∀ σ' H', Pv as.length σ' H' → D.nx σ' H') : tFor (iList K te) g t D σ H := hv H (Ex.refl H) _ fun H1 e1 => by
  obtain ⟨Pv, p0, pe, ps, pd⟩ := k H1 e1
  refine ⟨p, rfl, ⟨xs, ex_l e1 h1⟩, for_list (xs := xs) Pv p0 (fun i σ' H' _ pv => (pe i σ' H' pv).2) (fun i x σ' H' hx pv => ?_) fun σ' H' pv => pd σ' H' (by rw [← pd_len h2]; exact pv)⟩
  obtain ⟨a, ha, hr⟩ := pd_get h2 hx
  exact ps i a x σ' H' ha (RpT.t (pe i σ' H' pv).1 (Rp.mono e1 hr)) pv
theorem needS_none {l acc : List (Int × Option Int)} {m : Int} (h : (l.filter fun x => decide (x.1 ≤ m)).getLast? = none) : needS l acc m = acc := by unfold needS; rw [h]
theorem needS_new {l acc : List (Int × Option Int)} {m : Int} {z : Int × Option Int} (h : (l.filter fun x => decide (x.1 ≤ m)).getLast? = some z) (hz : ¬ z ∈ acc) : needS l acc m = acc ++ [z] := by unfold needS; rw [h]; exact if_neg hz
theorem needS_in {l acc : List (Int × Option Int)} {m : Int} {z : Int × Option Int} (h : (l.filter fun x => decide (x.1 ≤ m)).getLast? = some z) (hz : z ∈ acc) : needS l acc m = acc := by unfold needS; rw [h]; exact if_pos hz
theorem needS_len {l acc : List (Int × Option Int)} {m : Int} : (needS l acc m).length ≤ acc.length + 1 := by
  unfold needS
  split
  · omega
  · split
    · omega
    · simp
theorem take_fold {α β : Type} {f : β → α → β} {b : β} {l : List α} {i : Nat} {a : α} (h : l[i]? = some a) : (l.take (i + 1)).foldl f b = f ((l.take i).foldl f b) a := by
  rw [List.take_add_one, h, List.foldl_append]
  rfl
theorem need_len {l : List (Int × Option Int)} : ∀ {ms : List Int} {acc : List (Int × Option Int)}, (ms.foldl (needS l) acc).length ≤ acc.length + ms.length
  | [], acc => by simp
  | m :: ms, acc => by
    have h1 := needS_len (l := l) (acc := acc) (m := m)
    have h2 := need_len (l := l) (ms := ms) (acc := needS l acc m)
    rw [List.foldl_cons, List.length_cons]
    omega
theorem ok_needed_of (T : Tx w K mg) : FnAt P w K mg base 1 (He.fAd K ("needed_of", none)) (Pl2 K (fun (l : Ls (Int × Option Int)) (ms : Ls Int) => l.l.length < 100000 ∧ ms.l.length < 1000) fun l ms => needL l.l ms.l) := by
  have S : FnScope ["versions", "marks", "found", "mark", "some", "version"] ["versions", "marks"] (defScope s_needed_of) := ⟨rfl, rfl, rfl, by decide +kernel, rfl, by decide +kernel, by decide +kernel⟩
  refine mk0 0 T.f_needed_of S (fun _ _ _ _ _ _ us hl => match us, hl with | [_, _], _ => rfl) (fun vs H Q E h => lenl2 h) fun cdv A outer s H vs Q E hr h => ?_
  obtain ⟨x, y, ⟨l⟩, ⟨ms⟩, rfl, h_versions, h_marks, ⟨hl, hms⟩, q⟩ := h
  dsimp only at hl hms q
  refine ⟨_, pss_cons (ps_set (i := 2) S.nd rfl (Or.inl rfl) (pe_lst pa_nil))
      (pss_cons (ps_for PassesOwn.never rfl (pi_list (pv 1)) (pg_name (i := 3) S.nd rfl (Or.inr rfl))
        (pss_cons (ps_setLc (i := 4) (own := [("version", 5)]) (g := gName 5) rfl S.nd rfl rfl (sw_true rfl rfl rfl (by decide +kernel)) (pi_list (pv 0)) (blkOk_by (N := ["versions", "marks", "found", "mark", "some", "version"]) (sc := defScope s_needed_of) (own := [("version", 5)]) (by decide +kernel)) (fun _ _ _ _ _ => pg_name (i := 5) S.nd rfl (Or.inl rfl)) (fun _ _ _ _ _ => pts_one (pt_cmpR op_le (pe_ix (ixT (K := K) rfl) (pv 5) pe_int (fun _ _ => rfl)) (pv 3) (nomark _))) (fun _ _ _ _ _ => pv 5))
        (pss_one (ps_if (PW.pt (pw_and (pt_cmpR op_gt (pe_callB (lenK (K := K) rfl) rfl T.z_len (by decide +kernel) (pa_cons (pv 4) pa_nil)) pe_int (nomark _)) (pw_and1 (pt_cmpR (notInDK (K := K) rfl (units65 hr)) (pe_ix (ixL (K := K) rfl) (pv 4) (pe_un un_neg pe_int) (fun _ _ => rfl)) (pv 2) rfl))))
          (pss_one (ps_expr (pe_bm PySem.F.plainAttrs_list PySem.F.slot_list_append PySem.F.type_list_append mt_append (pv 2) (pa_cons (pe_ix (ixL (K := K) rfl) (pv 4) (pe_un un_neg pe_int) (fun _ _ => rfl)) pa_nil))))
          (pss_nil)))))
      (pss_one (ps_ret (pv 2)))), ?_⟩
  refine r_setL (K := K) (as := ([] : List (Int × Option Int))) el_0 fun p xs H1 e1 hn h1 h2 => ?_
  cases h2
  obtain ⟨pm, xm, rfl, hm1, hm2⟩ := h_marks
  refine r_forLV (ev_var rfl) (ex_l e1 hm1) (pd_map hm2 fun _ _ h => Rp.mono e1 h) fun H2 e2 => ⟨fun i σ' H' => Kp p H2 H' ∧ ∃ xs n1 n2 n3, σ' = [some x, some (.ref pm), some (.ref p), n1, n2, n3] ∧ H' p = some (.lst xs) ∧ Paired (r K H') xs ((ms.take i).foldl (needS l) []), ?_, ?_, ?_, ?_⟩
  · exact ⟨fun _ _ _ h => h, [], none, none, none, rfl, e2 _ _ h1, .nil⟩
  · exact fun i σ' H' pv => ⟨kp_t pv.1 (e2 _ _ h1), ex_l (Kp.ex (e1.trans e2) hn pv.1) hm1⟩
  · rintro i m v σ' H' hi hr ⟨kp, xs, n1, n2, n3, rfl, g1, g2⟩
    obtain rfl : v = .int m := hr
    have eH := Kp.ex (e1.trans e2) hn kp
    have hlen := need_len (l := l) (ms := ms.take i) (acc := [])
    rw [List.length_take, List.length_nil] at hlen
    refine r_set (K := K) (El.er' (el_lc (p := fun x : Int × Option Int => decide (x.1 ≤ m)) (f := id) (wr_list (er_var rfl (Rp.mono eH h_versions))) hl fun a v H1 ha e1 hv Q q => gb_name (q _ H1 (Ex.refl _) rfl (et_t (K := K) (er_IB (g := fun i j => decide (i ≤ j)) (er_fst (er_var rfl hv)) (er_var (a := m) rfl rfl))) fun _ => er_var rfl hv))) fun v H3 e3 h_some => ?_
    rw [List.map_id] at h_some
    have hf : (ms.take (i + 1)).foldl (needS l) [] = needS l ((ms.take i).foldl (needS l) []) m := take_fold hi
    cases hg : (l.filter fun x => decide (x.1 ≤ m)).getLast? with
    | none =>
      have h0 := List.getLast?_eq_none_iff.mp hg
      rw [h0] at h_some
      rw [needS_none hg] at hf
      refine r_if (et_and (b := false) (et_t (K := K) (er_lenGt (er_var rfl h_some))) fun hb => by simp at hb) (fun hb => by simp at hb) fun _ H4 e4 => ?_
      refine ⟨kp.trans (Ex.kp (e3.trans e4)), xs, _, _, _, rfl, e4 _ _ (e3 _ _ g1), ?_⟩
      rw [hf]
      exact pd_map g2 fun _ _ h => Rp.mono (e3.trans e4) h
    | some z =>
      have hz := getLast_at hg
      refine r_if (et_and (et_t (K := K) (er_lenGt (er_var rfl h_some))) fun _ => et_t (K := K) (er_notInP (er_ixLl (er_var rfl h_some) hz) (er_var (a := Ls.mk ((ms.take i).foldl (needS l) [])) rfl ⟨p, xs, rfl, sq_of (e3 _ _ g1), pd_map g2 fun _ _ h => Rp.mono e3 h⟩) (shaped_L _))) (fun hb H4 e4 => ?_) fun hb H4 e4 => ?_
      · have hnz : ¬ z ∈ (ms.take i).foldl (needS l) [] := by
          rw [Bool.and_eq_true] at hb
          simpa using hb.2
        refine r_app (e4 _ _ (e3 _ _ g1)) (ev_var rfl) (er_ixLl (er_var rfl (Rp.mono e4 h_some)) hz) (by rw [pd_len g2]; omega) fun v2 H5 e5 hv2 => ?_
        refine ⟨(kp.trans (Ex.kp ((e3.trans e4).trans e5))).trans Kp.upd, xs ++ [v2], _, _, _, rfl, upd_same, ?_⟩
        have et := ext_lst (u := .lst (xs ++ [v2])) (e5 _ _ (e4 _ _ (e3 _ _ g1)))
        rw [hf, needS_new hg hnz]
        exact pd_app (pd_map g2 fun _ _ h => RpT.t et (Rp.mono ((e3.trans e4).trans e5) h)) (pd_one (RpT.t et hv2))
      · have hnz : z ∈ (ms.take i).foldl (needS l) [] := by
          have h0 : ¬ (l.filter fun x => decide (x.1 ≤ m)) = [] := fun e => by rw [e] at hg; cases hg
          rw [Bool.and_eq_false_iff] at hb
          rcases hb with hb | hb
          · simp [h0] at hb
          · simpa using hb
        refine ⟨kp.trans (Ex.kp (e3.trans e4)), xs, _, _, _, rfl, e4 _ _ (e3 _ _ g1), ?_⟩
        rw [hf, needS_in hg hnz]
        exact pd_map g2 fun _ _ h => Rp.mono (e3.trans e4) h
  · rintro σ' H' ⟨kp, xs, n1, n2, n3, rfl, g1, g2⟩
    rw [List.take_length] at g2
    exact ⟨.ref p, rfl, q p xs H' (Kp.ex (e1.trans e2) hn kp) hn g1 g2⟩
end
end Js
/-! ### versions_of, made_run -/
namespace Js
open PySem PySem.Spec PyProof.Rows L2 Evl SX
open Rp (r)
abbrev PR := Int × Option Int
def insV (al : List (Int × List PR)) (k : Int) (x : PR) : List (Int × List PR) := if (al.any fun a => decide (a.1 = k)) = true then al.map (fun a => if a.1 = k then (a.1, a.2 ++ [x]) else a) else al ++ [(k, [x])]
def versB (al : List (Int × List PR)) (hour : Int) (b : List PR) : List (Int × List PR) := b.foldl (fun acc x => insV acc x.1 (hour, x.2)) al
def versR (bs : List (List PR)) (first : Int) : Nat → List (Int × List PR)
  | 0 => []
  | j + 1 => versB (versR bs first j) (first + (j : Nat)) (bs.getD (first.toNat + j) [])
theorem insV_len {al : List (Int × List PR)} {k : Int} {x : PR} {c : Nat} (h : al.length ≤ c ∧ ∀ a ∈ al, a.2.length ≤ c) : (insV al k x).length ≤ c + 1 ∧ ∀ a ∈ insV al k x, a.2.length ≤ c + 1 := by
  unfold insV
  split
  · refine ⟨by rw [List.length_map]; omega, fun a ha => ?_⟩
    obtain ⟨b, hb, rfl⟩ := List.mem_map.mp ha
    have := h.2 b hb
    split
    · simp
      omega
    · omega
  · refine ⟨by simp; omega, fun a ha => ?_⟩
    rcases List.mem_append.mp ha with ha | ha
    · have := h.2 a ha
      omega
    · rw [List.mem_singleton] at ha
      subst ha
      simp
theorem dk_map {F F' : V → List PR → Prop} {k : Int} {x : PR} {kvs : List (L2.Key × V)} {al : List (Int × List PR)} (h : DkR F Sum.inl kvs al) (h1 : ∀ kv ∈ kvs, ∀ a : Int × List PR, kv.1 = Sum.inl a.1 → a.1 ≠ k → F kv.2 a.2 → F' kv.2 a.2)
    (h2 : ∀ kv ∈ kvs, ∀ a : Int × List PR, kv.1 = Sum.inl a.1 → a.1 = k → F kv.2 a.2 → F' kv.2 (a.2 ++ [x])) : DkR F' Sum.inl kvs (al.map (fun a => if a.1 = k then (a.1, a.2 ++ [x]) else a)) := by
  unfold DkR at h ⊢
  induction h with
  | nil => exact .nil
  | @cons p q kvs al hp t ih =>
    rw [List.map_cons]
    refine .cons ?_ (ih (fun kv hm => h1 kv (List.mem_cons_of_mem _ hm)) fun kv hm => h2 kv (List.mem_cons_of_mem _ hm))
    by_cases e : q.1 = k
    · rw [if_pos e]
      exact ⟨hp.1, h2 p (List.mem_cons_self ..) q hp.1 e hp.2⟩
    · rw [if_neg e]
      exact ⟨hp.1, h1 p (List.mem_cons_self ..) q hp.1 e hp.2⟩
theorem dk_mono {κ β : Type} [DecidableEq κ] {kf : κ → L2.Key} {F F' : V → β → Prop} {kvs : List (L2.Key × V)} {al : List (κ × β)} (h : DkR F kf kvs al) (h1 : ∀ v b, F v b → F' v b) : DkR F' kf kvs al := pd_map h fun _ _ z => ⟨z.1, h1 _ _ z.2⟩
theorem mem_valV {κ : Type} [DecidableEq κ] {kvs : List (κ × V)} {k : κ} {v : V} (h : valV kvs k = some v) : (k, v) ∈ kvs := by
  unfold valV at h
  obtain ⟨p, hp, rfl⟩ := Option.map_eq_some_iff.mp h
  have h1 := List.mem_of_find?_eq_some hp
  have h2 := List.find?_some hp
  have : p.1 = k := of_decide_eq_true h2
  rw [← this]
  exact h1
theorem nodup_inj {α β : Type} {f : α → β} {l : List α} (h : (l.map f).Nodup) : ∀ {a b : α}, a ∈ l → b ∈ l → f a = f b → a = b := by
  induction l with
  | nil => intro a b ha; cases ha
  | cons x l ih =>
    have h' := List.nodup_cons.mp h
    intro a b ha hb e
    rcases List.mem_cons.mp ha with ea | ha2
    · rcases List.mem_cons.mp hb with eb | hb2
      · rw [ea, eb]
      · rw [ea] at e
        exact (h'.1 (List.mem_map.mpr ⟨b, hb2, e.symm⟩)).elim
    · rcases List.mem_cons.mp hb with eb | hb2
      · rw [eb] at e
        exact (h'.1 (List.mem_map.mpr ⟨a, ha2, e⟩)).elim
      · exact ih h'.2 ha2 hb2 e
section
variable {P : Program} {w : World} {K : PySem.W.Frag} {mg : PySem.Str → Option Value} {base : Heap}
/-- v: a list, new since B, of these pairs -/
def VR (K : PySem.W.Frag) (B H : Hp) (v : V) (b : List PR) : Prop := ∃ l xs, v = .ref l ∧ B l = none ∧ H l = some (.lst xs) ∧ Paired (r K H) xs b
def VD (K : PySem.W.Frag) (B : Hp) (d : Addr) (H : Hp) (al : List (Int × List PR)) : Prop := ∃ kvs, H d = some (.dK kvs) ∧ DkR (VR K B H) Sum.inl kvs al ∧ (kvs.map (·.2)).Nodup ∧ (kvs.map (·.1)).Nodup
theorem VD.mono {B H H' : Hp} {d : Addr} {al : List (Int × List PR)} (e : Ex H H') (h : VD K B d H al) : VD K B d H' al := by
  obtain ⟨kvs, h1, h2, h3⟩ := h
  exact ⟨kvs, e _ _ h1, dk_mono h2 fun v b ⟨l, xs, q1, q2, q3, q4⟩ => ⟨l, xs, q1, q2, e _ _ q3, pd_map q4 fun _ _ z => Rp.mono e z⟩, h3⟩
theorem r_ins {D : Ends} {B H : Hp} {d : Addr} {al : List (Int × List PR)} {c : Nat} {k : Int} {x : PR} {td ty te : TE} {σ} (hd : VD K B d H al) (eB : Ex B H) (nB : B d = none) (hc : al.length ≤ c ∧ ∀ a ∈ al, a.2.length ≤ c) (hc2 : c < 90000)
    (h1 : Ev td σ H (.ref d)) (h2 : Ev ty σ H (.int k)) (h3 : ∀ H1, Er K te σ H1 x) (q : ∀ H', Ex B H' → ExT H H' → VD K B d H' (insV al k x) → D.nx σ H') : tDrop (tBM K "list" rAppend (tDSetd td ty (tLst tNil)) (tCons te tNil)) D σ H := by
  refine h1 H (Ex.refl _) _ fun H1 e1 => ?_
  have hd1 := hd.mono e1
  obtain ⟨kvs1, g1, _⟩ := id hd1
  refine ⟨d, rfl, Or.inl ⟨kvs1, Or.inl g1⟩, h2 H1 e1 _ fun H2 e2 => ⟨Nat.zero_le _, fun p hp => ?_⟩⟩
  have e3 : Ex H2 (upd H2 p (.lst [])) := Ex.new hp
  have hd2 := hd1.mono e2
  obtain ⟨kvs, k1', k2', k3, k4⟩ := hd2
  have k1 := e3 _ _ k1'
  have k2 : DkR (VR K B (upd H2 p (.lst []))) Sum.inl kvs al := dk_mono k2' fun v b ⟨l, xs, q1, q2, q3, q4⟩ => ⟨l, xs, q1, q2, e3 _ _ q3, pd_map q4 fun _ _ z => Rp.mono e3 z⟩
  have hlen : kvs.length = al.length := pd_len k2
  have npd : p ≠ d := fun z => by
    obtain ⟨kv2, z1, _⟩ := hd1.mono e2
    rw [← z, hp] at z1
    cases z1
  have eB3 := ((eB.trans e1).trans e2).trans e3
  refine ⟨kvs, Sum.inl k, k1, rfl, by rw [hlen]; exact sz_lt (by omega), fun v hv => ?_, fun hv => ?_⟩
  · rcases dk_val inl_inj k2 k with ⟨z, _⟩ | ⟨v', b, z1, z2, l, xs, rfl, nl, hl, hxs⟩
    · rw [hv] at z
      cases z
    · rw [hv] at z1
      cases z1
      have hm := mem_valV hv
      have hxl : xs.length ≤ c := by
        rw [pd_len hxs]
        unfold lookA at z2
        obtain ⟨a, ha, rfl⟩ := Option.map_eq_some_iff.mp z2
        exact hc.2 a (List.mem_of_find?_eq_some ha)
      refine ⟨Or.inl ⟨rfl, xs, sq_of hl⟩, h3 _ _ (Ex.refl _) _ fun v2 H4 e4 hv2 => ?_⟩
      refine ⟨l, xs, v2, rfl, rfl, e4 _ _ hl, sz_lt (by omega), q _ (Ex.mut (eB3.trans e4) nl) ((Js.Ex.t (((e1.trans e2).trans e3).trans e4)).trans (ext_lst (e4 _ _ hl))) ?_⟩
      have et := ext_lst (u := .lst (xs ++ [v2])) (e4 _ _ hl)
      have ne : l ≠ d := fun z => by rw [z, k1] at hl; cases hl
      refine ⟨kvs, by rw [upd_ne ne.symm]; exact e4 _ _ k1, ?_, k3, k4⟩
      have hany : (al.any fun a => decide (a.1 = k)) = true := by
        unfold lookA at z2
        obtain ⟨a, ha, _⟩ := Option.map_eq_some_iff.mp z2
        exact List.any_eq_true.mpr ⟨a, List.mem_of_find?_eq_some ha, by simpa using List.find?_some ha⟩
      rw [show insV al k x = al.map (fun a => if a.1 = k then (a.1, a.2 ++ [x]) else a) from if_pos hany]
      refine dk_map k2 (fun kv hkv a ea na hF => ?_) fun kv hkv a ea hak hF => ?_
      · obtain ⟨l', xs', y1, y2, y3, y4⟩ := hF
        have nl' : l' ≠ l := fun z => by
          have := nodup_inj k3 hkv hm (by rw [y1, z])
          rw [this] at ea
          exact na (Sum.inl.inj ea).symm
        exact ⟨l', xs', y1, y2, by rw [upd_ne nl']; exact e4 _ _ y3, pd_map y4 fun _ _ z => RpT.t et (Rp.mono e4 z)⟩
      · obtain ⟨l', xs', y1, y2, y3, y4⟩ := hF
        have hbk := nodup_inj k4 hkv hm (by rw [ea, hak])
        rw [hbk] at y1
        cases y1
        rw [y3] at hl
        cases hl
        exact ⟨l, _, by rw [hbk], nl, upd_same, pd_app (pd_map y4 fun _ _ z => RpT.t et (Rp.mono e4 z)) (pd_one (RpT.t et hv2))⟩
  · rcases dk_val inl_inj k2 k with ⟨_, z2⟩ | ⟨v', b, z1, _⟩
    · have hany : ¬ (al.any fun a => decide (a.1 = k)) = true := fun z => by
        unfold lookA at z2
        rw [Option.map_eq_none_iff, List.find?_eq_none] at z2
        obtain ⟨a, ha, hak⟩ := List.any_eq_true.mp z
        exact z2 a ha hak
      have hanyk : ¬ (kvs.any fun kv => decide (kv.1 = Sum.inl k)) = true := by
        rw [dk_any inl_inj k2 k]
        exact hany
      have eput : putK kvs (Sum.inl k) (.ref p) = kvs ++ [(Sum.inl k, .ref p)] := if_neg hanyk
      have hpl : upd (upd H2 p (.lst [])) d (.dK (putK kvs (Sum.inl k) (.ref p))) p = some (.lst []) := by rw [upd_ne npd]; exact upd_same
      refine ⟨Or.inl ⟨rfl, [], sq_of hpl⟩, h3 _ _ (Ex.refl _) _ fun v2 H4 e4 hv2 => ?_⟩
      have nBp : B p = none := fresh_back ((eB.trans e1).trans e2) hp
      have et := ext_lst (u := .lst ([] ++ [v2])) (e4 _ _ hpl)
      have ed := ext_dK (u := .dK (putK kvs (Sum.inl k) (.ref p))) k1
      refine ⟨p, [], v2, rfl, rfl, e4 _ _ hpl, by decide, q _ (Ex.mut ((Ex.mut eB3 nB).trans e4) nBp) ((((Js.Ex.t ((e1.trans e2).trans e3)).trans ed).trans (Js.Ex.t e4)).trans et) ⟨putK kvs (Sum.inl k) (.ref p), ?_, ?_, ?_, ?_⟩⟩
      · rw [upd_ne npd.symm]
        exact e4 _ _ upd_same
      · rw [eput, show insV al k x = al ++ [(k, [x])] from if_neg hany]
        refine pd_app (dk_mono k2' fun v b hF => ?_) (pd_one ⟨rfl, p, _, rfl, nBp, upd_same, pd_one (RpT.t et hv2)⟩)
        obtain ⟨l', xs', y1, y2, y3, y4⟩ := hF
        have n1 : l' ≠ d := fun z => by rw [z, k1'] at y3; cases y3
        have n2 : l' ≠ p := ne_of_none y3 hp
        exact ⟨l', xs', y1, y2, by rw [upd_ne n2]; exact e4 _ _ (by rw [upd_ne n1, upd_ne n2]; exact y3), pd_map y4 fun _ _ z => RpT.t et (Rp.mono e4 (RpT.t ed (Rp.mono e3 z)))⟩
      · rw [eput, List.map_append, List.nodup_append]
        refine ⟨k3, by simp, ?_⟩
        intro a ha c hc
        have hc' : c = .ref p := by simpa using hc
        subst hc'
        rintro rfl
        obtain ⟨kv, hkv, e⟩ := List.mem_map.mp ha
        obtain ⟨b, _, _, l', xs', y1, _, y3, _⟩ := pd_mem k2' hkv
        rw [e] at y1
        cases y1
        rw [hp] at y3
        cases y3
      · rw [eput, List.map_append, List.nodup_append]
        refine ⟨k4, by simp, ?_⟩
        intro a ha c hc
        have hc' : c = Sum.inl k := by simpa using hc
        subst hc'
        rintro rfl
        obtain ⟨kv, hkv, e⟩ := List.mem_map.mp ha
        exact hanyk (List.any_eq_true.mpr ⟨kv, hkv, by simp [e]⟩)
    · rw [hv] at z1
      cases z1
/-- the first hour's versions .. -/
def spVers (K : PySem.W.Frag) : Sp := fun vs H Q _ => ∃ (x : V) (f : FeedD) (a b : Int), vs = [x, .int a, .int b] ∧ r K H x f ∧ (0 ≤ a ∧ a ≤ b + 1 ∧ b < f.b.length ∧ f.b.length ≤ 100 ∧ ∀ c ∈ f.b, c.length ≤ 100) ∧
  ∀ d H', Ex H H' → H d = none → VD K H d H' (versR f.b a (b + 1 - a).toNat) → Q (.ref d) H'
theorem ok_versions_of (T : Tx w K mg) : FnAt P w K mg base 1 (He.fAd K ("versions_of", none)) (spVers K) := by
  have S : FnScope ["feed", "first", "last", "found", "hour", "key", "value"] ["feed", "first", "last"] (defScope s_versions_of) := ⟨rfl, rfl, rfl, by decide +kernel, rfl, by decide +kernel, by decide +kernel⟩
  refine mk0 0 T.f_versions_of S (fun _ _ _ _ _ _ us hl => match us, hl with | [_, _, _], _ => rfl) (fun vs H Q E h => by obtain ⟨_, _, _, _, rfl, _⟩ := h; rfl) fun cdv A outer s H vs Q E hr h => ?_
  obtain ⟨x, f, a, b, rfl, h_feed, ⟨ha0, hab, hbf, hf100, hc100⟩, q⟩ := h
  refine ⟨_, pss_cons (ps_set (i := 3) S.nd rfl (Or.inl rfl) pe_dnewK)
      (pss_cons (ps_for PassesOwn.never rfl (pi_range2 rfl T.z_range (pa_cons (pv 1) (pa_cons (pe_op op_add (pv 2) pe_int) pa_nil))) (pg_name (i := 4) S.nd rfl (Or.inl rfl))
        (pss_one (ps_for PassesOwn.never rfl (pi_tup (pe_ix (ixT (K := K) rfl) (fldK (K := K) rfl (pv 0)) (pv 4) (fun _ _ => rfl))) (pg_tup rfl (pgs_cons (pg_name (i := 5) S.nd rfl (Or.inl rfl)) (pgs_cons (pg_name (i := 6) S.nd rfl (Or.inl rfl)) pgs_nil)))
          (pss_one (ps_expr (pe_bm PySem.F.plainAttrs_list PySem.F.slot_list_append PySem.F.type_list_append mt_append (pe_dsetd (pv 3) (pv 5) (pe_lst pa_nil) ⟨rfl, rfl, rfl, rfl⟩) (pa_cons (pe_tup (pa_cons (pv 4) (pa_cons (pv 6) pa_nil))) pa_nil)))))))
      (pss_one (ps_ret (pv 3)))), ?_⟩
  intro d nd
  refine r_forR (K := K) (er_var (a := a) rfl rfl) (er_II (er_var (a := b) rfl rfl) (er_i 1)) (by omega) (fun j σ' H' => Ex H H' ∧ VD K H d H' (versR f.b a j) ∧ ((versR f.b a j).length ≤ 100 * j ∧ ∀ z ∈ versR f.b a j, z.2.length ≤ 100 * j) ∧ ∃ n1 n2 n3, σ' = [some x, some (.int a), some (.int b), some (.ref d), n1, n2, n3]) ?_ ?_ ?_
  · intro H1 e1
    exact ⟨(Ex.new nd).trans e1, ⟨[], e1 _ _ upd_same, .nil, .nil, .nil⟩, ⟨Nat.zero_le _, fun z hz => by cases hz⟩, none, none, none, rfl⟩
  · rintro j σ' H' hj ⟨eH, hd, hc, n1, n2, n3, rfl⟩
    have hjf : a.toNat + j < f.b.length := by omega
    have hat : f.b[a.toNat + j]? = some (f.b.getD (a.toNat + j) []) := by rw [List.getD_eq_getElem?_getD, List.getElem?_eq_getElem hjf]; rfl
    generalize hB : f.b.getD (a.toNat + j) [] = B at hat
    have hBm : B ∈ f.b := List.mem_of_getElem? hat
    have hBl := hc100 B hBm
    refine r_forT (K := K) (er_ixT (er_feedB T (er_var rfl (Rp.mono eH h_feed))) (er_var (a := a + (j : Nat)) rfl rfl) (by omega) hat) fun H2 e2 => ⟨fun i σ' H' => Ex H H' ∧ ExT H2 H' ∧ VD K H d H' (versB (versR f.b a j) (a + (j : Nat)) (B.take i)) ∧ ((versB (versR f.b a j) (a + (j : Nat)) (B.take i)).length ≤ 100 * j + i ∧ ∀ z ∈ versB (versR f.b a j) (a + (j : Nat)) (B.take i), z.2.length ≤ 100 * j + i) ∧ ∃ n2 n3, σ' = [some x, some (.int a), some (.int b), some (.ref d), some (.int (a + (j : Nat))), n2, n3], ?_, ?_, ?_, ?_⟩
    · exact ⟨eH.trans e2, ExT.refl _, hd.mono e2, hc, n2, n3, rfl⟩
    · exact fun i σ' H' pv => pv.2.1
    · rintro i ⟨k, o⟩ v σ' H' hi hr ⟨eH, eT, hd, hc, n2, n3, rfl⟩
      refine gb_pair hr fun y z hy hz => ?_
      obtain rfl : y = .int k := hy
      have hi2 : i < B.length := (List.getElem?_eq_some_iff.mp hi).1
      have hz' : ∀ H, r K H z o := fun H => by cases o <;> exact hz
      refine r_ins hd eH nd hc (by omega) (x := (a + (j : Nat), o)) (ev_var rfl) (ev_var rfl) (fun H1 => er_tup2 (er_var (a := a + (j : Nat)) rfl rfl) (er_var rfl (hz' H1))) fun H3 e3 eT3 hd3 => ?_
      have ef : versB (versR f.b a j) (a + (j : Nat)) (B.take (i + 1)) = insV (versB (versR f.b a j) (a + (j : Nat)) (B.take i)) k (a + (j : Nat), o) := take_fold hi
      exact ⟨e3, eT.trans eT3, by rw [ef]; exact hd3, by rw [ef]; exact insV_len hc, _, _, rfl⟩
    · rintro σ' H' ⟨eH, eT, hd, hc, n2, n3, rfl⟩
      rw [List.take_length] at hd hc
      have ev : versR f.b a (j + 1) = versB (versR f.b a j) (a + (j : Nat)) B := by rw [← hB]; rfl
      refine ⟨eH, by rw [ev]; exact hd, ?_, _, _, _, rfl⟩
      rw [ev]
      exact ⟨by have := hc.1; omega, fun z hz => by have := hc.2 z hz; omega⟩
  · rintro σ' H' ⟨eH, hd, hc, n1, n2, n3, rfl⟩
    exact ⟨.ref d, rfl, q d H' eH nd hd⟩
end
end Js
/-! ### made_run -/
namespace Js
open PySem PySem.Spec PyProof.Rows L2 Evl SX
open Rp (r)
abbrev TR := T3 Int Int (Option Int)
def marksL (ks : List Int) (a b : Int) : List Int := (ks.filter fun h => decide (a ≤ h) && decide (h < b)) ++ [b]
def strk (a : Int) (l : List PR) : List PR := if a = 0 then struckL l else l
def oneK (ms : List Int) (a : Int) (kv : Int × List PR) : List TR := (strk a (needL kv.2 ms)).map fun x => ⟨kv.1, x.1, x.2⟩
def madeRaw (bs : List (List PR)) (ks : List Int) (a b : Int) : List TR := (versR bs a (b + 1 - a).toNat).flatMap (oneK (marksL ks a b) a)
def spMade (K : PySem.W.Frag) : Sp := fun vs H Q _ => ∃ (x : V) (f : FeedD) (a b : Int), vs = [x, .int a, .int b] ∧ r K H x f ∧ (0 ≤ a ∧ a ≤ b ∧ b < f.b.length ∧ f.b.length ≤ 30 ∧ (∀ c ∈ f.b, c.length ≤ 10) ∧ f.k.length ≤ 100) ∧
  (∀ x ∈ madeRaw f.b f.k a b, ∀ y ∈ madeRaw f.b f.k a b, kT x = kT y → x = y) ∧
  ∀ v H' (bs : List TR), Ex H H' → r K H' v bs → bs.Perm (madeRaw f.b f.k a b) → bs.Pairwise (fun x y => SrtO.lexB (kT y) (kT x) = false) → Q v H'
theorem needL_len {l : List PR} {ms : List Int} : (needL l ms).length ≤ ms.length := by
  have := need_len (l := l) (ms := ms) (acc := [])
  rw [List.length_nil, Nat.zero_add] at this
  exact this
theorem strk_len {a : Int} {l : List PR} : (strk a l).length ≤ l.length := by
  unfold strk
  split
  · exact (List.dropWhile_sublist _).length_le
  · exact Nat.le_refl _
theorem versB_len {h : Int} (b : List PR) : ∀ {al : List (Int × List PR)} {c : Nat}, (al.length ≤ c ∧ ∀ a ∈ al, a.2.length ≤ c) → (versB al h b).length ≤ c + b.length ∧ ∀ a ∈ versB al h b, a.2.length ≤ c + b.length := by
  induction b with
  | nil => exact fun hc => hc
  | cons x b ih =>
    intro al c hc
    have q := ih (insV_len (k := x.1) (x := (h, x.2)) hc)
    have e : versB al h (x :: b) = versB (insV al x.1 (h, x.2)) h b := rfl
    rw [e, List.length_cons, show c + (b.length + 1) = c + 1 + b.length by omega]
    exact q
theorem versR_len {bs : List (List PR)} {a : Int} {m : Nat} (hb : ∀ c ∈ bs, c.length ≤ m) : ∀ n, (versR bs a n).length ≤ n * m ∧ ∀ z ∈ versR bs a n, z.2.length ≤ n * m
  | 0 => ⟨by simp [versR], fun z hz => by cases hz⟩
  | n + 1 => by
    have h1 := versR_len (a := a) hb n
    have h2 := versB_len (h := a + (n : Nat)) (bs.getD (a.toNat + n) []) h1
    have h3 : (bs.getD (a.toNat + n) []).length ≤ m := by
      rw [List.getD_eq_getElem?_getD]
      cases h : bs[a.toNat + n]? with
      | none => simp
      | some c => exact hb c (List.mem_of_getElem? h)
    have h4 : (n + 1) * m = n * m + m := Nat.succ_mul n m
    exact ⟨by have := h2.1; show (versB _ _ _).length ≤ _; omega, fun z hz => by have := h2.2 z hz; omega⟩
section
variable {P : Program} {w : World} {K : PySem.W.Frag} {mg : PySem.Str → Option Value} {base : Heap}
theorem r_ext {α : Type} [Rp α] [RpT α] {as : List α} {l : Addr} {xs : List V} {ta te : TE} {D : Ends} {σ H} (hl : H l = some (.lst xs)) (ha : Ev ta σ H (.ref l)) (h : El K te σ H as) (hz : xs.length + as.length ≤ 100000)
    (k : ∀ zs H1, Ex H H1 → Paired (r K (upd H1 l (.lst (xs ++ zs)))) zs as → ExT H1 (upd H1 l (.lst (xs ++ zs))) → D.nx σ (upd H1 l (.lst (xs ++ zs)))) : tDrop (tBM K "list" rExtend ta (tCons te tNil)) D σ H := ha H (Ex.refl H) _ fun H1 e1 =>
  ⟨Or.inl ⟨rfl, xs, sq_of (e1 l _ hl)⟩, h H1 e1 _ fun p zs H2 e2 hn h1 h2 => ⟨l, p, xs, zs, rfl, rfl, e2 l _ (e1 l _ hl), h1, by rw [pd_len h2]; exact sz_of hz, k zs H2 (e1.trans e2) (pd_map h2 fun _ _ z => RpT.t (ext_lst (e2 l _ (e1 l _ hl))) z) (ext_lst (e2 l _ (e1 l _ hl)))⟩⟩
theorem flat_take {α β : Type} {l : List α} {i : Nat} {a : α} {f : α → List β} (h : l[i]? = some a) : (l.take (i + 1)).flatMap f = (l.take i).flatMap f ++ f a := by
  rw [List.take_add_one, h, List.flatMap_append]
  simp
theorem el_sortT {as : List TR} {l : Addr} {xs : List V} {ta : TE} {σ H} (ha : Ev ta σ H (.ref l)) (hl : H l = some (.lst xs)) (hp : Paired (r K H) xs as) (inj : ∀ x ∈ as, ∀ y ∈ as, kT x = kT y → x = y) {Q : VK}
    (q : ∀ v H' (bs : List TR), Ex H H' → r K H' v bs → bs.Perm as → bs.Pairwise (fun x y => SrtO.lexB (kT y) (kT x) = false) → Q v H') : tCB (rTupS K) (tCons (tCB (rSortT K) (tCons ta tNil)) tNil) σ H Q := ha H (Ex.refl H) _ fun H1 e1 =>
  ⟨l, xs, as, rfl, sq_of (e1 _ _ hl), pd_map hp fun _ _ z => Rp.mono e1 z, inj, fun ys bs p hy hpm hs hn => ⟨p, ys, rfl, .inl ⟨sq_of upd_same, fun t ht => q _ _ bs ((e1.trans (Ex.new hn)).trans (Ex.new ht)) ⟨t, ys, rfl, st_of upd_same, pd_map hy fun _ _ z => Rp.mono ((Ex.new hn).trans (Ex.new ht)) z⟩ hpm hs⟩⟩⟩
theorem r_madeExt {D : Ends} {s0 s1 s2 s3 s6 s8 s9 : Option V} {fl : Addr} {k : Int} {vN : V} {xs : List V} {as : List TR} {nl : List PR} {H : Hp} (hfl : H fl = some (.lst xs)) (hN : r K H vN (Ls.mk nl)) (hz : xs.length + nl.length < 100000) (hp : Paired (r K H) xs as)
    (q : ∀ xs' H', Kp fl H H' → H' fl = some (.lst xs') → Paired (r K H') xs' (as ++ nl.map fun x => (⟨k, x.1, x.2⟩ : TR)) → xs'.length = xs.length + nl.length → D.nx [s0, s1, s2, s3, some (.ref fl), some (.int k), s6, some vN, s8, s9] H') :
    tDrop (tBM K "list" rExtend (tVar 4) (tCons (tLc (iList K (tVar 7)) (gTup K 2 (gCons (gName 8) (gCons (gName 9) gNil))) tYes (tTup (tCons (tVar 5) (tCons (tVar 8) (tCons (tVar 9) tNil)))) [8, 9]) tNil)) D [s0, s1, s2, s3, some (.ref fl), some (.int k), s6, some vN, s8, s9] H := by
  refine r_ext (K := K) (as := nl.map fun x => (⟨k, x.1, x.2⟩ : TR)) hfl (ev_var rfl) (el_lcY (f := fun x : PR => (⟨k, x.1, x.2⟩ : TR)) (wr_list (er_var rfl hN)) (by omega) fun c v H1 hc e1 hv Q q => gb_pair hv fun y z hy hz => q _ _ (Ex.refl _) rfl (er_tup3 (er_var (a := k) rfl rfl) (er_var rfl hy) (er_var rfl hz))) (by rw [List.length_map]; omega) fun zs H1 e1 hzs et => ?_
  refine q (xs ++ zs) _ ((Ex.kp e1).trans Kp.upd) upd_same (pd_app (pd_map hp fun _ _ z => RpT.t et (Rp.mono e1 z)) hzs) ?_
  rw [List.length_append, pd_len hzs, List.length_map]
theorem ok_made_run (T : Tx w K mg) : FnAt P w K mg base 2 (He.fAd K ("made_run", none)) (spMade K) := by
  have S : FnScope ["feed", "first", "last", "marks", "found", "key", "versions", "needed", "hour", "value"] ["feed", "first", "last"] (defScope s_made_run) := ⟨rfl, rfl, rfl, by decide +kernel, rfl, by decide +kernel, by decide +kernel⟩
  have G_versions_of := ok_versions_of (P := P) (base := base) T
  have G_needed_of := ok_needed_of (P := P) (base := base) T
  have G_without_struck := ok_without_struck (P := P) (base := base) T
  refine mk0 1 T.f_made_run S (fun _ _ _ _ _ _ us hl => match us, hl with | [_, _, _], _ => rfl) (fun vs H Q E h => by obtain ⟨_, _, _, _, rfl, _⟩ := h; rfl) fun cdv A outer s H vs Q E hr h => ?_
  obtain ⟨x, f, a, b, rfl, h_feed, ⟨ha0, hab, hbf, hf30, hc10, hk100⟩, inj, q⟩ := h
  refine ⟨_, pss_cons (ps_set (i := 3) S.nd rfl (Or.inl rfl) (pe_op op_cat (pe_lc (own := [("hour", 8)]) (g := gName 8) rfl S.nd (pi_tup (fldK (K := K) rfl (pv 0))) (blkOk_by (N := ["feed", "first", "last", "marks", "found", "key", "versions", "needed", "hour", "value"]) (sc := defScope s_made_run) (own := [("hour", 8)]) (by decide +kernel)) (fun _ _ _ _ _ => pg_name (i := 8) S.nd rfl (Or.inl rfl)) (fun _ _ _ _ _ => pts_one (pt_chain op_le op_lt (pv 1) (pv 8) (pv 2))) (fun _ _ _ _ _ => pv 8)) (pe_lst (pa_cons (pv 2) pa_nil))))
      (pss_cons (ps_set (i := 4) S.nd rfl (Or.inl rfl) (pe_lst pa_nil))
      (pss_cons (ps_for PassesOwn.never rfl (pi_items (Jg.pe_frz (pe_f G_versions_of T.g_versions_of hr (by decide) passN (pa_cons (pv 0) (pa_cons (pv 1) (pa_cons (pv 2) pa_nil)))))) (pg_tup rfl (pgs_cons (pg_name (i := 5) S.nd rfl (Or.inr rfl)) (pgs_cons (pg_name (i := 6) S.nd rfl (Or.inl rfl)) pgs_nil)))
        (pss_cons (ps_set (i := 7) S.nd rfl (Or.inl rfl) (pe_f G_needed_of T.g_needed_of hr (by decide) passN (pa_cons (pv 6) (pa_cons (pv 3) pa_nil))))
        (pss_cons (ps_if (pt_cmpR op_eq (pv 1) pe_int (nomark _))
          (pss_one (ps_set (i := 7) S.nd rfl (Or.inl rfl) (pe_f G_without_struck T.g_without_struck hr (by decide) passN (pa_cons (pv 7) pa_nil))))
          (pss_nil))
        (pss_one (ps_expr (pe_bm PySem.F.plainAttrs_list PySem.F.slot_list_extend PySem.F.type_list_extend mt_extend (pv 4) (pa_cons (pe_lc (own := [("hour", 8), ("value", 9)]) (g := gTup K 2 (gCons (gName 8) (gCons (gName 9) gNil))) (tt := tYes) rfl S.nd (pi_list (pv 7)) (blkOk_by (N := ["feed", "first", "last", "marks", "found", "key", "versions", "needed", "hour", "value"]) (sc := defScope s_made_run) (own := [("hour", 8), ("value", 9)]) (by decide +kernel)) (fun _ _ _ _ _ => pg_tup rfl (pgs_cons (pg_name (i := 8) S.nd rfl (Or.inl rfl)) (pgs_cons (pg_name (i := 9) S.nd rfl (Or.inl rfl)) pgs_nil))) (fun _ _ _ _ _ => pts_nil) (fun _ _ _ _ _ => pe_tup (pa_cons (pv 5) (pa_cons (pv 8) (pa_cons (pv 9) pa_nil))))) pa_nil)))))))
      (pss_one (ps_ret (pe_callTy (tupK (K := K) rfl) rfl T.z_tuple (by decide +kernel) (pa_cons (pe_callB (cr_sortT (K := K) rfl) rfl T.z_sorted (by decide +kernel) (pa_cons (pv 4) pa_nil)) pa_nil)))))), ?_⟩
  have hml : (marksL f.k a b).length ≤ 101 := by
    unfold marksL
    have := List.length_filter_le (fun h => decide (a ≤ h) && decide (h < b)) f.k
    simp
    omega
  have hN : (b + 1 - a).toNat ≤ 31 := by omega
  obtain ⟨vl1, vl2⟩ := versR_len (a := a) hc10 (b + 1 - a).toNat
  have vl3 : (versR f.b a (b + 1 - a).toNat).length ≤ 310 := by
    have : (b + 1 - a).toNat * 10 ≤ 31 * 10 := Nat.mul_le_mul_right _ hN
    omega
  have vl4 : ∀ z ∈ versR f.b a (b + 1 - a).toNat, z.2.length ≤ 310 := fun z hz => by
    have := vl2 z hz
    have : (b + 1 - a).toNat * 10 ≤ 31 * 10 := Nat.mul_le_mul_right _ hN
    omega
  refine r_setL (K := K) (as := marksL f.k a b) (el_cat (El.is (el_lc (p := fun h => decide (a ≤ h) && decide (h < b)) (f := id) (wr_tup (er_feedK T (er_var rfl h_feed))) (by omega) fun c v H1 hc e1 hv Q q => gb_name (q _ H1 (Ex.refl _) rfl (et_chain (K := K) (er_var (a := a) rfl rfl) (er_var rfl hv) (er_var (a := b) rfl rfl) (fun _ => rv_I0) (fun _ => rv_I0)) fun _ => er_var rfl hv)) (List.map_id _)) (el_1 (er_var (a := b) rfl rfl)) ?_) fun pm xm H1 e1 nm hm1 hm2 => ?_
  · have := List.length_filter_le (fun h => decide (a ≤ h) && decide (h < b)) f.k
    exact sz_of (by simp; omega)
  refine r_setL (K := K) (as := ([] : List TR)) el_0 fun fl xs0 H2 e2 nf hf1 hf2 => ?_
  cases hf2
  have h_feed2 := Rp.mono (e1.trans e2) h_feed
  refine ⟨x, rfl, .int a, rfl, .int b, rfl, x, f, a, b, rfl, h_feed2, ⟨ha0, by omega, hbf, by omega, fun c hc => by have := hc10 c hc; omega⟩, fun d H3 e3 nd hd => ?_⟩
  obtain ⟨kvs, hk1, hk2, hk3, hk4⟩ := hd
  refine ⟨d, _, rfl, hk1, trivial, fun od => ?_⟩
  have hlen : kvs.length = (versR f.b a (b + 1 - a).toNat).length := pd_len hk2
  have etf : ExT H3 (upd H3 d (.frz od (.dK kvs))) := ext_dK hk1
  have nfd : fl ≠ d := fun z => by rw [z, nd] at hf1; cases hf1
  have nmf : pm ≠ fl := ne_of_none hm1 nf
  have nmd : pm ≠ d := ne_of_none (e2 _ _ hm1) nd
  -- what stays in the loop
  let B : Hp := fun p => if p = fl then none else upd H3 d (.frz od (.dK kvs)) p
  have hB : ∀ p, p ≠ fl → B p = upd H3 d (.frz od (.dK kvs)) p := fun p hp => if_neg hp
  have hBf : B fl = none := if_pos rfl
  have eB : Ex B (upd H3 d (.frz od (.dK kvs))) := fun p o hp => by
    by_cases h : p = fl
    · rw [h, hBf] at hp
      cases hp
    · rw [hB p h] at hp
      exact hp
  have e0B : Ex H B := fun p o hp => by
    have n1 : p ≠ fl := ne_of_none (e1 _ _ hp) nf
    have n2 : p ≠ d := ne_of_none (e2 _ _ (e1 _ _ hp)) nd
    rw [hB p n1, upd_ne n2]
    exact e3 _ _ (e2 _ _ (e1 _ _ hp))
  have hBd : B d = some (.frz od (.dK kvs)) := by rw [hB d nfd.symm]; exact upd_same
  have hBm : B pm = some (.lst xm) := by rw [hB pm nmf, upd_ne nmd]; exact e3 _ _ (e2 _ _ hm1)
  refine ⟨d, od, kvs, rfl, upd_same, for_it walk_items (fun i σ' H' => Ex B H' ∧ ∃ xs n1 n2 n3 n4 n5, σ' = [some x, some (.int a), some (.int b), some (.ref pm), some (.ref fl), n1, n2, n3, n4, n5] ∧ H' fl = some (.lst xs) ∧ Paired (r K H') xs (((versR f.b a (b + 1 - a).toNat).take i).flatMap (oneK (marksL f.k a b) a)) ∧ xs.length ≤ 101 * i) ?_ (fun i σ' H' _ pv => pv.1 _ _ hBd) ?_ ?_⟩
  · exact ⟨eB, [], none, none, none, none, none, rfl, by rw [upd_ne nfd]; exact e3 _ _ hf1, .nil, Nat.zero_le _⟩
  · rintro i v σ' H' H'' hi ⟨eH, xs, n1, n2, n3, n4, n5, rfl, g1, g2, g3⟩ ⟨t, v1, v2, rfl, ht, rfl, y1, y2⟩
    obtain ⟨kv, hkv, e1k⟩ := Option.map_eq_some_iff.mp y1
    obtain ⟨kv', hkv', e2k⟩ := Option.map_eq_some_iff.mp y2
    rw [hkv] at hkv'
    cases hkv'
    obtain ⟨⟨k, bl⟩, hal, hk, l, xl, hl0, hl1, hl2, hl3⟩ := pd_get hk2 hkv
    dsimp only at hk hl0 hl3
    have ev1 : v1 = .int k := by rw [← e1k, hk]; rfl
    have ev2 : v2 = .ref l := by rw [← e2k, hl0]
    subst ev1 ev2
    have nlf : l ≠ fl := fun z => by rw [z] at hl1; rw [hl1] at hf1; cases hf1
    have nld : l ≠ d := fun z => by rw [z, hk1] at hl2; cases hl2
    have hBl : B l = some (.lst xl) := by rw [hB l nlf, upd_ne nld]; exact hl2
    have eT : Ex H' (upd H' t (.tup [.int k, .ref l])) := Ex.new ht
    have blen : bl.length ≤ 310 := vl4 _ (List.mem_of_getElem? hal)
    have exB : ExT (upd H3 d (.frz od (.dK kvs))) B := fun K q zs hs => by
      have hff : upd H3 d (.frz od (.dK kvs)) fl = some (.lst []) := by rw [upd_ne nfd]; exact e3 _ _ hf1
      rcases hs with (hs | ⟨o, hs⟩) | hs
      · exact .inl (.inl (by rw [hB q (fun z => by rw [z, hff] at hs; cases hs)]; exact hs))
      · exact .inl (.inr ⟨o, by rw [hB q (fun z => by rw [z, hff] at hs; cases hs)]; exact hs⟩)
      · exact .inr hs
    have hBver : r K B (.ref l) (Ls.mk bl) := ⟨l, xl, rfl, sq_of hBl, pd_map hl3 fun _ _ z => RpT.t (etf.trans exB) z⟩
    have hBmar : r K B (.ref pm) (Ls.mk (marksL f.k a b)) := ⟨pm, xm, rfl, sq_of hBm, pd_map hm2 fun _ _ z => z⟩
    refine ⟨t, _, rfl, st_of upd_same, rfl, .int k, _, rfl, .ref l, _, rfl, rfl, ?_⟩
    have eHT := eH.trans eT
    have hf := flat_take (f := oneK (marksL f.k a b) a) hal
    have i310 : i < 310 := by omega
    have nlen := needL_len (l := bl) (ms := marksL f.k a b)
    have slen := strk_len (a := a) (l := needL bl (marksL f.k a b))
    refine r_set (K := K) (El.er' (el_f2 (er_var rfl (Rp.mono eHT hBver)) (er_var rfl (Rp.mono eHT hBmar)) ⟨by show bl.length < _; omega, by show (marksL f.k a b).length < _; omega⟩)) fun v3 H4 e4 h_needed => ?_
    have done : ∀ (xs' : List V) (H5 H6 : Hp), Ex H4 H5 → Kp fl H5 H6 → H6 fl = some (.lst xs') → Paired (r K H6) xs' ((((versR f.b a (b + 1 - a).toNat).take i).flatMap (oneK (marksL f.k a b) a)) ++ (strk a (needL bl (marksL f.k a b))).map fun x => (⟨k, x.1, x.2⟩ : TR)) → xs'.length = xs.length + (strk a (needL bl (marksL f.k a b))).length → ∀ n6 n7 n8 n9,
        (fun σ' H' => Ex B H' ∧ ∃ xs n1 n2 n3 n4 n5, σ' = [some x, some (.int a), some (.int b), some (.ref pm), some (.ref fl), n1, n2, n3, n4, n5] ∧ H' fl = some (.lst xs) ∧ Paired (r K H') xs (((versR f.b a (b + 1 - a).toNat).take (i + 1)).flatMap (oneK (marksL f.k a b) a)) ∧ xs.length ≤ 101 * (i + 1)) [some x, some (.int a), some (.int b), some (.ref pm), some (.ref fl), some (.int k), n6, n7, n8, n9] H6 := by
      intro xs' H5 H6 e5 kp h1 h2 h3 n6 n7 n8 n9
      refine ⟨Kp.ex ((eHT.trans e4).trans e5) hBf kp, xs', _, _, _, _, _, rfl, h1, ?_, by omega⟩
      rw [hf]
      exact h2
    have gT : ∀ {H5 : Hp}, Ex H4 H5 → H5 fl = some (.lst xs) ∧ Paired (r K H5) xs (((versR f.b a (b + 1 - a).toNat).take i).flatMap (oneK (marksL f.k a b) a)) := fun e5 => ⟨e5 _ _ (e4 _ _ (eT _ _ g1)), pd_map g2 fun _ _ z => Rp.mono ((eT.trans e4).trans e5) z⟩
    refine r_if (et_t (K := K) (er_eqI (er_var (a := a) rfl rfl) (er_i 0))) (fun hc H5 e5 => ?_) fun hc H5 e5 => ?_
    · have hc' : a = 0 := by simpa using hc
      have es : strk a (needL bl (marksL f.k a b)) = struckL (needL bl (marksL f.k a b)) := if_pos hc'
      refine r_set (K := K) (El.er' (el_f1 (er_var rfl (Rp.mono e5 h_needed)) trivial)) fun v4 H6 e6 h_str => ?_
      rw [show struckL (Ls.mk (needL bl (marksL f.k a b))).l = strk a (needL bl (marksL f.k a b)) from es.symm] at h_str
      obtain ⟨k1, k2⟩ := gT (e5.trans e6)
      exact r_madeExt k1 h_str (by omega) k2 fun xs' H7 kp h1 h2 h3 => done xs' H6 H7 (e5.trans e6) kp h1 h2 h3 _ _ _ _
    · have hc' : ¬ a = 0 := by simpa using hc
      have es : strk a (needL bl (marksL f.k a b)) = needL bl (marksL f.k a b) := if_neg hc'
      have h_str := Rp.mono e5 h_needed
      rw [show needL (Ls.mk bl).l (Ls.mk (marksL f.k a b)).l = strk a (needL bl (marksL f.k a b)) from es.symm] at h_str
      obtain ⟨k1, k2⟩ := gT e5
      exact r_madeExt k1 h_str (by omega) k2 fun xs' H7 kp h1 h2 h3 => done xs' H5 H7 e5 kp h1 h2 h3 _ _ _ _
  · rintro σ' H' ⟨eH, xs, n1, n2, n3, n4, n5, rfl, g1, g2, g3⟩
    have hl : kvs.length = (versR f.b a (b + 1 - a).toNat).length := hlen
    rw [hl, List.take_length] at g2
    exact el_sortT (ev_var rfl) g1 g2 inj fun v H7 bs e7 hv hpm hs => q v H7 bs ((e0B.trans eH).trans e7) hv hpm hs
end
end Js
/-! ### states -/
namespace Js
open PySem PySem.Spec PyProof.Rows L2 Evl SX
open Rp (r)
/-- by key, then by hour -/
def leT (x y : TR) : Bool := !SrtO.lexB (kT y) (kT x)
def sortT (l : List TR) : List TR := l.mergeSort leT
theorem pw_uniq {α : Type} {R : α → α → Prop} : ∀ {l m : List α}, l.Perm m → l.Pairwise R → m.Pairwise R → (∀ x ∈ l, ∀ y ∈ l, R x y → R y x → x = y) → l = m
  | [], m, h, _, _, _ => (List.Perm.nil_eq h)
  | x :: l, [], h, _, _, _ => absurd h.length_eq (by simp)
  | x :: l, y :: m, h, hl, hm, ha => by
    have hx : x ∈ y :: m := h.mem_iff.mp (List.mem_cons_self ..)
    have hy : y ∈ x :: l := h.mem_iff.mpr (List.mem_cons_self ..)
    have e : x = y := by
      rcases List.mem_cons.mp hx with e | hx
      · exact e
      · rcases List.mem_cons.mp hy with e | hy2
        · exact e.symm
        · exact ha x (List.mem_cons_self ..) y hy ((List.pairwise_cons.mp hl).1 y hy2) ((List.pairwise_cons.mp hm).1 x hx)
    subst e
    rw [pw_uniq h.cons_inv (List.pairwise_cons.mp hl).2 (List.pairwise_cons.mp hm).2 fun a ha' b hb' => ha a (List.mem_cons_of_mem _ ha') b (List.mem_cons_of_mem _ hb')]
theorem leT_trans (a b c : TR) (h1 : leT a b = true) (h2 : leT b c = true) : leT a c = true := by
  unfold leT at *
  rw [Bool.not_eq_true'] at *
  have p := SrtO.lexB_no.mp h1
  have q := SrtO.lexB_no.mp h2
  exact SrtO.lexB_no.mpr (by omega)
theorem leT_total (a b : TR) : (leT a b || leT b a) = true := by
  unfold leT
  rw [Bool.or_eq_true, Bool.not_eq_true', Bool.not_eq_true']
  by_cases h : SrtO.lexB (kT b) (kT a) = false
  · exact .inl h
  · right
    have p := SrtO.lexB_iff.mp (by simpa using h)
    exact SrtO.lexB_no.mpr (by omega)
theorem sortT_is {l bs : List TR} (hp : bs.Perm l) (hs : bs.Pairwise (fun x y => SrtO.lexB (kT y) (kT x) = false)) (inj : ∀ x ∈ l, ∀ y ∈ l, kT x = kT y → x = y) : bs = sortT l := by
  have h1 : (sortT l).Pairwise (fun a b => leT a b = true) := List.pairwise_mergeSort leT_trans leT_total l
  have h2 : (sortT l).Perm l := List.mergeSort_perm l leT
  refine pw_uniq (hp.trans h2.symm) hs (h1.imp fun h => by unfold leT at h; simpa using h) fun x hx y hy p q => ?_
  refine inj x (hp.mem_iff.mp hx) y (hp.mem_iff.mp hy) ?_
  have a := SrtO.lexB_no.mp p
  have b := SrtO.lexB_no.mp q
  exact Prod.ext (by omega) (by omega)
def madeL (bs : List (List PR)) (ks : List Int) (a b : Int) : List TR := sortT (madeRaw bs ks a b)
structure StateD where
  b : List (List PR)
  k : List Int
  plan : List Int
  made : List (T3 Int Int (List TR))
  rows : Int
def StR (K : PySem.W.Frag) (H : Hp) (p : Addr) (dx : Addr) (s : StateD) : Prop := ∃ vb vk vp vm vr, H p = some (.ins (He.ga K "State") dx [("batches", vb), ("kept", vk), ("plan", vp), ("made", vm), ("rows", vr)]) ∧ r K H vb s.b ∧ r K H vk s.k ∧ r K H vp s.plan ∧ r K H vm s.made ∧ r K H vr s.rows
instance : Rp StateD := ⟨fun K H v s => ∃ p dx, v = .ref p ∧ StR K H p dx s, fun e ⟨p, dx, h, vb, vk, vp, vm, vr, h1, h2, h3, h4, h5, h6⟩ => ⟨p, dx, h, vb, vk, vp, vm, vr, e _ _ h1, Rp.mono e h2, Rp.mono e h3, Rp.mono e h4, Rp.mono e h5, h6⟩⟩
def spState (K : PySem.W.Frag) : Sp := fun vs H Q _ => ∃ x dx vb vk vp vm vr, vs = [.ref x, vb, vk, vp, vm, vr] ∧ H x = some (.ins (He.ga K "State") dx []) ∧ ∀ H', Kp x H H' → H' x = some (.ins (He.ga K "State") dx [("batches", vb), ("kept", vk), ("plan", vp), ("made", vm), ("rows", vr)]) → Q .non H'
def firstOf (s : StateD) (stay : Nat) : Int := match s.made[stay]? with
  | some x => x.a
  | none => s.b.length
def withB (s : StateD) (c : List PR) (stay : Nat) : StateD :=
  let f := firstOf s stay
  let ru := madeL (s.b ++ [c]) s.k f s.b.length
  ⟨s.b ++ [c], s.k, s.plan ++ [f], s.made.take stay ++ [⟨f, s.b.length, ru⟩], s.rows + ru.length⟩
def withK (s : StateD) : StateD := ⟨s.b, s.k ++ [(s.b.length : Int) - 1], s.plan, s.made, s.rows⟩
structure StOk (s : StateD) : Prop where
  b : s.b.length ≤ 28
  c : ∀ x ∈ s.b, x.length ≤ 10 ∧ batchB x = true
  k : s.k.length ≤ 60
  asc : ascB 0 ((s.b.length : Int) - 1) s.k = true
  pl : s.plan.length ≤ 60
  md : s.made.length ≤ 60
  mf : ∀ x ∈ s.made, 0 ≤ x.a ∧ x.a ≤ s.b.length
/-- keys and hours tell the versions apart -/
def RawInj (bs : List (List PR)) (ks : List Int) (a b : Int) : Prop := ∀ x ∈ madeRaw bs ks a b, ∀ y ∈ madeRaw bs ks a b, kT x = kT y → x = y
section
variable {P : Program} {w : World} {K : PySem.W.Frag} {mg : PySem.Str → Option Value} {base : Heap}
section
variable {s : StateD} {ta : TE} {σ : L2.St} {H : Hp}
theorem er_stB (T : Tx w K mg) (ha : Er K ta σ H s) : Er K (tFld K ta "batches") σ H s.b := fun H1 e1 Q q => ha H1 e1 _ fun v H2 e2 hv => by
  obtain ⟨p, dx, rfl, vb, vk, vp, vm, vr, h1, h2, h3, h4, h5, h6⟩ := hv
  exact ⟨p, _, dx, _, vb, rfl, h1, T.c_State, T.n_State_batches, rfl, q _ H2 e2 h2⟩
theorem er_stK (T : Tx w K mg) (ha : Er K ta σ H s) : Er K (tFld K ta "kept") σ H s.k := fun H1 e1 Q q => ha H1 e1 _ fun v H2 e2 hv => by
  obtain ⟨p, dx, rfl, vb, vk, vp, vm, vr, h1, h2, h3, h4, h5, h6⟩ := hv
  exact ⟨p, _, dx, _, vk, rfl, h1, T.c_State, T.n_State_kept, rfl, q _ H2 e2 h3⟩
theorem er_stP (T : Tx w K mg) (ha : Er K ta σ H s) : Er K (tFld K ta "plan") σ H s.plan := fun H1 e1 Q q => ha H1 e1 _ fun v H2 e2 hv => by
  obtain ⟨p, dx, rfl, vb, vk, vp, vm, vr, h1, h2, h3, h4, h5, h6⟩ := hv
  exact ⟨p, _, dx, _, vp, rfl, h1, T.c_State, T.n_State_plan, rfl, q _ H2 e2 h4⟩
theorem er_stM (T : Tx w K mg) (ha : Er K ta σ H s) : Er K (tFld K ta "made") σ H s.made := fun H1 e1 Q q => ha H1 e1 _ fun v H2 e2 hv => by
  obtain ⟨p, dx, rfl, vb, vk, vp, vm, vr, h1, h2, h3, h4, h5, h6⟩ := hv
  exact ⟨p, _, dx, _, vm, rfl, h1, T.c_State, T.n_State_made, rfl, q _ H2 e2 h5⟩
theorem er_stR (T : Tx w K mg) (ha : Er K ta σ H s) : Er K (tFld K ta "rows") σ H s.rows := fun H1 e1 Q q => ha H1 e1 _ fun v H2 e2 hv => by
  obtain ⟨p, dx, rfl, vb, vk, vp, vm, vr, h1, h2, h3, h4, h5, h6⟩ := hv
  exact ⟨p, _, dx, _, vr, rfl, h1, T.c_State, T.n_State_rows, rfl, q _ H2 e2 h6⟩
theorem er_newState {E : L2.St → XK} {t1 t2 t3 t4 t5 : TE} {b k pl md ro} (h1 : Er K t1 σ H (b : List (List PR))) (h2 : Er K t2 σ H (k : List Int)) (h3 : Er K t3 σ H (pl : List Int)) (h4 : Er K t4 σ H (md : List (T3 Int Int (List TR)))) (h5 : Er K t5 σ H (ro : Int)) :
    Er K (tO (He.ga K "State") (spState K) E (tCons t1 (tCons t2 (tCons t3 (tCons t4 (tCons t5 tNil)))))) σ H (StateD.mk b k pl md ro) := fun H1 e1 Q q => h1 H1 e1 _ fun v1 H2 e2 g1 => h2 H2 (e1.trans e2) _ fun v2 H3 e3 g2 => h3 H3 ((e1.trans e2).trans e3) _ fun v3 H4 e4 g3 =>
  h4 H4 (((e1.trans e2).trans e3).trans e4) _ fun v4 H5 e5 g4 => h5 H5 ((((e1.trans e2).trans e3).trans e4).trans e5) _ fun v5 H6 e6 g5 => fun x dx nx ndx ne => by
    have e7 : Ex H6 (upd (upd H6 dx (.own x)) x (.ins (He.ga K "State") dx [])) := Ex.mut (Ex.new ndx) nx
    refine ⟨x, dx, v1, v2, v3, v4, v5, rfl, upd_same, fun H' kp hx => ⟨rfl, ?_⟩⟩
    have e8 : Ex H6 H' := Kp.ex e7 nx kp
    exact q _ H' (((((e2.trans e3).trans e4).trans e5).trans e6).trans e8) ⟨x, dx, rfl, v1, v2, v3, v4, v5, hx, Rp.mono ((((e3.trans e4).trans e5).trans e6).trans e8) g1, Rp.mono (((e4.trans e5).trans e6).trans e8) g2, Rp.mono ((e5.trans e6).trans e8) g3, Rp.mono (e6.trans e8) g4, g5⟩
/-- a method of a state that leaves what was tracked -/
theorem er_mSt0 {γ : Type} [Rp γ] {m : PySem.Str} {E : L2.St → XK} {f : StateD → γ} {pre : StateD → Prop} (ha : Er K ta σ H s) (hp : pre s) (hm : m = "last" ∨ m = "with_kept") : Er K (tM (He.ga K "State") m (Pu1 K pre f) E ta tNil) σ H (f s) := fun H1 e1 Q q => ha H1 e1 _ fun v H2 e2 hv => by
  have hv' := hv
  obtain ⟨p, dx, rfl, vb, vk, vp, vm, vr, h1, h2⟩ := hv
  refine ⟨p, dx, _, rfl, h1, ?_, .ref p, s, rfl, hv', hp, fun u H3 e3 hu => q u H3 (e2.trans e3) hu⟩
  rcases hm with rfl | rfl <;> rfl
end
theorem ok_State_init (T : Tx w K mg) : FnAt P w K mg base 1 (He.fAd K ("State", some "__init__")) (spState K) := by
  have S : FnScope ["self", "batches", "kept", "plan", "made", "rows"] ["self", "batches", "kept", "plan", "made", "rows"] (defScope s_State_init) := ⟨rfl, rfl, rfl, by decide +kernel, rfl, by decide +kernel, by decide +kernel⟩
  refine mk0 0 T.f_State_init S (fun _ _ _ _ _ _ us hl => match us, hl with | [_, _, _, _, _, _], _ => rfl) (fun vs H Q E h => by obtain ⟨_, _, _, _, _, _, _, rfl, _⟩ := h; rfl) fun cdv A outer s H vs Q E hr h => ?_
  obtain ⟨x, dx, vb, vk, vp, vm, vr, rfl, hx, q⟩ := h
  refine ⟨_, pss_cons (ps_fld (pv 0) (pv 1) rfl)
      (pss_cons (ps_fld (pv 0) (pv 2) rfl)
      (pss_cons (ps_fld (pv 0) (pv 3) rfl)
      (pss_cons (ps_fld (pv 0) (pv 4) rfl)
      (pss_one (ps_fld (pv 0) (pv 5) rfl))))), ?_⟩
  refine r_fldV (ev_var rfl) (ev_var rfl) hx T.c_State T.n_State_batches (by decide) fun H1 e1 => ?_
  refine r_fldV (ev_var rfl) (ev_var rfl) upd_same T.c_State T.n_State_kept (by show (1 : Nat) < 1000; decide) fun H2 e2 => ?_
  refine r_fldV (ev_var rfl) (ev_var rfl) upd_same T.c_State T.n_State_plan (by show (2 : Nat) < 1000; decide) fun H3 e3 => ?_
  refine r_fldV (ev_var rfl) (ev_var rfl) upd_same T.c_State T.n_State_made (by show (3 : Nat) < 1000; decide) fun H4 e4 => ?_
  refine r_fldV (ev_var rfl) (ev_var rfl) upd_same T.c_State T.n_State_rows (by show (4 : Nat) < 1000; decide) fun H5 e5 => ?_
  exact q _ ((((((((((Ex.kp e1).trans Kp.upd).trans (Ex.kp e2)).trans Kp.upd).trans (Ex.kp e3)).trans Kp.upd).trans (Ex.kp e4)).trans Kp.upd).trans (Ex.kp e5)).trans Kp.upd) upd_same
theorem ok_State_last (T : Tx w K mg) : FnAt P w K mg base 1 (He.fAd K ("State", some "last")) (Pu1 K (fun (_ : StateD) => True) fun s => (s.b.length : Int) - 1) := by
  have S : FnScope ["self"] ["self"] (defScope s_State_last) := ⟨rfl, rfl, rfl, by decide +kernel, rfl, by decide +kernel, by decide +kernel⟩
  refine mk0 0 T.f_State_last S (fun _ _ _ _ _ _ us hl => match us, hl with | [_], _ => rfl) (fun vs H Q E h => len1 h) fun cdv A outer s H vs Q E hr h => ?_
  obtain ⟨x, s, rfl, h_self, -, q⟩ := h
  refine ⟨_, pss_one (ps_ret (pe_op op_sub (pe_callB (lenK (K := K) rfl) rfl T.z_len (by decide +kernel) (pa_cons (fldK (K := K) rfl (pv 0)) pa_nil)) pe_int)), ?_⟩
  exact r_ret (K := K) (er_II (er_lenT (er_stB T (er_var rfl h_self))) (er_i 1)) q
theorem ok_State_with_kept (T : Tx w K mg) : FnAt P w K mg base 3 (He.fAd K ("State", some "with_kept")) (Pu1 K (fun (s : StateD) => s.k.length ≤ 1000) withK) := by
  have S : FnScope ["self"] ["self"] (defScope s_State_with_kept) := ⟨rfl, rfl, rfl, by decide +kernel, rfl, by decide +kernel, by decide +kernel⟩
  have G_State_init := ok_State_init (P := P) (base := base) T
  have G_State_last := ok_State_last (P := P) (base := base) T
  refine mk0 2 T.f_State_with_kept S (fun _ _ _ _ _ _ us hl => match us, hl with | [_], _ => rfl) (fun vs H Q E h => len1 h) fun cdv A outer s H vs Q E hr h => ?_
  obtain ⟨x, s, rfl, h_self, hl, q⟩ := h
  refine ⟨_, pss_one (ps_ret (pe_o T.mk_State G_State_init T.g_State hr (by decide) passN (pa_cons (fldK (K := K) rfl (pv 0)) (pa_cons (pe_op (catT (K := K) rfl) (fldK (K := K) rfl (pv 0)) (pe_tup (pa_cons (pe_m0 G_State_last T.c_State T.m_State_last hr (by decide) passN (pv 0)) pa_nil))) (pa_cons (fldK (K := K) rfl (pv 0)) (pa_cons (fldK (K := K) rfl (pv 0)) (pa_cons (fldK (K := K) rfl (pv 0)) pa_nil))))))), ?_⟩
  have hv := er_var (K := K) (σ := L2.start ["self"] [x]) (H := H) (i := 0) rfl h_self
  exact r_ret (K := K) (er_newState (er_stB T hv) (er_catT (er_stK T hv) (er_tup1 (er_mSt0 (f := fun s : StateD => (s.b.length : Int) - 1) hv trivial (.inl rfl))) (sz_of (by simp; omega))) (er_stP T hv) (er_stM T hv) (er_stR T hv)) q
theorem ok_State_runs_up_to (T : Tx w K mg) : FnAt P w K mg base 1 (He.fAd K ("State", some "runs_up_to")) (Pl2 K (fun (s : StateD) (_ : Int) => s.made.length < 100000) fun s h => (s.made.filter fun x => decide (x.a ≤ h)).map fun x => x.c) := by
  have S : FnScope ["self", "hour", "first", "last", "run"] ["self", "hour"] (defScope s_State_runs_up_to) := ⟨rfl, rfl, rfl, by decide +kernel, rfl, by decide +kernel, by decide +kernel⟩
  refine mk0 0 T.f_State_runs_up_to S (fun _ _ _ _ _ _ us hl => match us, hl with | [_, _], _ => rfl) (fun vs H Q E h => lenl2 h) fun cdv A outer s H vs Q E hr h => ?_
  obtain ⟨x, y, s, hh, rfl, h_self, h_hour, hl, q⟩ := h
  obtain rfl : y = .int hh := h_hour
  refine ⟨_, pss_one (ps_ret (pe_lc (own := [("first", 2), ("last", 3), ("run", 4)]) (g := gTup K 3 (gCons (gName 2) (gCons (gName 3) (gCons (gName 4) gNil)))) rfl S.nd (pi_tup (fldK (K := K) rfl (pv 0))) (blkOk_by (N := ["self", "hour", "first", "last", "run"]) (sc := defScope s_State_runs_up_to) (own := [("first", 2), ("last", 3), ("run", 4)]) (by decide +kernel)) (fun _ _ _ _ _ => pg_tup rfl (pgs_cons (pg_name (i := 2) S.nd rfl (Or.inl rfl)) (pgs_cons (pg_name (i := 3) S.nd rfl (Or.inl rfl)) (pgs_cons (pg_name (i := 4) S.nd rfl (Or.inl rfl)) pgs_nil)))) (fun _ _ _ _ _ => pts_one (pt_cmpR op_le (pv 2) (pv 1) (nomark _))) (fun _ _ _ _ _ => pv 4))), ?_⟩
  refine el_lc (p := fun x : T3 Int Int (List TR) => decide (x.a ≤ hh)) (f := fun x => x.c) (wr_tup (er_stM T (er_var rfl h_self))) hl (fun a v H1 ha e1 hv Q q => ?_) H (Ex.refl _) _ fun p xs H1 e1 hn h1 h2 => q p xs H1 e1 hn h1 h2
  obtain ⟨a1, a2, a3⟩ := a
  exact gb_trip hv fun y1 y2 y3 g1 g2 g3 => q _ _ (Ex.refl _) rfl (et_t (K := K) (er_IB (g := fun i j => decide (i ≤ j)) (er_var (a := a1) rfl g1) (er_var (a := hh) rfl rfl))) fun _ => er_var rfl g3
end
end Js
/-! ### with_batch, stores -/
namespace Js
open PySem PySem.Spec PyProof.Rows L2 Evl SX
open Rp (r)
theorem ascB_mono {m m' : Int} (h : m ≤ m') : ∀ {l : List Int} {lo : Int}, ascB lo m l = true → ascB lo m' l = true
  | [], _, _ => rfl
  | a :: l, lo, q => by
    unfold ascB at q ⊢
    rw [Bool.and_eq_true, Bool.and_eq_true, decide_eq_true_eq, decide_eq_true_eq] at q
    rw [Bool.and_eq_true, Bool.and_eq_true, decide_eq_true_eq, decide_eq_true_eq]
    exact ⟨⟨q.1.1, by omega⟩, ascB_mono h q.2⟩
structure PreB (s : StateD) (c : List PR) (n : Nat) : Prop where
  ok : StOk s
  cl : c.length ≤ 10
  cb : batchB c = true
  inj : RawInj (s.b ++ [c]) s.k (firstOf s n) s.b.length
theorem firstOf_le {s : StateD} (h : StOk s) (n : Nat) : 0 ≤ firstOf s n ∧ firstOf s n ≤ s.b.length := by
  unfold firstOf
  cases e : s.made[n]? with
  | none => exact ⟨show (0 : Int) ≤ (s.b.length : Int) by omega, Int.le_refl _⟩
  | some x => exact h.mf x (List.mem_of_getElem? e)
theorem PreB.feed {s : StateD} {c : List PR} {n : Nat} (h : PreB s c n) : feedOk (s.b ++ [c]) s.k := by
  have h1 := h.ok.b
  refine ⟨by simp, by simp; omega, fun x hx => ?_, ?_⟩
  · rcases List.mem_append.mp hx with hx | hx
    · have := h.ok.c x hx
      exact ⟨by omega, this.2⟩
    · rw [List.mem_singleton] at hx
      subst hx
      exact ⟨by have := h.cl; omega, h.cb⟩
  · exact ascB_mono (by simp; omega) h.ok.asc
structure StoreD where
  m : Int
  s : StateD
  n : Nat
def SoR (K : PySem.W.Frag) (H : Hp) (p dx : Addr) (vs : V) (l : Addr) (xs : List V) (d : StoreD) : Prop := H p = some (.ins (He.ga K "Store") dx [("most", .int d.m), ("state", vs), ("past", .ref l)]) ∧ r K H vs d.s ∧ H l = some (.lst xs) ∧ xs.length = d.n
theorem SoR.mono {K : PySem.W.Frag} {H H' : Hp} {p dx : Addr} {vs : V} {l : Addr} {xs : List V} {d : StoreD} (e : Ex H H') (h : SoR K H p dx vs l xs d) : SoR K H' p dx vs l xs d := ⟨e _ _ h.1, Rp.mono e h.2.1, e _ _ h.2.2.1, h.2.2.2⟩
instance : Rp StoreD := ⟨fun K H v d => ∃ p dx vs l xs, v = .ref p ∧ SoR K H p dx vs l xs d, fun e ⟨p, dx, vs, l, xs, h, h1⟩ => ⟨p, dx, vs, l, xs, h, h1.mono e⟩⟩
/-- all but what stands at p and l stays -/
def Kp2 (p l : Addr) (H H' : Hp) : Prop := ∀ a o, a ≠ p → a ≠ l → H a = some o → H' a = some o
theorem Kp2.ex {p l : Addr} {B H H' : Hp} (e : Ex B H) (h : B p = none) (h' : B l = none) (k : Kp2 p l H H') : Ex B H' := fun a o z => k a o (fun q => by rw [q, h] at z; cases z) (fun q => by rw [q, h'] at z; cases z) (e a o z)
theorem Ex.kp2 {p l : Addr} {H H' : Hp} (e : Ex H H') : Kp2 p l H H' := fun a o _ _ h => e a o h
theorem Kp2.trans {p l : Addr} {H H1 H2 : Hp} (a : Kp2 p l H H1) (b : Kp2 p l H1 H2) : Kp2 p l H H2 := fun x o h h' e => b x o h h' (a x o h h' e)
theorem Kp2.u1 {p l : Addr} {H : Hp} {o : HO} : Kp2 p l H (upd H p o) := fun a u h _ e => by rw [upd_ne h]; exact e
theorem Kp2.u2 {p l : Addr} {H : Hp} {o : HO} : Kp2 p l H (upd H l o) := fun a u _ h e => by rw [upd_ne h]; exact e
def spMost (K : PySem.W.Frag) : Sp := fun vs H Q E => ∃ m : Int, vs = [.int m] ∧ (((1 ≤ m ∧ m ≤ 30) ∧ ∀ H', Ex H H' → Q .non H') ∨ (¬ (1 ≤ m ∧ m ≤ 30) ∧ ∀ H', Ex H H' → E (.ref (He.ga K "NoNumber")) none H'))
def spStore (K : PySem.W.Frag) : Sp := fun vs H Q E => ∃ x dx m, vs = [.ref x, .int m] ∧ H x = some (.ins (He.ga K "Store") dx []) ∧ (((1 ≤ m ∧ m ≤ 30) ∧ ∀ v l H', Kp x H H' → H l = none → SoR K H' x dx v l [] ⟨m, ⟨[], [], [], [], 0⟩, 0⟩ → Q .non H') ∨
  (¬ (1 ≤ m ∧ m ≤ 30) ∧ ∀ H', Ex H H' → E (.ref (He.ga K "NoNumber")) none H'))
def spChange (K : PySem.W.Frag) : Sp := fun vs H Q _ => ∃ x dx vs0 v l xs m, vs = [.ref x, v] ∧ H x = some (.ins (He.ga K "Store") dx [("most", .int m), ("state", vs0), ("past", .ref l)]) ∧ H l = some (.lst xs) ∧ xs.length < 90000 ∧
  ∀ H', Kp2 x l H H' → ExT H H' → H' x = some (.ins (He.ga K "Store") dx [("most", .int m), ("state", v), ("past", .ref l)]) → H' l = some (.lst (xs ++ [vs0])) → Q .non H'
/-- a store that is changed in its place -/
def spPut (K : PySem.W.Frag) : Sp := fun vs H Q _ => ∃ x dx v0 l xs d vb c n, vs = [.ref x, vb, .int (n : Nat)] ∧ SoR K H x dx v0 l xs d ∧ r K H vb c ∧ PreB d.s c n ∧ ((n : Int) ≤ d.s.made.length ∧ (n : Int) ≤ d.m - 1) ∧ d.n < 90000 ∧
  ∀ v1 xs1 H', Kp2 x l H H' → SoR K H' x dx v1 l xs1 ⟨d.m, withB d.s c n, d.n + 1⟩ → Q .non H'
def spKeep (K : PySem.W.Frag) : Sp := fun vs H Q _ => ∃ x dx v0 l xs d, vs = [.ref x] ∧ SoR K H x dx v0 l xs d ∧ 0 < d.s.b.length ∧ ((d.s.b.length : Int) - 1) ∉ d.s.k ∧ d.s.k.length ≤ 1000 ∧ d.n < 90000 ∧
  ∀ v1 xs1 H', Kp2 x l H H' → SoR K H' x dx v1 l xs1 ⟨d.m, withK d.s, d.n + 1⟩ → Q .non H'
section
variable {P : Program} {w : World} {K : PySem.W.Frag} {mg : PySem.Str → Option Value} {base : Heap}
def preMade (f : FeedD) (a b : Int) : Prop := (0 ≤ a ∧ a ≤ b ∧ b < f.b.length ∧ f.b.length ≤ 30 ∧ (∀ c ∈ f.b, c.length ≤ 10) ∧ f.k.length ≤ 100) ∧ RawInj f.b f.k a b
theorem exT_kp {p : Addr} {C dx : Addr} {fs : List (PySem.Str × V)} {H H' : Hp} (k : Kp p H H') (h : H p = some (.ins C dx fs)) : ExT H H' := fun K q zs hs => by
  rcases hs with (hs | ⟨o, hs⟩) | hs
  · exact .inl (.inl (k _ _ (fun z => by rw [z, h] at hs; cases hs) hs))
  · exact .inl (.inr ⟨o, k _ _ (fun z => by rw [z, h] at hs; cases hs) hs⟩)
  · exact .inr hs
/-- a state stays where an object that is none changes -/
theorem st_stay {x C dx : Addr} {fs : List (PySem.Str × V)} {v : V} {s : StateD} {H H' : Hp} (hx : H x = some (.ins C dx fs)) (hl : fs.length ≠ 5) (k : ∀ p, p ≠ x → ∀ D dy gs, H p = some (.ins D dy gs) → H' p = some (.ins D dy gs)) (et : ExT H H') (h : r K H v s) : r K H' v s := by
  obtain ⟨p, dy, rfl, vb, vk, vp, vm, vr, h1, h2, h3, h4, h5, h6⟩ := h
  have np : p ≠ x := fun z => by
    rw [z, hx] at h1
    cases h1
    exact hl rfl
  exact ⟨p, dy, rfl, vb, vk, vp, vm, vr, k p np _ _ _ h1, RpT.t et h2, RpT.t et h3, RpT.t et h4, RpT.t et h5, h6⟩
theorem r_fldL {α : Type} [Rp α] {as : List α} {p C dx : Addr} {fs : List (PySem.Str × V)} {f : PySem.Str} {ta tv : TE} {D : Ends} {σ : L2.St} {H : Hp} (hv : El K tv σ H as) (ho : ∀ H1, Ex H H1 → Ev ta σ H1 (.ref p)) (hp : H p = some (.ins C dx fs)) (hc : Cls K C) (hn : NoAttr K C f) (hl : fs.length < 1000)
    (k : ∀ l xs H1, Ex H H1 → H l = none → H1 l = some (.lst xs) → Paired (r K H1) xs as → D.nx σ (upd H1 p (.ins C dx (putF f (.ref l) fs)))) : sFld K ta tv f D σ H := hv H (Ex.refl H) _ fun l xs H1 e1 nl h1 h2 => ho H1 e1 H1 (Ex.refl _) _ fun H2 e2 => ⟨p, C, dx, fs, rfl, e2 _ _ (e1 _ _ hp), hc, hn, hl, k l xs H2 (e1.trans e2) nl (e2 _ _ h1) (pd_map h2 fun _ _ z => Rp.mono e2 z)⟩
theorem made_F {k : Nat} {p : Addr} (G : FnAt P w K mg base k p (spMade K)) : FnAt P w K mg base k p (Pu3 K preMade fun f a b => madeL f.b f.k a b) := G.imp fun vs H Q E h => by
  obtain ⟨x, y, z, f, a, b, rfl, hx, rfl, rfl, hp, q⟩ := h
  exact ⟨x, f, a, b, rfl, hx, hp.1, hp.2, fun v H' bs e hv hpm hs => q v H' e (by show r K H' v (madeL f.b f.k a b); rw [show madeL f.b f.k a b = bs from (sortT_is hpm hs hp.2).symm]; exact hv)⟩
theorem er_t3a' {x : T3 Int Int (List TR)} {ta : TE} {σ H} (ha : Er K ta σ H x) : Er K (tOp (rIxT K) ta (tC (.int 0))) σ H x.a := by
  obtain ⟨a, b, c⟩ := x
  exact er_t3a ha
theorem ok_State_with_batch (T : Tx w K mg) : FnAt P w K mg base 8 (He.fAd K ("State", some "with_batch")) (Pu3 K PreB withB) := by
  have S : FnScope ["self", "batch", "stay", "batches", "hour", "first", "run", "made"] ["self", "batch", "stay"] (defScope s_State_with_batch) := ⟨rfl, rfl, rfl, by decide +kernel, rfl, by decide +kernel, by decide +kernel⟩
  have G_made_run := ok_made_run (P := P) (base := base) T
  have G_Feed_init := ok_Feed_init (P := P) (base := base) T
  have G_State_init := ok_State_init (P := P) (base := base) T
  refine mk0 7 T.f_State_with_batch S (fun _ _ _ _ _ _ us hl => match us, hl with | [_, _, _], _ => rfl) (fun vs H Q E h => len3 h) fun cdv A outer s H vs Q E hr h => ?_
  obtain ⟨x, y, z, s, c, n, rfl, h_self, h_batch, h_stay, hp, q⟩ := h
  obtain rfl : z = .int (n : Int) := h_stay
  have G_made_run := made_F G_made_run
  refine ⟨_, pss_cons (ps_set (i := 3) S.nd rfl (Or.inl rfl) (pe_op (catT (K := K) rfl) (fldK (K := K) rfl (pv 0)) (pe_tup (pa_cons (pv 1) pa_nil))))
      (pss_cons (ps_set (i := 4) S.nd rfl (Or.inl rfl) (pe_callB (lenK (K := K) rfl) rfl T.z_len (by decide +kernel) (pa_cons (fldK (K := K) rfl (pv 0)) pa_nil)))
      (pss_cons (ps_set (i := 5) S.nd rfl (Or.inl rfl) (pe_ifExp (pt_cmpR op_lt (pv 2) (pe_callB (lenK (K := K) rfl) rfl T.z_len (by decide +kernel) (pa_cons (fldK (K := K) rfl (pv 0)) pa_nil)) (nomark _)) (pe_ix (ixT (K := K) rfl) (pe_ix (ixT (K := K) rfl) (fldK (K := K) rfl (pv 0)) (pv 2) (fun _ _ => rfl)) pe_int (fun _ _ => rfl)) (pv 4)))
      (pss_cons (ps_set (i := 6) S.nd rfl (Or.inl rfl) (pe_f G_made_run T.g_made_run hr (by decide) passN (pa_cons (pe_o T.mk_Feed G_Feed_init T.g_Feed hr (by decide) passN (pa_cons (pv 3) (pa_cons (fldK (K := K) rfl (pv 0)) pa_nil))) (pa_cons (pv 5) (pa_cons (pv 4) pa_nil)))))
      (pss_cons (ps_set (i := 7) S.nd rfl (Or.inl rfl) (pe_op (catT (K := K) rfl) (pe_slice (slT (K := K) rfl) (fldK (K := K) rfl (pv 0)) po_none (po_some (pv 2))) (pe_tup (pa_cons (pe_tup (pa_cons (pv 5) (pa_cons (pv 4) (pa_cons (pv 6) pa_nil)))) pa_nil))))
      (pss_one (ps_ret (pe_o T.mk_State G_State_init T.g_State hr (by decide) passN (pa_cons (pv 3) (pa_cons (fldK (K := K) rfl (pv 0)) (pa_cons (pe_op (catT (K := K) rfl) (fldK (K := K) rfl (pv 0)) (pe_tup (pa_cons (pv 5) pa_nil))) (pa_cons (pv 7) (pa_cons (pe_op op_add (fldK (K := K) rfl (pv 0)) (pe_callB (lenK (K := K) rfl) rfl T.z_len (by decide +kernel) (pa_cons (pv 6) pa_nil))) pa_nil)))))))))))), ?_⟩
  have hok := hp.ok
  have hb := hok.b
  obtain ⟨f0, f1⟩ := firstOf_le hok n
  refine r_set (K := K) (er_catT (er_stB T (er_var rfl h_self)) (er_tup1 (er_var rfl h_batch)) (sz_of (by simp; omega))) fun v1 H1 e1 h_batches => ?_
  refine r_set (K := K) (er_lenT (er_stB T (er_var rfl (Rp.mono e1 h_self)))) fun v2 H2 e2 h_hour => ?_
  obtain rfl : v2 = .int (s.b.length : Int) := h_hour
  have e12 := e1.trans e2
  refine r_set (K := K) (er_if (a := firstOf s n) (et_t (K := K) (er_IB (g := fun i j => decide (i < j)) (er_var (a := (n : Int)) rfl rfl) (er_lenT (er_stM T (er_var rfl (Rp.mono e12 h_self)))))) (fun hc => ?_) fun hc => ?_) fun v3 H3 e3 h_first => ?_
  · have hn : n < s.made.length := by have := of_decide_eq_true hc; omega
    have hat := List.getElem?_eq_getElem hn
    rw [show firstOf s n = s.made[n].a by unfold firstOf; rw [hat]]
    exact er_t3a' (er_ixT (er_stM T (er_var rfl (Rp.mono e12 h_self))) (er_var (a := (n : Int)) rfl rfl) rfl hat)
  · have hn : ¬ n < s.made.length := by have := of_decide_eq_false hc; omega
    rw [show firstOf s n = s.b.length by unfold firstOf; rw [List.getElem?_eq_none (by omega)]]
    exact er_var rfl rfl
  obtain rfl : v3 = .int (firstOf s n) := h_first
  have e13 := e12.trans e3
  have hc10 : ∀ a ∈ s.b ++ [c], a.length ≤ 10 := fun a ha => by
    rcases List.mem_append.mp ha with ha | ha
    · exact (hok.c a ha).1
    · rw [List.mem_singleton] at ha
      subst ha
      exact hp.cl
  refine r_set (K := K) (er_f3 (er_newFeed (er_var rfl (Rp.mono (e2.trans e3) h_batches)) (er_stK T (er_var rfl (Rp.mono e13 h_self))) hp.feed) (er_var (a := firstOf s n) rfl rfl) (er_var (a := (s.b.length : Int)) rfl rfl) ⟨⟨f0, f1, by simp; omega, by simp; omega, hc10, by have := hok.k; show s.k.length ≤ 100; omega⟩, hp.inj⟩) fun v4 H4 e4 h_run => ?_
  have e14 := e13.trans e4
  have hml := hok.md
  have hpl := hok.pl
  refine r_set (K := K) (er_catT (er_slT (er_stM T (er_var rfl (Rp.mono e14 h_self))) (er_var (a := n) rfl rfl)) (er_tup1 (er_tup3 (er_var (a := firstOf s n) rfl rfl) (er_var (a := (s.b.length : Int)) rfl rfl) (er_var rfl h_run))) (sz_of (by rw [List.length_take]; simp; omega))) fun v5 H5 e5 h_made => ?_
  have e15 := e14.trans e5
  have hv := Rp.mono e15 h_self
  refine r_ret (K := K) (Er.is (a' := withB s c n) (er_newState (er_var rfl (Rp.mono (((e2.trans e3).trans e4).trans e5) h_batches)) (er_stK T (er_var rfl hv)) (er_catT (er_stP T (er_var rfl hv)) (er_tup1 (er_var (a := firstOf s n) rfl rfl)) (sz_of (by simp; omega))) (er_var rfl h_made) (er_II (g := fun i j => i + j) (er_stR T (er_var rfl hv)) (er_lenT (er_var rfl (Rp.mono e5 h_run))))) rfl) fun v H6 e6 h => q v H6 (e15.trans e6) h
theorem ok_check_most (T : Tx w K mg) : FnAt P w K mg base 4 (He.fAd K ("check_most", none)) (spMost K) := by
  have S : FnScope ["most"] ["most"] (defScope s_check_most) := ⟨rfl, rfl, rfl, by decide +kernel, rfl, by decide +kernel, by decide +kernel⟩
  have G_check_number := ok_check_number (P := P) (base := base) T
  refine mkX 3 T.f_check_most S (fun _ _ _ _ _ _ us hl => match us, hl with | [_], _ => rfl) (fun vs H Q E h => by obtain ⟨_, rfl, _⟩ := h; rfl) fun cdv A outer s H vs Q E hr h => ?_
  obtain ⟨m, rfl, q⟩ := h
  refine ⟨_, pss_one (ps_expr (pe_f G_check_number T.g_check_number hr (by decide) (fun σ => passAt (takes_of rfl rfl rfl rfl) σ) (pa_cons (pv 0) (pa_cons pe_int (pa_cons (pe_gi T.i_MOST_RUNS) pa_nil))))), ?_⟩
  exact ⟨.int m, rfl, m, 1, 30, rfl, q⟩
theorem ok_Store_init (T : Tx w K mg) : FnAt P w K mg base 5 (He.fAd K ("Store", some "__init__")) (spStore K) := by
  have S : FnScope ["self", "most"] ["self", "most"] (defScope s_Store_init) := ⟨rfl, rfl, rfl, by decide +kernel, rfl, by decide +kernel, by decide +kernel⟩
  have G_check_most := ok_check_most (P := P) (base := base) T
  have G_State_init := ok_State_init (P := P) (base := base) T
  refine mkX 4 T.f_Store_init S (fun _ _ _ _ _ _ us hl => match us, hl with | [_, _], _ => rfl) (fun vs H Q E h => by obtain ⟨_, _, _, rfl, _⟩ := h; rfl) fun cdv A outer s H vs Q E hr h => ?_
  obtain ⟨x, dx, m, rfl, hx, q⟩ := h
  refine ⟨_, pss_cons (ps_expr (pe_f G_check_most T.g_check_most hr (by decide) (fun σ => passAt (takes_of rfl rfl rfl rfl) σ) (pa_cons (pv 1) pa_nil)))
      (pss_cons (ps_fld (pv 0) (pv 1) rfl)
      (pss_cons (ps_fld (pv 0) (pe_o T.mk_State G_State_init T.g_State hr (by decide) passN (pa_cons (pe_tup pa_nil) (pa_cons (pe_tup pa_nil) (pa_cons (pe_tup pa_nil) (pa_cons (pe_tup pa_nil) (pa_cons pe_int pa_nil)))))) rfl)
      (pss_one (ps_fld (pv 0) (pe_lst pa_nil) rfl)))), ?_⟩
  refine ⟨.int m, rfl, m, rfl, ?_⟩
  rcases q with ⟨hm, q⟩ | ⟨hm, q⟩
  · refine .inl ⟨hm, fun H1 e1 => ?_⟩
    refine r_fldV (ev_var rfl) (ev_var rfl) (e1 _ _ hx) T.c_Store T.n_Store_most (by decide) fun H2 e2 => ?_
    refine r_fld (a := (⟨[], [], [], [], 0⟩ : StateD)) (v := .non) (er_newState er_tup0 er_tup0 er_tup0 er_tup0 (er_i 0)) (fun H1 e => ev_var rfl) upd_same T.c_Store T.n_Store_state (by show (1 : Nat) < 1000; decide) fun y H3 e3 hy => ?_
    refine r_fldL (as := ([] : List Int)) el_0 (fun H1 e => ev_var rfl) upd_same T.c_Store T.n_Store_past (by show (2 : Nat) < 1000; decide) fun l xs H5 e5 hn h1 h2 => ?_
    cases h2
    have nlx : l ≠ x := fun z => by rw [z, upd_same] at hn; cases hn
    have kp : Kp x H (upd H5 x (.ins (He.ga K "Store") dx [("most", .int m), ("state", y), ("past", .ref l)])) := (((((Ex.kp (e1.trans e2)).trans Kp.upd).trans (Ex.kp e3)).trans Kp.upd).trans (Ex.kp e5)).trans Kp.upd
    refine q y l _ kp ?_ ⟨upd_same, ?_, ?_, rfl⟩
    · cases hl : H l with
      | none => rfl
      | some o =>
        have k3 : Kp x H (upd H3 x (.ins (He.ga K "Store") dx [("most", .int m), ("state", y)])) := ((((Ex.kp (e1.trans e2)).trans Kp.upd).trans (Ex.kp e3)).trans Kp.upd)
        have := k3 _ _ nlx hl
        rw [show upd H3 x (.ins (He.ga K "Store") dx [("most", .int m), ("state", y)]) l = none from hn] at this
        cases this
    · have hx3 := e3 _ _ (upd_same (H := H2))
      have k4 : Kp x H3 (upd H5 x (.ins (He.ga K "Store") dx [("most", .int m), ("state", y), ("past", .ref l)])) := (Kp.upd.trans (Ex.kp e5)).trans Kp.upd
      exact st_stay hx3 (by show (1 : Nat) ≠ 5; decide) (fun p np _ _ _ hp => k4 p _ np hp) (exT_kp k4 hx3) hy
    · rw [upd_ne nlx]
      exact h1
  · exact .inr ⟨hm, q⟩
end
end Js
/-! ### methods of a store -/
namespace Js
open PySem PySem.Spec PyProof.Rows L2 Evl SX
open Rp (r)
section
variable {P : Program} {w : World} {K : PySem.W.Frag} {mg : PySem.Str → Option Value} {base : Heap}
section
variable {d : StoreD} {s : StateD} {ta tb tc : TE} {σ : L2.St} {H : Hp}
theorem er_soS (T : Tx w K mg) (ha : Er K ta σ H d) : Er K (tFld K ta "state") σ H d.s := fun H1 e1 Q q => ha H1 e1 _ fun v H2 e2 hv => by
  obtain ⟨p, dx, vs, l, xs, rfl, h1, h2, h3, h4⟩ := hv
  exact ⟨p, _, dx, _, vs, rfl, h1, T.c_Store, T.n_Store_state, rfl, q _ H2 e2 h2⟩
theorem er_soM (T : Tx w K mg) (ha : Er K ta σ H d) : Er K (tFld K ta "most") σ H d.m := fun H1 e1 Q q => ha H1 e1 _ fun v H2 e2 hv => by
  obtain ⟨p, dx, vs, l, xs, rfl, h1, h2, h3, h4⟩ := hv
  exact ⟨p, _, dx, _, _, rfl, h1, T.c_Store, T.n_Store_most, rfl, q _ H2 e2 rfl⟩
theorem er_mSo0 {γ : Type} [Rp γ] {m : PySem.Str} {E : L2.St → XK} {f : StoreD → γ} {pre : StoreD → Prop} (ha : Er K ta σ H d) (hp : pre d) (hm : m = "rows" ∨ m = "plan") : Er K (tM (He.ga K "Store") m (Pu1 K pre f) E ta tNil) σ H (f d) := fun H1 e1 Q q => ha H1 e1 _ fun v H2 e2 hv => by
  have hv' := hv
  obtain ⟨p, dx, vs, l, xs, rfl, h1, h2⟩ := hv
  refine ⟨p, dx, _, rfl, h1, ?_, .ref p, d, rfl, hv', hp, fun u H3 e3 hu => q u H3 (e2.trans e3) hu⟩
  rcases hm with rfl | rfl <;> rfl
theorem el_runs {E : L2.St → XK} {f : StoreD → List (List TR)} {pre : StoreD → Prop} (ha : Er K ta σ H d) (hp : pre d) : El K (tM (He.ga K "Store") "runs" (Pl1 K pre f) E ta tNil) σ H (f d) := fun H1 e1 Q q => ha H1 e1 _ fun v H2 e2 hv => by
  have hv' := hv
  obtain ⟨p, dx, vs, l, xs, rfl, h1, h2⟩ := hv
  exact ⟨p, dx, _, rfl, h1, rfl, .ref p, d, rfl, hv', hp, fun p xs H3 e3 hn g1 g2 => q p xs H3 (e2.trans e3) (fresh_back e2 hn) g1 g2⟩
theorem el_upTo {E : L2.St → XK} {h : Int} {f : StateD → Int → List (List TR)} {pre : StateD → Int → Prop} (ha : Er K ta σ H s) (hb : Er K tb σ H h) (hp : pre s h) : El K (tM (He.ga K "State") "runs_up_to" (Pl2 K pre f) E ta (tCons tb tNil)) σ H (f s h) := fun H1 e1 Q q => ha H1 e1 _ fun v H2 e2 hv => by
  have hv' := hv
  obtain ⟨p, dx, rfl, vb, vk, vp, vm, vr, h1, h2⟩ := hv
  exact ⟨p, dx, _, rfl, h1, rfl, hb H2 (e1.trans e2) _ fun u H3 e3 hu => ⟨.ref p, u, s, h, rfl, Rp.mono e3 hv', hu, hp, fun p xs H4 e4 hn g1 g2 => q p xs H4 ((e2.trans e3).trans e4) (fresh_back e2 (fresh_back e3 hn)) g1 g2⟩⟩
theorem er_with {E : L2.St → XK} {c : List PR} {n : Nat} (ha : Er K ta σ H s) (hb : Er K tb σ H c) (hc : Er K tc σ H n) (hp : PreB s c n) : Er K (tM (He.ga K "State") "with_batch" (Pu3 K PreB withB) E ta (tCons tb (tCons tc tNil))) σ H (withB s c n) := fun H1 e1 Q q => ha H1 e1 _ fun v H2 e2 hv => by
  have hv' := hv
  obtain ⟨p, dx, rfl, vb, vk, vp, vm, vr, h1, h2⟩ := hv
  exact ⟨p, dx, _, rfl, h1, rfl, hb H2 (e1.trans e2) _ fun u H3 e3 hu => hc H3 ((e1.trans e2).trans e3) _ fun u2 H4 e4 hu2 => ⟨.ref p, u, u2, s, c, n, rfl, Rp.mono (e3.trans e4) hv', Rp.mono e4 hu, hu2, hp, fun y H5 e5 hy => q y H5 (((e2.trans e3).trans e4).trans e5) hy⟩⟩
/-- self.change(e), e a new state -/
theorem r_change {D : Ends} {x dx l : Addr} {v0 : V} {xs : List V} {m : Int} {s' : StateD} (hx : H x = some (.ins (He.ga K "Store") dx [("most", .int m), ("state", v0), ("past", .ref l)])) (hl : H l = some (.lst xs)) (hn : xs.length < 90000) (ha : Ev ta σ H (.ref x)) (hb : Er K tb σ H s')
    (q : ∀ v H', Kp2 x l H H' → SoR K H' x dx v l (xs ++ [v0]) ⟨m, s', xs.length + 1⟩ → D.nx σ H') : tDrop (tM (He.ga K "Store") "change" (spChange K) eN ta (tCons tb tNil)) D σ H := ha H (Ex.refl _) _ fun H1 e1 => ⟨x, dx, _, rfl, e1 _ _ hx, rfl, hb H1 e1 _ fun v H2 e2 hv =>
  ⟨x, dx, v0, v, l, xs, m, rfl, e2 _ _ (e1 _ _ hx), e2 _ _ (e1 _ _ hl), hn, fun H' kp et h1 h2 => q v H' ((Ex.kp2 (e1.trans e2)).trans kp) ⟨h1, st_stay (e2 _ _ (e1 _ _ hx)) (by show (3 : Nat) ≠ 5; decide) (fun p np D dy gs hp => kp p _ np (fun z => by rw [z, e2 _ _ (e1 _ _ hl)] at hp; cases hp) hp) et hv, h2, by simp⟩⟩⟩
end
theorem r_chk {D : Ends} {pre bad : Int → Int → Int → Prop} {t l m : Int} {ta tb tc : TE} {σ : L2.St} {H : Hp} {E : L2.St → XK} (ha : Er K ta σ H t) (hb : Er K tb σ H l) (hc : Er K tc σ H m) (hp : pre t l m) (q : ∀ H', Ex H H' → D.nx σ H') : tDrop (tF (spNum K pre bad) E (tCons ta (tCons tb (tCons tc tNil)))) D σ H :=
  ha.evI H (Ex.refl _) _ fun H1 e1 => hb.evI H1 e1 _ fun H2 e2 => hc.evI H2 (e1.trans e2) _ fun H3 e3 => ⟨t, l, m, rfl, .inl ⟨hp, fun H' e => q H' (((e1.trans e2).trans e3).trans e)⟩⟩
theorem ok_Store_change (T : Tx w K mg) : FnAt P w K mg base 1 (He.fAd K ("Store", some "change")) (spChange K) := by
  have S : FnScope ["self", "state"] ["self", "state"] (defScope s_Store_change) := ⟨rfl, rfl, rfl, by decide +kernel, rfl, by decide +kernel, by decide +kernel⟩
  refine mk0 0 T.f_Store_change S (fun _ _ _ _ _ _ us hl => match us, hl with | [_, _], _ => rfl) (fun vs H Q E h => by obtain ⟨_, _, _, _, _, _, _, rfl, _⟩ := h; rfl) fun cdv A outer s H vs Q E hr h => ?_
  obtain ⟨x, dx, v0, v, l, xs, m, rfl, hx, hl, hn, q⟩ := h
  refine ⟨_, pss_cons (ps_expr (pe_bm PySem.F.plainAttrs_list PySem.F.slot_list_append PySem.F.type_list_append mt_append (fldK (K := K) rfl (pv 0)) (pa_cons (fldK (K := K) rfl (pv 0)) pa_nil)))
      (pss_one (ps_fld (pv 0) (pv 1) rfl)), ?_⟩
  have nlx : l ≠ x := fun z => by rw [z, hx] at hl; cases hl
  refine s_app (v := v0) hl (ev_fld (ev_var rfl) hx T.c_Store T.n_Store_past rfl) (ev_fld (ev_var rfl) hx T.c_Store T.n_Store_state rfl) (by omega) fun H1 e1 => ?_
  have hx1 : upd H1 l (.lst (xs ++ [v0])) x = some (.ins (He.ga K "Store") dx [("most", .int m), ("state", v0), ("past", .ref l)]) := by rw [upd_ne nlx.symm]; exact e1 _ _ hx
  refine r_fldV (ev_var rfl) (ev_var rfl) hx1 T.c_Store T.n_Store_state (by show (3 : Nat) < 1000; decide) fun H2 e2 => ?_
  exact q _ (((((Ex.kp2 e1).trans Kp2.u2).trans (Ex.kp2 e2)).trans Kp2.u1)) ((((Js.Ex.t e1).trans (ext_lst (e1 _ _ hl))).trans (Js.Ex.t e2)).trans (ext_ins (e2 _ _ hx1))) upd_same (by rw [upd_ne nlx]; exact e2 _ _ upd_same)
theorem ok_Store_put (T : Tx w K mg) : FnAt P w K mg base 9 (He.fAd K ("Store", some "put")) (spPut K) := by
  have S : FnScope ["self", "batch", "stay"] ["self", "batch", "stay"] (defScope s_Store_put) := ⟨rfl, rfl, rfl, by decide +kernel, rfl, by decide +kernel, by decide +kernel⟩
  have G_is_batch := ok_is_batch (P := P) (base := base) T
  have G_check_number := ok_check_number (P := P) (base := base) T
  have G_check_many := ok_check_many (P := P) (base := base) T
  have G_Store_change := ok_Store_change (P := P) (base := base) T
  have G_State_with_batch := ok_State_with_batch (P := P) (base := base) T
  refine mk0 8 T.f_Store_put S (fun _ _ _ _ _ _ us hl => match us, hl with | [_, _, _], _ => rfl) (fun vs H Q E h => by obtain ⟨_, _, _, _, _, _, _, _, _, rfl, _⟩ := h; rfl) fun cdv A outer s H vs Q E hr h => ?_
  obtain ⟨x, dx, v0, l, xs, d, vb, c, n, rfl, hso, h_batch, hp, ⟨hn1, hn2⟩, hn90, q⟩ := h
  refine ⟨_, pss_cons (ps_if (pt_not (pt_val (pe_f G_is_batch T.g_is_batch hr (by decide) passN (pa_cons (pv 1) pa_nil))))
        (pss_one (ps_never))
        (pss_nil))
      (pss_cons (ps_expr (pe_f G_check_number T.g_check_number hr (by decide) passN (pa_cons (pv 2) (pa_cons pe_int (pa_cons (pe_callB (call_min2 rfl) rfl T.z_min (by decide +kernel) (pa_cons (pe_callB (lenK (K := K) rfl) rfl T.z_len (by decide +kernel) (pa_cons (fldK (K := K) rfl (fldK (K := K) rfl (pv 0))) pa_nil)) (pa_cons (pe_op op_sub (fldK (K := K) rfl (pv 0)) pe_int) pa_nil))) pa_nil)))))
      (pss_cons (ps_expr (pe_f G_check_many T.g_check_many hr (by decide) passN (pa_cons (pe_op op_add (pe_callB (lenK (K := K) rfl) rfl T.z_len (by decide +kernel) (pa_cons (fldK (K := K) rfl (fldK (K := K) rfl (pv 0))) pa_nil)) pe_int) (pa_cons (pe_gi T.i_MOST_HOURS_feeds) pa_nil))))
      (pss_one (ps_expr (pe_m G_Store_change T.c_Store T.m_Store_change hr (by decide) passN (pv 0) (pa_cons (pe_m G_State_with_batch T.c_State T.m_State_with_batch hr (by decide) passN (fldK (K := K) rfl (pv 0)) (pa_cons (pv 1) (pa_cons (pv 2) pa_nil))) pa_nil)))))), ?_⟩
  have hv : r K H (.ref x) d := ⟨x, dx, v0, l, xs, rfl, hso⟩
  obtain ⟨g1, g2, g3, g4⟩ := id hso
  have hb := hp.ok.b
  refine r_if (et_not (et_v (K := K) (er_f1 (er_var rfl h_batch) (by have := hp.cl; show c.length < _; omega)))) (fun hc H1 e1 => ?_) fun hc H1 e1 => ?_
  · rw [hp.cb] at hc
    cases hc
  refine r_chk (er_var (a := (n : Int)) rfl rfl) (er_i 0) (er_min (er_lenT (er_stM T (er_soS T (er_var rfl (Rp.mono e1 hv))))) (er_II (er_soM T (er_var rfl (Rp.mono e1 hv))) (er_i 1))) ⟨by omega, by split <;> omega⟩ fun H2 e2 => ?_
  have e12 := e1.trans e2
  refine r_drop (K := K) (er_f2 (er_II (er_lenT (er_stB T (er_soS T (er_var rfl (Rp.mono e12 hv))))) (er_i 1)) (er_i 40) (by omega)) fun _ H3 e3 _ => ?_
  have e13 := e12.trans e3
  refine r_change (e13 _ _ g1) (e13 _ _ g3) (by omega) (ev_var rfl) (er_with (er_soS T (er_var rfl (Rp.mono e13 hv))) (er_var rfl (Rp.mono e13 h_batch)) (er_var (a := n) rfl rfl) hp) fun v1 H' kp hs => ?_
  rw [g4] at hs
  exact q v1 _ H' ((Ex.kp2 e13).trans kp) hs
theorem ok_Store_keep (T : Tx w K mg) : FnAt P w K mg base 4 (He.fAd K ("Store", some "keep")) (spKeep K) := by
  have S : FnScope ["self"] ["self"] (defScope s_Store_keep) := ⟨rfl, rfl, rfl, by decide +kernel, rfl, by decide +kernel, by decide +kernel⟩
  have G_State_last := ok_State_last (P := P) (base := base) T
  have G_Store_change := ok_Store_change (P := P) (base := base) T
  have G_State_with_kept := ok_State_with_kept (P := P) (base := base) T
  refine mk0 3 T.f_Store_keep S (fun _ _ _ _ _ _ us hl => match us, hl with | [_], _ => rfl) (fun vs H Q E h => by obtain ⟨_, _, _, _, _, _, rfl, _⟩ := h; rfl) fun cdv A outer s H vs Q E hr h => ?_
  obtain ⟨x, dx, v0, l, xs, d, rfl, hso, hb0, hnk, hk, hn90, q⟩ := h
  refine ⟨_, pss_cons (ps_if (PW.pt (pw_or (pt_cmpR op_lt (pe_m0 G_State_last T.c_State T.m_State_last hr (by decide) passN (fldK (K := K) rfl (pv 0))) pe_int (nomark _)) (pw_or1 (pt_cmpR (inK (K := K) rfl) (pe_m0 G_State_last T.c_State T.m_State_last hr (by decide) passN (fldK (K := K) rfl (pv 0))) (fldK (K := K) rfl (fldK (K := K) rfl (pv 0))) rfl))))
        (pss_one (ps_never))
        (pss_nil))
      (pss_one (ps_expr (pe_m G_Store_change T.c_Store T.m_Store_change hr (by decide) passN (pv 0) (pa_cons (pe_m0 G_State_with_kept T.c_State T.m_State_with_kept hr (by decide) passN (fldK (K := K) rfl (pv 0))) pa_nil)))), ?_⟩
  have hv : r K H (.ref x) d := ⟨x, dx, v0, l, xs, rfl, hso⟩
  obtain ⟨g1, g2, g3, g4⟩ := id hso
  have ls : ∀ {H1 : Hp}, Ex H H1 → Er K (tM (He.ga K "State") "last" (Pu1 K (fun (_ : StateD) => True) fun s => (s.b.length : Int) - 1) eN (tFld K (tVar 0) "state") tNil) (L2.start ["self"] [.ref x]) H1 ((d.s.b.length : Int) - 1) := fun e => er_mSt0 (f := fun s : StateD => (s.b.length : Int) - 1) (er_soS T (er_var rfl (Rp.mono e hv))) trivial (.inl rfl)
  refine r_if (et_or (et_t (K := K) (er_IB (g := fun i j => decide (i < j)) (ls (Ex.refl _)) (er_i 0))) fun _ => et_t (K := K) (er_inIT (ls (Ex.refl _)) (er_stK T (er_soS T (er_var rfl hv))))) (fun hc H1 e1 => ?_) fun hc H1 e1 => ?_
  · rw [Bool.or_eq_true, decide_eq_true_eq, decide_eq_true_eq] at hc
    rcases hc with hc | hc
    · omega
    · exact absurd hc hnk
  refine r_change (e1 _ _ g1) (e1 _ _ g3) (by omega) (ev_var rfl) (er_mSt0 (f := withK) (er_soS T (er_var rfl (Rp.mono e1 hv))) hk (.inr rfl)) fun v1 H' kp hs => ?_
  rw [g4] at hs
  exact q v1 _ H' ((Ex.kp2 e1).trans kp) hs
def runsD (d : StoreD) : List (List TR) := (d.s.made.filter fun x => decide (x.a ≤ (d.s.b.length : Int) - 1)).map fun x => x.c
theorem ok_Store_runs (T : Tx w K mg) : FnAt P w K mg base 2 (He.fAd K ("Store", some "runs")) (Pl1 K (fun (d : StoreD) => d.s.made.length < 100000) runsD) := by
  have S : FnScope ["self"] ["self"] (defScope s_Store_runs) := ⟨rfl, rfl, rfl, by decide +kernel, rfl, by decide +kernel, by decide +kernel⟩
  have G_State_runs_up_to := ok_State_runs_up_to (P := P) (base := base) T
  have G_State_last := ok_State_last (P := P) (base := base) T
  refine mk0 1 T.f_Store_runs S (fun _ _ _ _ _ _ us hl => match us, hl with | [_], _ => rfl) (fun vs H Q E h => lenl1 h) fun cdv A outer s H vs Q E hr h => ?_
  obtain ⟨x, d, rfl, h_self, hl, q⟩ := h
  refine ⟨_, pss_one (ps_ret (pe_m G_State_runs_up_to T.c_State T.m_State_runs_up_to hr (by decide) passN (fldK (K := K) rfl (pv 0)) (pa_cons (pe_m0 G_State_last T.c_State T.m_State_last hr (by decide) passN (fldK (K := K) rfl (pv 0))) pa_nil))), ?_⟩
  exact el_upTo (er_soS T (er_var rfl h_self)) (er_mSt0 (f := fun s : StateD => (s.b.length : Int) - 1) (er_soS T (er_var rfl h_self)) trivial (.inl rfl)) hl H (Ex.refl _) _ q
theorem ok_Store_rows (T : Tx w K mg) : FnAt P w K mg base 1 (He.fAd K ("Store", some "rows")) (Pu1 K (fun (_ : StoreD) => True) fun d => d.s.rows) := by
  have S : FnScope ["self"] ["self"] (defScope s_Store_rows) := ⟨rfl, rfl, rfl, by decide +kernel, rfl, by decide +kernel, by decide +kernel⟩
  refine mk0 0 T.f_Store_rows S (fun _ _ _ _ _ _ us hl => match us, hl with | [_], _ => rfl) (fun vs H Q E h => len1 h) fun cdv A outer s H vs Q E hr h => ?_
  obtain ⟨x, d, rfl, h_self, -, q⟩ := h
  refine ⟨_, pss_one (ps_ret (fldK (K := K) rfl (fldK (K := K) rfl (pv 0)))), ?_⟩
  exact r_ret (K := K) (er_stR T (er_soS T (er_var rfl h_self))) q
theorem ok_Store_plan (T : Tx w K mg) : FnAt P w K mg base 1 (He.fAd K ("Store", some "plan")) (Pu1 K (fun (_ : StoreD) => True) fun d => d.s.plan) := by
  have S : FnScope ["self"] ["self"] (defScope s_Store_plan) := ⟨rfl, rfl, rfl, by decide +kernel, rfl, by decide +kernel, by decide +kernel⟩
  refine mk0 0 T.f_Store_plan S (fun _ _ _ _ _ _ us hl => match us, hl with | [_], _ => rfl) (fun vs H Q E h => len1 h) fun cdv A outer s H vs Q E hr h => ?_
  obtain ⟨x, d, rfl, h_self, -, q⟩ := h
  refine ⟨_, pss_one (ps_ret (fldK (K := K) rfl (fldK (K := K) rfl (pv 0)))), ?_⟩
  exact r_ret (K := K) (er_stP T (er_soS T (er_var rfl h_self))) q
def spCopy (K : PySem.W.Frag) : Sp := fun vs H Q _ => ∃ x d, vs = [.ref x] ∧ r K H (.ref x) d ∧ (1 ≤ d.m ∧ d.m ≤ 30) ∧ ∀ p dx v l xs H', Ex H H' → H p = none → H l = none → SoR K H' p dx v l xs d → Q (.ref p) H'
theorem ok_Store_copy (T : Tx w K mg) : FnAt P w K mg base 7 (He.fAd K ("Store", some "copy")) (spCopy K) := by
  have S : FnScope ["self", "other"] ["self"] (defScope s_Store_copy) := ⟨rfl, rfl, rfl, by decide +kernel, rfl, by decide +kernel, by decide +kernel⟩
  have G_Store_init := ok_Store_init (P := P) (base := base) T
  refine mk0 6 T.f_Store_copy S (fun _ _ _ _ _ _ us hl => match us, hl with | [_], _ => rfl) (fun vs H Q E h => by obtain ⟨_, _, rfl, _⟩ := h; rfl) fun cdv A outer s H vs Q E hr h => ?_
  obtain ⟨x, d, rfl, h_self, hm, q⟩ := h
  refine ⟨_, pss_cons (ps_set (i := 1) S.nd rfl (Or.inl rfl) (pe_o T.mk_Store G_Store_init T.g_Store hr (by decide) passN (pa_cons (fldK (K := K) rfl (pv 0)) pa_nil)))
      (pss_cons (ps_fld (pv 1) (fldK (K := K) rfl (pv 0)) rfl)
      (pss_cons (ps_fld (pv 1) (pe_callTy (listK (K := K) rfl) rfl T.z_list (by decide +kernel) (pa_cons (fldK (K := K) rfl (pv 0)) pa_nil)) rfl)
      (pss_one (ps_ret (pv 1))))), ?_⟩
  obtain ⟨x', dx0, v0, l0, xs0, ex, g1, g2, g3, g4⟩ := id h_self
  cases ex
  refine er_soM T (er_var (σ := L2.start ["self", "other"] [.ref x]) (i := 0) rfl h_self) H (Ex.refl _) _ fun u H1 e1 hu => ?_
  obtain rfl : u = .int d.m := hu
  intro p dx np ndx ne
  refine ⟨p, dx, d.m, rfl, upd_same, .inl ⟨hm, fun v1 l1 H2 kp nl1 hs => ⟨rfl, ?_⟩⟩⟩
  have e2 : Ex H H2 := Kp.ex (e1.trans (Ex.mut (Ex.new ndx) np)) (fresh_back e1 np) kp
  have nHp := fresh_back e1 np
  obtain ⟨k1, k2, k3, k4⟩ := hs
  refine r_fldV (ev_fld (ev_var rfl) (e2 _ _ g1) T.c_Store T.n_Store_state rfl) (ev_var rfl) k1 T.c_Store T.n_Store_state (by show (3 : Nat) < 1000; decide) fun H3 e3 => ?_
  have e4 : Ex H (upd H3 p (.ins (He.ga K "Store") dx [("most", .int d.m), ("state", v0), ("past", .ref l1)])) := Ex.mut (e2.trans e3) nHp
  have hp4 : upd H3 p (.ins (He.ga K "Store") dx [("most", .int d.m), ("state", v0), ("past", .ref l1)]) p = some (.ins (He.ga K "Store") dx [("most", .int d.m), ("state", v0), ("past", .ref l1)]) := upd_same
  refine Evl.el_list (ev_fld (ev_var (σ := [some (.ref x), some (.ref p)]) (i := 0) rfl) (e4 _ _ g1) T.c_Store T.n_Store_past rfl) (sq_of (e4 _ _ g3)) _ (Ex.refl _) _ fun l H5 nl e5 hl => ?_
  have nHl := fresh_back e4 nl
  have nlp : l ≠ p := fun z => by rw [z, hp4] at nl; cases nl
  refine ⟨.ref p, rfl, p, _, dx, _, rfl, e5 _ _ hp4, T.c_Store, T.n_Store_past, by show (3 : Nat) < 1000; decide, .ref p, rfl, ?_⟩
  have e6 : Ex H (upd H5 p (.ins (He.ga K "Store") dx [("most", .int d.m), ("state", v0), ("past", .ref l)])) := Ex.mut (e4.trans e5) nHp
  exact q p dx v0 l xs0 _ e6 nHp nHl ⟨upd_same, Rp.mono e6 g2, by rw [upd_ne nlp]; exact hl, g4⟩
end
end Js
/-! ### stretch -/
namespace Js
open PySem PySem.Spec PyProof.Rows L2 Evl SX
open Rp (r)
def seenS (acc : List (Int × Option Int)) (ru : List TR) : List (Int × Option Int) := ru.foldl (fun a x => putA a x.a x.c) acc
def seenD (runs : List (List TR)) : List (Int × Option Int) := runs.foldl seenS []
def selP (lo hi : Int) (kv : Int × Option Int) : Bool := (decide (lo ≤ kv.1) && decide (kv.1 ≤ hi)) && kv.2.isSome
def selD (lo hi : Int) (al : List (Int × Option Int)) : List (Int × Int) := (al.filter (selP lo hi)).map fun kv => (kv.1, kv.2.getD 0)
def sortPP (l : List (Int × Int)) : List (Int × Int) := l.mergeSort fun x y => !SrtO.lexB y x
def strD (d : StoreD) (lo hi : Int) : List PR := (sortPP (selD lo hi (seenD (runsD d)))).map fun x => (x.1, some x.2)
theorem sortPP_is {l bs : List (Int × Int)} (hp : bs.Perm l) (hs : bs.Pairwise (fun x y => SrtO.lexB y x = false)) : bs = sortPP l := by
  have h1 : (sortPP l).Pairwise (fun a b => (!SrtO.lexB b a) = true) := List.pairwise_mergeSort (fun a b c h1 h2 => by
    rw [Bool.not_eq_true'] at *
    have p := SrtO.lexB_no.mp h1
    have q := SrtO.lexB_no.mp h2
    exact SrtO.lexB_no.mpr (by omega)) (fun a b => by
    rw [Bool.or_eq_true, Bool.not_eq_true', Bool.not_eq_true']
    by_cases h : SrtO.lexB b a = false
    · exact .inl h
    · right
      have p := SrtO.lexB_iff.mp (by simpa using h)
      exact SrtO.lexB_no.mpr (by omega)) l
  have h2 : (sortPP l).Perm l := List.mergeSort_perm l _
  refine pw_uniq (hp.trans h2.symm) hs (h1.imp fun h => by simpa using h) fun x hx y hy p q => ?_
  have a := SrtO.lexB_no.mp p
  have b := SrtO.lexB_no.mp q
  exact Prod.ext (by omega) (by omega)
theorem putA_len {κ β : Type} [DecidableEq κ] {al : List (κ × β)} {k : κ} {b : β} : (putA al k b).length ≤ al.length + 1 := by
  unfold putA
  split
  · rw [List.length_map]
    omega
  · simp
def spStretch (K : PySem.W.Frag) : Sp := fun vs H Q _ => ∃ (x : V) (d : StoreD) (lo hi : Int), vs = [x, .int lo, .int hi] ∧ r K H x d ∧ ((0 ≤ lo ∧ lo ≤ 999) ∧ (0 ≤ hi ∧ hi ≤ 999) ∧ d.s.made.length ≤ 60 ∧ ∀ ru ∈ runsD d, ru.length ≤ 1000) ∧
  ∀ p xs H', Ex H H' → H p = none → H' p = some (.lst xs) → Paired (r K H') xs (strD d lo hi) → Q (.ref p) H'
section
variable {P : Program} {w : World} {K : PySem.W.Frag} {mg : PySem.Str → Option Value} {base : Heap}
abbrev FO (K : PySem.W.Frag) : V → Option Int → Prop := fun v o => ∀ H, r K H v o
theorem fo_of {H : Hp} {v : V} {o : Option Int} (h : r K H v o) : FO K v o := fun H' => by cases o <;> exact h
theorem r_dputI {D : Ends} {σ : L2.St} {H : Hp} {d : Addr} {kvs : List (L2.Key × V)} {k : Int} {v : V} {td ty tv : TE} (hd : H d = some (.dK kvs)) (hl : kvs.length < 100000) (h1 : Ev tv σ H v) (h2 : Ev td σ H (.ref d)) (h3 : Ev ty σ H (.int k)) (q : ∀ H1, Ex H H1 → D.nx σ (upd H1 d (.dK (putK kvs (Sum.inl k) v)))) :
    sDPut td ty tv D σ H := h1 H (Ex.refl _) _ fun H1 e1 => h2 H1 e1 _ fun H2 e2 => h3 H2 (e1.trans e2) _ fun H3 e3 => ⟨d, _, rfl, DPut.k (k := Sum.inl k) ((e3 _ _ (e2 _ _ (e1 _ _ hd)))) (sz_lt hl), q H3 ((e1.trans e2).trans e3)⟩
theorem wr_items {σ : L2.St} {H : Hp} {d : Addr} {o : Obj} {kvs : List (L2.Key × V)} {al : List (Int × Option Int)} {te : TE} (he : Ev te σ H (.ref d)) (hd : H d = some (.frz o (.dK kvs))) (hk : DkR (FO K) Sum.inl kvs al) : Wr K (iItems te) σ H al := fun H1 e1 R q => he H1 e1 _ fun H2 e2 => by
  refine ⟨d, o, kvs, rfl, e2 _ _ (e1 _ _ hd), q (Iti d o kvs) (fun H => H d = some (.frz o (.dK kvs))) (YPair (fun i => kvs[i]?.map fun kv => kV kv.1) (fun i => kvs[i]?.map Prod.snd)) H2 e2 ?_ (e2 _ _ (e1 _ _ hd)) (fun _ _ e w => e _ _ w) fun i h x h' a ha e y => ?_⟩
  · rw [← pd_len hk]
    exact walk_items
  · obtain ⟨t, v1, v2, rfl, ht, rfl, y1, y2⟩ := y
    obtain ⟨kv, hkv, e1k⟩ := Option.map_eq_some_iff.mp y1
    obtain ⟨kv', hkv', e2k⟩ := Option.map_eq_some_iff.mp y2
    rw [hkv] at hkv'
    cases hkv'
    obtain ⟨a', ha', hk1, hk2⟩ := pd_get hk hkv
    rw [ha] at ha'
    cases ha'
    refine ⟨Ex.new ht, t, v1, v2, rfl, st_of upd_same, ?_, ?_⟩
    · rw [← e1k, hk1]
      rfl
    · rw [← e2k]
      exact hk2 _
theorem sql_kp {d p : Addr} {xs : List V} {kvs : List (L2.Key × V)} {H H' : Hp} (k : Kp d H H') (h : H d = some (.dK kvs)) (hs : SqL K H p xs) : SqL K H' p xs := by
  rcases hs with (hs | ⟨o, hs⟩) | hs
  · exact .inl (.inl (k _ _ (fun z => by rw [z, h] at hs; cases hs) hs))
  · exact .inl (.inr ⟨o, k _ _ (fun z => by rw [z, h] at hs; cases hs) hs⟩)
  · exact .inr hs
theorem kp_tD {p : Addr} {H H' : Hp} {kvs : List (L2.Key × V)} (k : Kp p H H') (h : H p = some (.dK kvs)) : ExT H H' := fun K q zs hs => by
  rcases hs with (hs | ⟨o, hs⟩) | hs
  · exact .inl (.inl (k _ _ (fun z => by rw [z, h] at hs; cases hs) hs))
  · exact .inl (.inr ⟨o, k _ _ (fun z => by rw [z, h] at hs; cases hs) hs⟩)
  · exact .inr hs
/-- sorted([e for k, v in d.items() if ..]) -/
theorem r_sortItems {Q : VK} {σ : L2.St} {H : Hp} {d : Addr} {kvs : List (L2.Key × V)} {al : List (Int × Option Int)} {te el : TE} {tt : TT} {g : TG} {vs : List Nat} {p : Int × Option Int → Bool} {f : Int × Option Int → Int × Int} (he : ∀ H, Ev te σ H (.ref d)) (hd : H d = some (.dK kvs)) (hk : DkR (FO K) Sum.inl kvs al) (hl : al.length < 100000)
    (hb : ∀ a v H1, a ∈ al → r K H1 v a → ∀ Q : L2.St → Hp → Prop, (∀ σ2 H2, Ex H1 H2 → wipe σ2 vs = wipe σ vs → EvT tt σ2 H2 (p a) → (p a = true → Er K el σ2 H2 (f a)) → Q σ2 H2) → g v (wipe σ vs) H1 Q)
    (q : ∀ l ys H', Kp d H H' → ExT H H' → H l = none → H' l = some (.lst ys) → Paired (r K H') ys (sortPP ((al.filter p).map f)) → Q (.ref l) H') :
    tCB (rSortP K) (tCons (tLockE (tLc (iItems te) g tt el vs)) tNil) σ H Q := by
  refine ⟨d, _, hd, trivial, fun od => ?_⟩
  have n1 : H d ≠ none := by rw [hd]; exact fun z => by cases z
  refine el_lc (p := p) (f := f) (wr_items (he _) upd_same hk) hl (fun a v H1 ha e1 hv Q q => hb a v H1 ha hv Q q) _ (Ex.refl _) _ fun l xs H2 e2 nl h1 h2 => ?_
  have hd2 := e2 _ _ (upd_same (H := H) (o := .frz od (.dK kvs)))
  have nld : l ≠ d := fun z => by rw [z, upd_same] at nl; cases nl
  refine ⟨hd2, ?_⟩
  have et : ExT H2 (upd H2 d (.dK kvs)) := ext_upd hd2 (fun _ z => by cases z) fun _ _ z => by cases z
  have kp0 : Kp d H (upd H2 d (.dK kvs)) := (Kp.upd.trans (Ex.kp e2)).trans Kp.upd
  have et0 : ExT H (upd H2 d (.dK kvs)) := kp_tD kp0 hd
  refine ⟨l, xs, _, rfl, sq_of (by rw [upd_ne nld]; exact h1), pd_map h2 fun _ _ z => RpT.t et z, fun ys bs p2 hy hpm hs hn => ?_⟩
  have nH : H p2 = none := by
    cases h : H p2 with
    | none => rfl
    | some o =>
      by_cases e : p2 = d
      · rw [e, upd_same] at hn
        cases hn
      · rw [kp0 _ _ e h] at hn
        cases hn
  refine q p2 ys _ (kp0.trans (Ex.kp (Ex.new hn))) (et0.trans (Js.Ex.t (Ex.new hn))) nH upd_same ?_
  rw [← sortPP_is hpm hs]
  exact pd_map hy fun _ _ z => Rp.mono (Ex.new hn) z
theorem ok_Store_stretch (T : Tx w K mg) : FnAt P w K mg base 5 (He.fAd K ("Store", some "stretch")) (spStretch K) := by
  have S : FnScope ["self", "low", "high", "found", "run", "key", "hour", "value"] ["self", "low", "high"] (defScope s_Store_stretch) := ⟨rfl, rfl, rfl, by decide +kernel, rfl, by decide +kernel, by decide +kernel⟩
  have G_check_key := ok_check_key (P := P) (base := base) T
  have G_Store_runs := ok_Store_runs (P := P) (base := base) T
  refine mk0 4 T.f_Store_stretch S (fun _ _ _ _ _ _ us hl => match us, hl with | [_, _, _], _ => rfl) (fun vs H Q E h => by obtain ⟨_, _, _, _, rfl, _⟩ := h; rfl) fun cdv A outer s H vs Q E hr h => ?_
  obtain ⟨x, dd, lo, hi, rfl, h_self, ⟨hlo, hhi, hm60, hru⟩, q⟩ := h
  refine ⟨_, pss_cons (ps_expr (pe_f G_check_key T.g_check_key hr (by decide) passN (pa_cons (pv 1) pa_nil)))
      (pss_cons (ps_expr (pe_f G_check_key T.g_check_key hr (by decide) passN (pa_cons (pv 2) pa_nil)))
      (pss_cons (ps_set (i := 3) S.nd rfl (Or.inl rfl) pe_dnewK)
      (pss_cons (ps_for PassesOwn.never rfl (pi_list (pe_m0 G_Store_runs T.c_Store T.m_Store_runs hr (by decide) passN (pv 0))) (pg_name (i := 4) S.nd rfl (Or.inl rfl))
        (pss_one (ps_for PassesOwn.never rfl (pi_tup (pv 4)) (pg_tup rfl (pgs_cons (pg_name (i := 5) S.nd rfl (Or.inl rfl)) (pgs_cons (pg_name (i := 6) S.nd rfl (Or.inl rfl)) (pgs_cons (pg_name (i := 7) S.nd rfl (Or.inl rfl)) pgs_nil))))
          (pss_one (ps_dput (hu_of hr) (pv 3) (pv 5) (pv 7) rfl)))))
      (pss_one (ps_ret (pe_callB (cr_sortP (K := K) rfl) rfl T.z_sorted (by decide +kernel) (pa_cons (pe_lock (pe_lc (own := [("key", 5), ("value", 7)]) (g := gTup K 2 (gCons (gName 5) (gCons (gName 7) gNil))) rfl S.nd (pi_items (pv 3)) (blkOk_by (N := ["self", "low", "high", "found", "run", "key", "hour", "value"]) (sc := defScope s_Store_stretch) (own := [("key", 5), ("value", 7)]) (by decide +kernel)) (fun _ _ _ _ _ => pg_tup rfl (pgs_cons (pg_name (i := 5) S.nd rfl (Or.inl rfl)) (pgs_cons (pg_name (i := 7) S.nd rfl (Or.inl rfl)) pgs_nil))) (fun _ _ _ _ _ => pts_one (PW.pt (pw_and (pt_chain op_le op_le (pv 1) (pv 5) (pv 2)) (pw_and1 (pt_cmpR op_notN (pv 7) pe_non (nomark _)))))) (fun _ _ _ _ _ => pe_tup (pa_cons (pv 5) (pa_cons (pv 7) pa_nil))))) pa_nil))))))), ?_⟩
  refine r_drop (K := K) (er_f1 (er_var (a := lo) rfl rfl) hlo) fun _ H1 e1 _ => ?_
  refine r_drop (K := K) (er_f1 (er_var (a := hi) rfl rfl) hhi) fun _ H2 e2 _ => ?_
  intro d nd
  have e3 : Ex H (upd H2 d (.dK [])) := (e1.trans e2).trans (Ex.new nd)
  have nHd := fresh_back (e1.trans e2) nd
  refine r_forL (K := K) (El.er' (el_runs (er_var rfl (Rp.mono e3 h_self)) (show dd.s.made.length < 100000 by omega))) fun p xs H4 e4 hs => ⟨fun i σ' H' => Kp d H4 H' ∧ (∃ kvs, H' d = some (.dK kvs) ∧ DkR (FO K) Sum.inl kvs (((runsD dd).take i).foldl seenS [])) ∧ (((runsD dd).take i).foldl seenS []).length ≤ 1000 * i ∧ ∃ n4 n5 n6 n7, σ' = [some x, some (.int lo), some (.int hi), some (.ref d), n4, n5, n6, n7], ?_, ?_, ?_, ?_⟩
  · exact ⟨fun _ _ _ h => h, ⟨[], e4 _ _ upd_same, .nil⟩, Nat.zero_le _, none, none, none, none, rfl⟩
  · exact fun i σ' H' pv => ⟨kp_tD pv.1 (e4 _ _ upd_same), sql_kp pv.1 (e4 _ _ upd_same) hs⟩
  · rintro i ru v σ' H' hgi hr' ⟨kp, ⟨kvs, hk1, hk2⟩, hlen, n4, n5, n6, n7, rfl⟩
    have hrl := hru ru (List.mem_of_getElem? hgi)
    have hi60 : i < 60 := by
      have := (List.getElem?_eq_some_iff.mp hgi).1
      have h2 : (runsD dd).length ≤ 60 := by
        unfold runsD
        rw [List.length_map]
        exact Nat.le_trans (List.length_filter_le _ _) hm60
      omega
    refine r_forT (K := K) (er_var rfl hr') fun H5 e5 => ⟨fun j σ' H'' => Kp d H4 H'' ∧ ExT H5 H'' ∧ (∃ kvs, H'' d = some (.dK kvs) ∧ DkR (FO K) Sum.inl kvs ((ru.take j).foldl (fun a x => putA a x.a x.c) (((runsD dd).take i).foldl seenS []))) ∧ ((ru.take j).foldl (fun a x => putA a x.a x.c) (((runsD dd).take i).foldl seenS [])).length ≤ 1000 * i + j ∧ ∃ n5 n6 n7, σ' = [some x, some (.int lo), some (.int hi), some (.ref d), some v, n5, n6, n7], ?_, ?_, ?_, ?_⟩
    · exact ⟨kp.trans (Ex.kp e5), ExT.refl _, ⟨kvs, e5 _ _ hk1, hk2⟩, hlen, n5, n6, n7, rfl⟩
    · exact fun j σ' H'' pv => pv.2.1
    · rintro j ⟨ka, kb, kc⟩ u σ' H'' hj hu ⟨kp, et, ⟨kvs, hk1, hk2⟩, hlen, n5, n6, n7, rfl⟩
      have hj2 : j < ru.length := (List.getElem?_eq_some_iff.mp hj).1
      refine gb_trip hu fun y1 y2 y3 g1 g2 g3 => ?_
      obtain rfl : y1 = .int ka := g1
      have hkl : kvs.length < 100000 := by
        rw [pd_len hk2]
        omega
      refine r_dputI hk1 hkl (ev_var rfl) (ev_var rfl) (ev_var rfl) fun H6 e6 => ?_
      have ef : (ru.take (j + 1)).foldl (fun a x => putA a x.a x.c) (((runsD dd).take i).foldl seenS []) = putA ((ru.take j).foldl (fun a x => putA a x.a x.c) (((runsD dd).take i).foldl seenS [])) ka kc := take_fold hj
      refine ⟨(kp.trans (Ex.kp e6)).trans Kp.upd, (et.trans (Js.Ex.t e6)).trans (ext_dK (e6 _ _ hk1)), ⟨_, upd_same, ?_⟩, ?_, _, _, _, rfl⟩
      · rw [ef]
        exact dk_put inl_inj hk2 ka (fo_of g3)
      · rw [ef]
        exact Nat.le_trans putA_len (by omega)
    · rintro σ' H'' ⟨kp, et, ⟨kvs, hk1, hk2⟩, hlen, n5, n6, n7, rfl⟩
      rw [List.take_length] at hk2 hlen
      have ef : ((runsD dd).take (i + 1)).foldl seenS [] = seenS (((runsD dd).take i).foldl seenS []) ru := take_fold hgi
      refine ⟨kp, ⟨kvs, hk1, by rw [ef]; exact hk2⟩, ?_, _, _, _, _, rfl⟩
      rw [ef]
      exact Nat.le_trans hlen (by omega)
  · rintro σ' H' ⟨kp, ⟨kvs, hk1, hk2⟩, hlen, n4, n5, n6, n7, rfl⟩
    rw [List.take_length] at hk2 hlen
    have h2 : (runsD dd).length ≤ 60 := by
      unfold runsD
      rw [List.length_map]
      exact Nat.le_trans (List.length_filter_le _ _) hm60
    refine r_sortItems (p := selP lo hi) (f := fun kv => (kv.1, kv.2.getD 0)) (fun H => ev_var rfl) hk1 hk2 (by omega) (fun a v H1 ha hv Q q => ?_) fun l ys H6 kp6 et6 nl h1 h2 => ?_
    · obtain ⟨k, o⟩ := a
      refine gb_pair hv fun y z hy hz => q _ _ (Ex.refl _) rfl (et_and (et_chain (K := K) (er_var (a := lo) rfl rfl) (er_var (a := k) rfl hy) (er_var (a := hi) rfl rfl) (fun _ => rv_I0) (fun _ => rv_I0)) fun _ => et_t (K := K) (er_notN (o := o) nI (er_var rfl hz))) fun hp => ?_
      cases o with
      | none => simp [selP] at hp
      | some i => exact er_tup2 (er_var (a := k) rfl hy) (er_var (a := i) rfl hz)
    · have kpA : Kp d H H6 := (((Ex.kp (e1.trans e2)).trans Kp.upd).trans (Ex.kp e4)).trans (kp.trans kp6)
      refine q l ys H6 (Kp.ex (Ex.refl _) nHd kpA) ?_ h1 ?_
      · cases h : H l with
        | none => rfl
        | some o =>
          have nld : l ≠ d := fun z => by rw [z, nHd] at h; cases h
          have := ((((Ex.kp (e1.trans e2)).trans Kp.upd).trans (Ex.kp e4)).trans kp) _ _ nld h
          rw [nl] at this
          cases this
      · have : ∀ {zs : List (Int × Int)} {ys : List V}, Paired (r K H6) ys zs → Paired (r K H6) ys (zs.map fun x => ((x.1, some x.2) : PR)) := fun h => by
          induction h with
          | nil => exact .nil
          | cons h _ ih => exact .cons h ih
        exact this h2
end
end Js
/-! ### the desk -/
namespace Js
open PySem PySem.Spec PyProof.Rows L2 Evl SX
open Rp (r)
/-- the cells that change hold lists and dicts -/
def MOk (M : Addr → Prop) (H : Hp) : Prop := ∀ q, M q → (∃ xs, H q = some (.lst xs)) ∨ ∃ kvs, H q = some (.dK kvs)
/-- all but M's cells stay -/
def ExM (M : Addr → Prop) (H H' : Hp) : Prop := ∀ q o, ¬ M q → H q = some o → H' q = some o
theorem ExM.refl (M : Addr → Prop) (H : Hp) : ExM M H H := fun _ _ _ h => h
theorem ExM.trans {M : Addr → Prop} {H H1 H2 : Hp} (a : ExM M H H1) (b : ExM M H1 H2) : ExM M H H2 := fun x o h e => b x o h (a x o h e)
theorem Ex.xm {M : Addr → Prop} {H H' : Hp} (e : Ex H H') : ExM M H H' := fun q o _ h => e q o h
theorem Kp2.xm {M : Addr → Prop} {p l : Addr} {H H' : Hp} (k : Kp2 p l H H') (hp : M p) (hl : M l) : ExM M H H' := fun q o h => k q o (fun z => h (z ▸ hp)) fun z => h (z ▸ hl)
theorem Kp.xm {M : Addr → Prop} {p : Addr} {H H' : Hp} (k : Kp p H H') (hp : M p) : ExM M H H' := fun q o h => k q o fun z => h (z ▸ hp)
theorem MOk.ex {M : Addr → Prop} {H H' : Hp} (m : MOk M H) (e : Ex H H') : MOk M H' := fun q h => by
  rcases m q h with ⟨xs, h⟩ | ⟨kvs, h⟩
  · exact .inl ⟨xs, e _ _ h⟩
  · exact .inr ⟨kvs, e _ _ h⟩
theorem ExM.t {M : Addr → Prop} {H H' : Hp} (m : MOk M H) (e : ExM M H H') : ExT H H' := fun K q zs hs => by
  have nm : ∀ {o : HO}, H q = some o → (∀ xs, o ≠ .lst xs) → (∀ kvs, o ≠ .dK kvs) → ¬ M q := fun h1 h2 h3 h => by
    rcases m q h with ⟨xs, h⟩ | ⟨kvs, h⟩
    · rw [h1] at h
      exact h2 _ (Option.some.inj h)
    · rw [h1] at h
      exact h3 _ (Option.some.inj h)
  rcases hs with (hs | ⟨o, hs⟩) | hs
  · exact .inl (.inl (e _ _ (nm hs (fun _ z => by cases z) fun _ z => by cases z) hs))
  · exact .inl (.inr ⟨o, e _ _ (nm hs (fun _ z => by cases z) fun _ z => by cases z) hs⟩)
  · exact .inr hs
theorem ExM.ins {M : Addr → Prop} {H H' : Hp} (m : MOk M H) (e : ExM M H H') {p C dx : Addr} {fs : List (PySem.Str × V)} (h : H p = some (.ins C dx fs)) : H' p = some (.ins C dx fs) := e _ _ (fun z => by
  rcases m p z with ⟨xs, z⟩ | ⟨kvs, z⟩
  · rw [h] at z; cases z
  · rw [h] at z; cases z) h
def StoreM (K : PySem.W.Frag) (M : Addr → Prop) (H : Hp) (v : V) (d : StoreD) : Prop := ∃ p dx vs l xs, v = .ref p ∧ ¬ M l ∧ SoR K H p dx vs l xs d
theorem StoreM.r {K : PySem.W.Frag} {M : Addr → Prop} {H : Hp} {v : V} {d : StoreD} (h : StoreM K M H v d) : r K H v d := by
  obtain ⟨p, dx, vs, l, xs, e, _, h⟩ := h
  exact ⟨p, dx, vs, l, xs, e, h⟩
theorem str_xm {K : PySem.W.Frag} {M : Addr → Prop} {H H' : Hp} (m : MOk M H) (e : ExM M H H') {v : V} {s : StateD} (h : r K H v s) : r K H' v s := by
  obtain ⟨p, dy, rfl, vb, vk, vp, vm, vr, h1, h2, h3, h4, h5, h6⟩ := h
  have et := ExM.t m e
  exact ⟨p, dy, rfl, vb, vk, vp, vm, vr, ExM.ins m e h1, RpT.t et h2, RpT.t et h3, RpT.t et h4, RpT.t et h5, h6⟩
theorem StoreM.mono {K : PySem.W.Frag} {M : Addr → Prop} {H H' : Hp} (m : MOk M H) (e : ExM M H H') {v : V} {d : StoreD} (h : StoreM K M H v d) : StoreM K M H' v d := by
  obtain ⟨p, dx, vs, l, xs, rfl, nl, h1, h2, h3, h4⟩ := h
  exact ⟨p, dx, vs, l, xs, rfl, nl, ExM.ins m e h1, str_xm m e h2, e _ _ nl h3, h4⟩
def OptM (K : PySem.W.Frag) (M : Addr → Prop) (H : Hp) (v : V) : Option StoreD → Prop
  | none => v = .non
  | some d => StoreM K M H v d
theorem OptM.mono {K : PySem.W.Frag} {M : Addr → Prop} {H H' : Hp} (m : MOk M H) (e : ExM M H H') {v : V} {o : Option StoreD} (h : OptM K M H v o) : OptM K M H' v o := by
  cases o with
  | none => exact h
  | some d => exact StoreM.mono m e h
def HisR (K : PySem.W.Frag) (M : Addr → Prop) (H : Hp) (v : V) (x : Str × Option StoreD) : Prop := ∃ t v2, v = .ref t ∧ SqT K H t [.str x.1, v2] ∧ OptM K M H v2 x.2
theorem HisR.mono {K : PySem.W.Frag} {M : Addr → Prop} {H H' : Hp} (m : MOk M H) (e : ExM M H H') {v : V} {x : Str × Option StoreD} (h : HisR K M H v x) : HisR K M H' v x := by
  obtain ⟨t, v2, rfl, h1, h2⟩ := h
  exact ⟨t, v2, rfl, ExM.t m e _ _ _ h1, h2.mono m e⟩
structure DeskR (K : PySem.W.Frag) (M : Addr → Prop) (H : Hp) (x dk pl : Addr) (al : List (Str × StoreD)) (hist : List (Str × Option StoreD)) : Prop where
  ok : MOk M H
  md : M dk
  mp : M pl
  at_ : ∃ dx, H x = some (.ins (He.ga K "Desk") dx [("kept", .ref dk), ("past", .ref pl)])
  kd : ∃ kvs, H dk = some (.dK kvs) ∧ DkR (StoreM K M H) Sum.inr kvs al
  ps : ∃ ps, H pl = some (.lst ps) ∧ Paired (HisR K M H) ps hist
def setA (al : List (Str × StoreD)) (n : Str) : Option StoreD → List (Str × StoreD)
  | some d => putA al n d
  | none => dropA al n
def OptP (F : V → StoreD → Prop) (v : V) : Option StoreD → Prop
  | none => v = .non
  | some d => F v d ∧ ∃ p, v = .ref p
def spPutU (K : PySem.W.Frag) : Sp := fun vs H Q _ => ∃ (F : V → StoreD → Prop) (x dx dk pl : Addr) (n : Str) (v : V) (o : Option StoreD) (kvs : List (L2.Key × V)) (al : List (Str × StoreD)), vs = [.ref x, .str n, v] ∧ H x = some (.ins (He.ga K "Desk") dx [("kept", .ref dk), ("past", .ref pl)]) ∧ H dk = some (.dK kvs) ∧ DkR F Sum.inr kvs al ∧ al.length < 90000 ∧
  OptP F v o ∧ ∀ kvs' H', Kp dk H H' → H' dk = some (.dK kvs') → DkR F Sum.inr kvs' (setA al n o) → Q .non H'
/-- a change of the desk: a name gets a store or loses it -/
def spDKeep (K : PySem.W.Frag) : Sp := fun vs H Q _ => ∃ (M : Addr → Prop) (x dk pl : Addr) (n : Str) (v : V) (o : Option StoreD) (al : List (Str × StoreD)) (hist : List (Str × Option StoreD)), vs = [.ref x, .str n, v] ∧ DeskR K M H x dk pl al hist ∧ al.length < 90000 ∧ hist.length < 90000 ∧ OptM K M H v o ∧
  ∀ H', Kp2 dk pl H H' → DeskR K M H' x dk pl (setA al n o) (hist ++ [(n, lookA al n)]) → Q (.str "ok") H'
def spUndo (K : PySem.W.Frag) : Sp := fun vs H Q E => ∃ (M : Addr → Prop) (x dk pl : Addr) (al : List (Str × StoreD)) (hist : List (Str × Option StoreD)), vs = [.ref x] ∧ DeskR K M H x dk pl al hist ∧ al.length < 90000 ∧
  ((hist = [] ∧ ∀ H', Ex H H' → E (.ref (He.ga K "NothingDone")) none H') ∨ ∃ h n o, hist = h ++ [(n, o)] ∧ ∀ H', Kp2 dk pl H H' → DeskR K M H' x dk pl (setA al n o) h → Q (.str "ok") H')
def spUnder (K : PySem.W.Frag) : Sp := fun vs H Q E => ∃ (M : Addr → Prop) (x dk pl : Addr) (n : Str) (al : List (Str × StoreD)) (hist : List (Str × Option StoreD)), vs = [.ref x, .str n] ∧ DeskR K M H x dk pl al hist ∧
  ((∃ d, lookA al n = some d ∧ ∀ v H', Ex H H' → StoreM K M H' v d → Q v H') ∨ (lookA al n = none ∧ ∀ dd H', Ex H H' → H dd = none → H' dd = some (.xd [("name", .str n)]) → E (.ref (He.ga K "NoName")) (some dd) H'))
section
variable {P : Program} {w : World} {K : PySem.W.Frag} {mg : PySem.Str → Option Value} {base : Heap}
theorem r_appQ {D : Ends} {σ : L2.St} {H : Hp} {l : Addr} {ta te : TE} (hl : ∃ xs, H l = some (.lst xs)) (ha : Ev ta σ H (.ref l)) (h : ∀ H1, Ex H H1 → te σ H1 (fun v H2 => rAppend (.ref l) [v] H2 fun _ H4 => D.nx σ H4)) : tDrop (tBM K "list" rAppend ta (tCons te tNil)) D σ H := by
  obtain ⟨xs0, hl⟩ := hl
  exact ha H (Ex.refl _) _ fun H1 e1 => ⟨Or.inl ⟨rfl, xs0, sq_of (e1 _ _ hl)⟩, h H1 e1⟩
theorem r_get1 {σ : L2.St} {H : Hp} {Q : VK} {d : Addr} {k : L2.Key} {kvs : List (L2.Key × V)} {y : V} {td ty : TE} (hd : H d = some (.dK kvs)) (h1 : Ev td σ H (.ref d)) (h2 : ∀ H1, Ex H H1 → Ev ty σ H1 y) (hy : y = kV k) (q : ∀ H1, Ex H H1 → Q ((valV kvs k).getD .non) H1) : tDGet1 td ty σ H Q :=
  h1 H (Ex.refl _) _ fun H1 e1 => ⟨d, rfl, .inl ⟨kvs, .inl (e1 _ _ hd)⟩, h2 H1 e1 H1 (Ex.refl _) _ fun H2 e2 => ⟨valV kvs k, by rw [hy]; exact DGet.k (e2 _ _ (e1 _ _ hd)), q H2 (e1.trans e2)⟩⟩
theorem r_pop {D : Ends} {g : TG} {σ : L2.St} {H : Hp} {l : Addr} {xs : List V} {y : V} {ta : TE} (hl : H l = some (.lst (xs ++ [y]))) (ha : Ev ta σ H (.ref l)) (q : ∀ H1, Ex H H1 → g y σ (upd H1 l (.lst xs)) D.nx) : tAsg (tBM0 K "list" rPop ta) g D σ H := by
  refine ha H (Ex.refl _) _ fun H1 e1 => ⟨Or.inl ⟨rfl, _, sq_of (e1 _ _ hl)⟩, l, _, y, rfl, rfl, e1 _ _ hl, by simp, ?_⟩
  rw [List.dropLast_concat]
  exact q H1 e1
theorem r_dpop {D : Ends} {σ : L2.St} {H : Hp} {d : Addr} {k : L2.Key} {kvs : List (L2.Key × V)} {v y : V} {td ty : TE} (hd : H d = some (.dK kvs)) (h1 : Ev td σ H (.ref d)) (h2 : ∀ H1, Ex H H1 → Ev ty σ H1 y) (hy : y = kV k) (hv : valV kvs k = some v) (q : ∀ H1, Ex H H1 → D.nx σ (upd H1 d (.dK (dropK kvs k)))) : tDrop (tDPop1 td ty) D σ H :=
  h1 H (Ex.refl _) _ fun H1 e1 => ⟨d, rfl, .inl ⟨kvs, .inl (e1 _ _ hd)⟩, h2 H1 e1 H1 (Ex.refl _) _ fun H2 e2 => ⟨kvs, k, v, e2 _ _ (e1 _ _ hd), hy, hv, q H2 (e1.trans e2)⟩⟩
theorem drop_none {κ β : Type} [DecidableEq κ] {al : List (κ × β)} {k : κ} (h : lookA al k = none) : dropA al k = al := by
  unfold dropA
  rw [List.filter_eq_self]
  intro a ha
  unfold lookA at h
  rw [Option.map_eq_none_iff, List.find?_eq_none] at h
  have := h a ha
  simpa using this
theorem rd_of {H : Hp} {d : Addr} {kvs : List (L2.Key × V)} (h : H d = some (.dK kvs)) : IsD H d := .inl ⟨kvs, .inl h⟩
theorem ok_Desk_put_under (T : Tx w K mg) : FnAt P w K mg base 1 (He.fAd K ("Desk", some "put_under")) (spPutU K) := by
  have S : FnScope ["self", "name", "store"] ["self", "name", "store"] (defScope s_Desk_put_under) := ⟨rfl, rfl, rfl, by decide +kernel, rfl, by decide +kernel, by decide +kernel⟩
  refine mk0 0 T.f_Desk_put_under S (fun _ _ _ _ _ _ us hl => match us, hl with | [_, _, _], _ => rfl) (fun vs H Q E h => by obtain ⟨_, _, _, _, _, _, _, _, _, _, rfl, _⟩ := h; rfl) fun cdv A outer s H vs Q E hr h => ?_
  obtain ⟨F, x, dx, dk, pl, n, v, o, kvs, al, rfl, hx, hk, hD, hal, ho, q⟩ := h
  refine ⟨_, pss_one (ps_if (pt_cmpR op_notN (pv 2) pe_non (nomark _))
        (pss_one (ps_dput (hu_of hr) (fldK (K := K) rfl (pv 0)) (pv 1) (pv 2) rfl))
        (pss_one (ps_if (pt_cmp (pc_din (hu_of hr) (pv 1) (fldK (K := K) rfl (pv 0))))
          (pss_one (ps_expr (pe_dpop1 (fldK (K := K) rfl (pv 0)) (pv 1) ⟨rfl, rfl, rfl, rfl⟩)))
          (pss_nil)))), ?_⟩
  have hlen : kvs.length = al.length := pd_len hD
  have ek : ∀ {H1 : Hp}, Ex H H1 → Ev (tFld K (tVar 0) "kept") (L2.start ["self", "name", "store"] [.ref x, .str n, v]) H1 (.ref dk) := fun e => ev_fld (ev_var rfl) (e _ _ hx) T.c_Desk T.n_Desk_kept rfl
  refine ⟨v, rfl, rfl, _, rfl, ?_⟩
  cases o with
  | some d =>
    obtain ⟨hF, p, rfl⟩ := ho
    have e : (!decide (V.ref p = V.non)) = true := by simp
    rw [e]
    refine ⟨.ref p, rfl, ek (Ex.refl _) H (Ex.refl _) _ fun H1 e1 => ⟨.str n, rfl, dk, _, rfl, DPut.k (k := Sum.inr n) (e1 _ _ hk) (sz_lt (by omega)), ?_⟩⟩
    exact q _ _ ((Ex.kp e1).trans Kp.upd) upd_same (dk_put inr_inj hD n hF)
  | none =>
    obtain rfl : v = .non := ho
    have e : (!decide (V.non = V.non)) = false := by simp
    rw [e]
    refine ⟨.str n, rfl, ek (Ex.refl _) H (Ex.refl _) _ fun H1 e1 => ?_⟩
    rcases dk_val inr_inj hD n with ⟨z1, z2⟩ | ⟨v', b, z1, z2, _⟩
    · refine ⟨dk, none, rfl, by rw [← z1]; exact DGet.k (k := Sum.inr n) (e1 _ _ hk), _, rfl, ?_⟩
      refine q kvs H1 (Ex.kp e1) (e1 _ _ hk) ?_
      rw [show setA al n none = al from drop_none z2]
      exact hD
    · refine ⟨dk, some v', rfl, by rw [← z1]; exact DGet.k (k := Sum.inr n) (e1 _ _ hk), _, rfl, ?_⟩
      refine r_dpop (k := Sum.inr n) (e1 _ _ hk) (ek e1) (fun H2 e2 => ev_var rfl) rfl z1 fun H2 e2 => ?_
      exact q _ _ ((Ex.kp (e1.trans e2)).trans Kp.upd) upd_same (dk_drop inr_inj hD n)
theorem fresh_kp2 {p l q : Addr} {H H' : Hp} (k : Kp2 p l H H') (h : H' q = none) (hp : q ≠ p) (hl : q ≠ l) : H q = none := by
  cases e : H q with
  | none => rfl
  | some o =>
    rw [k q o hp hl e] at h
    cases h
/-- the desk behind a change of its dict and its list -/
theorem desk_new {M : Addr → Prop} {H H' : Hp} {x dk pl : Addr} {al al' : List (Str × StoreD)} {hist hist' : List (Str × Option StoreD)} (d : DeskR K M H x dk pl al hist) (k : Kp2 dk pl H H') {kvs : List (L2.Key × V)} {ps : List V} (hk : H' dk = some (.dK kvs)) (hp : H' pl = some (.lst ps))
    (h1 : DkR (StoreM K M H) Sum.inr kvs al') (h2 : Paired (HisR K M H) ps hist') : DeskR K M H' x dk pl al' hist' := by
  have e := Kp2.xm k d.md d.mp
  obtain ⟨dx, hx⟩ := d.at_
  refine ⟨fun q hq => ?_, d.md, d.mp, ⟨dx, ExM.ins d.ok e hx⟩, ⟨kvs, hk, dk_mono h1 fun _ _ z => StoreM.mono d.ok e z⟩, ⟨ps, hp, pd_map h2 fun _ _ z => HisR.mono d.ok e z⟩⟩
  by_cases q1 : q = dk
  · exact .inr ⟨kvs, by rw [q1]; exact hk⟩
  · by_cases q2 : q = pl
    · exact .inl ⟨ps, by rw [q2]; exact hp⟩
    · rcases d.ok q hq with ⟨xs, z⟩ | ⟨kv, z⟩
      · exact .inl ⟨xs, k q _ q1 q2 z⟩
      · exact .inr ⟨kv, k q _ q1 q2 z⟩
theorem DeskR.ne {M : Addr → Prop} {H : Hp} {x dk pl : Addr} {al : List (Str × StoreD)} {hist : List (Str × Option StoreD)} (d : DeskR K M H x dk pl al hist) : dk ≠ pl := fun z => by
  obtain ⟨kvs, h1, _⟩ := d.kd
  obtain ⟨ps, h2, _⟩ := d.ps
  rw [z, h2] at h1
  cases h1
/-- the desk where it stays and other cells change -/
theorem DeskR.mono {M : Addr → Prop} {H H' : Hp} {x dk pl : Addr} {al : List (Str × StoreD)} {hist : List (Str × Option StoreD)} (d : DeskR K M H x dk pl al hist) (e : ExM M H H') (ok : MOk M H') (h1 : H' dk = H dk) (h2 : H' pl = H pl) : DeskR K M H' x dk pl al hist := by
  obtain ⟨dx, hx⟩ := d.at_
  obtain ⟨kvs, k1, k2⟩ := d.kd
  obtain ⟨ps, p1, p2⟩ := d.ps
  exact ⟨ok, d.md, d.mp, ⟨dx, ExM.ins d.ok e hx⟩, ⟨kvs, by rw [h1]; exact k1, dk_mono k2 fun _ _ z => StoreM.mono d.ok e z⟩, ⟨ps, by rw [h2]; exact p1, pd_map p2 fun _ _ z => HisR.mono d.ok e z⟩⟩
theorem DeskR.ex {M : Addr → Prop} {H H' : Hp} {x dk pl : Addr} {al : List (Str × StoreD)} {hist : List (Str × Option StoreD)} (d : DeskR K M H x dk pl al hist) (e : Ex H H') : DeskR K M H' x dk pl al hist := by
  obtain ⟨kvs, k1, _⟩ := d.kd
  obtain ⟨ps, p1, _⟩ := d.ps
  exact d.mono (Js.Ex.xm e) (d.ok.ex e) (by rw [k1]; exact e _ _ k1) (by rw [p1]; exact e _ _ p1)
/-- self.put_under(n, v) -/
theorem r_putU {D : Ends} {σ : L2.St} {H : Hp} {F : V → StoreD → Prop} {x dx dk pl : Addr} {n : Str} {v : V} {o : Option StoreD} {kvs : List (L2.Key × V)} {al : List (Str × StoreD)} {ta tb tc : TE} (hx : H x = some (.ins (He.ga K "Desk") dx [("kept", .ref dk), ("past", .ref pl)])) (hk : H dk = some (.dK kvs)) (hD : DkR F Sum.inr kvs al) (hal : al.length < 90000)
    (ho : OptP F v o) (h1 : Ev ta σ H (.ref x)) (h2 : Ev tb σ H (.str n)) (h3 : Ev tc σ H v) (q : ∀ kvs' H', Kp dk H H' → H' dk = some (.dK kvs') → DkR F Sum.inr kvs' (setA al n o) → D.nx σ H') : tDrop (tM (He.ga K "Desk") "put_under" (spPutU K) eN ta (tCons tb (tCons tc tNil))) D σ H :=
  h1 H (Ex.refl _) _ fun H1 e1 => ⟨x, dx, _, rfl, e1 _ _ hx, rfl, h2 H1 e1 _ fun H2 e2 => h3 H2 (e1.trans e2) _ fun H3 e3 => ⟨F, x, dx, dk, pl, n, v, o, kvs, al, rfl, e3 _ _ (e2 _ _ (e1 _ _ hx)), e3 _ _ (e2 _ _ (e1 _ _ hk)), hD, hal, ho, fun kvs' H' k => q kvs' H' ((Ex.kp ((e1.trans e2).trans e3)).trans k)⟩⟩
theorem optM_of {M : Addr → Prop} {H : Hp} {v : V} {o : Option StoreD} (h : OptM K M H v o) : OptP (StoreM K M H) v o := by
  cases o with
  | none => exact h
  | some d =>
    refine ⟨h, ?_⟩
    obtain ⟨p, _, _, _, _, e, _⟩ := (show StoreM K M H v d from h)
    exact ⟨p, e⟩
theorem ok_Desk_keep (T : Tx w K mg) : FnAt P w K mg base 2 (He.fAd K ("Desk", some "keep")) (spDKeep K) := by
  have S : FnScope ["self", "name", "store"] ["self", "name", "store"] (defScope s_Desk_keep) := ⟨rfl, rfl, rfl, by decide +kernel, rfl, by decide +kernel, by decide +kernel⟩
  have G_Desk_put_under := ok_Desk_put_under (P := P) (base := base) T
  refine mk0 1 T.f_Desk_keep S (fun _ _ _ _ _ _ us hl => match us, hl with | [_, _, _], _ => rfl) (fun vs H Q E h => by obtain ⟨_, _, _, _, _, _, _, _, _, rfl, _⟩ := h; rfl) fun cdv A outer s H vs Q E hr h => ?_
  obtain ⟨M, x, dk, pl, n, v, o, al, hist, rfl, d, hal, hhi, ho, q⟩ := h
  refine ⟨_, pss_cons (ps_expr (pe_bm PySem.F.plainAttrs_list PySem.F.slot_list_append PySem.F.type_list_append mt_append (fldK (K := K) rfl (pv 0)) (pa_cons (pe_tup (pa_cons (pv 1) (pa_cons (pe_dget1 (hu_of hr) (fldK (K := K) rfl (pv 0)) (pv 1) ⟨rfl, rfl, rfl, rfl⟩) pa_nil))) pa_nil)))
      (pss_cons (ps_expr (pe_m G_Desk_put_under T.c_Desk T.m_Desk_put_under hr (by decide) passN (pv 0) (pa_cons (pv 1) (pa_cons (pv 2) pa_nil))))
      (pss_one (ps_ret pe_str))), ?_⟩
  obtain ⟨dx, hx⟩ := d.at_
  obtain ⟨kvs, k1, k2⟩ := d.kd
  obtain ⟨ps, p1, p2⟩ := d.ps
  have ne := d.ne
  have fld : ∀ {H1 : Hp} {f : PySem.Str} {u : V}, Ex H H1 → NoAttr K (He.ga K "Desk") f → ([("kept", .ref dk), ("past", .ref pl)] : List (PySem.Str × V)).lookup f = some u → Ev (tFld K (tVar 0) f) (L2.start ["self", "name", "store"] [.ref x, .str n, v]) H1 u := fun e hn hl => ev_fld (ev_var rfl) (e _ _ hx) T.c_Desk hn hl
  -- the old store of that name
  have hold : ∃ v0, (valV kvs (Sum.inr n)).getD .non = v0 ∧ OptM K M H v0 (lookA al n) := by
    rcases dk_val inr_inj k2 n with ⟨z1, z2⟩ | ⟨v', b, z1, z2, z3⟩
    · exact ⟨_, rfl, by rw [z1, z2]; rfl⟩
    · exact ⟨_, rfl, by rw [z1, z2]; exact z3⟩
  obtain ⟨v0, hv0, ho0⟩ := hold
  refine r_appQ ⟨ps, p1⟩ (fld (Ex.refl _) T.n_Desk_past rfl) fun H1 e1 => ?_
  refine ⟨.str n, rfl, ?_⟩
  refine (show tDGet1 (tFld K (tVar 0) "kept") (tVar 1) (L2.start ["self", "name", "store"] [.ref x, .str n, v]) H1 _ from ?_)
  refine r_get1 (k := Sum.inr n) (e1 _ _ k1) (fld e1 T.n_Desk_kept rfl) (fun H2 e2 => ev_var rfl) rfl fun H2 e2 => ?_
  have e12 := e1.trans e2
  rw [hv0]
  refine ⟨by show 2 ≤ sizeLine; decide, fun t ht => ⟨pl, ps, .ref t, rfl, rfl, (Ex.new ht) _ _ (e12 _ _ p1), sz_lt (by rw [pd_len p2]; omega), ?_⟩⟩
  have e3 : Ex H (upd H2 t (.tup [.str n, v0])) := e12.trans (Ex.new ht)
  have d3 := d.ex e3
  have np : pl ≠ dk := ne.symm
  have hpl3 := e3 _ _ p1
  have hk4 : upd (upd H2 t (.tup [.str n, v0])) pl (.lst (ps ++ [.ref t])) dk = some (.dK kvs) := by rw [upd_ne ne]; exact e3 _ _ k1
  have hx4 : upd (upd H2 t (.tup [.str n, v0])) pl (.lst (ps ++ [.ref t])) x = some (.ins (He.ga K "Desk") dx [("kept", .ref dk), ("past", .ref pl)]) := by
    rw [upd_ne (fun z => by rw [z, p1] at hx; cases hx)]
    exact e3 _ _ hx
  refine r_putU (F := StoreM K M (upd H2 t (.tup [.str n, v0]))) (o := o) hx4 hk4 (dk_mono k2 fun _ _ z => StoreM.mono d.ok (Js.Ex.xm e3) z) hal (optM_of (ho.mono d.ok (Js.Ex.xm e3))) (ev_var rfl) (ev_var rfl) (ev_var rfl) fun kvs' H' kp hk' hD' => ?_
  have kk : Kp2 dk pl (upd H2 t (.tup [.str n, v0])) H' := Kp2.u2.trans fun a u h1 h2 e => kp a u h1 e
  refine q H' ((Ex.kp2 e3).trans kk) (desk_new d3 kk hk' (by rw [kp pl _ np upd_same]) hD' ?_)
  exact pd_app (pd_map p2 fun _ _ z => HisR.mono d.ok (Js.Ex.xm e3) z) (pd_one ⟨t, v0, rfl, st_of upd_same, ho0.mono d.ok (Js.Ex.xm e3)⟩)
theorem ok_Desk_undo (T : Tx w K mg) : FnAt P w K mg base 2 (He.fAd K ("Desk", some "undo")) (spUndo K) := by
  have S : FnScope ["self", "name", "store"] ["self"] (defScope s_Desk_undo) := ⟨rfl, rfl, rfl, by decide +kernel, rfl, by decide +kernel, by decide +kernel⟩
  have G_Desk_put_under := ok_Desk_put_under (P := P) (base := base) T
  refine mkX 1 T.f_Desk_undo S (fun _ _ _ _ _ _ us hl => match us, hl with | [_], _ => rfl) (fun vs H Q E h => by obtain ⟨_, _, _, _, _, _, rfl, _⟩ := h; rfl) fun cdv A outer s H vs Q E hr h => ?_
  obtain ⟨M, x, dk, pl, al, hist, rfl, d, hal, q⟩ := h
  refine ⟨_, pss_cons (ps_if (pt_cmpR op_eq (pe_callB (lenK (K := K) rfl) rfl T.z_len (by decide +kernel) (pa_cons (fldK (K := K) rfl (pv 0)) pa_nil)) pe_int (nomark _))
        (pss_one (ps_raise rfl (takes_of rfl rfl rfl rfl) (Jg.pmk_own0 PySem.F.excBase_ValueError T.x_NothingDone.1 T.g_NothingDone T.x_NothingDone.2.1 (raises_own T.x_NothingDone.2.2.1 T.x_NothingDone.2.2.2) rfl)))
        (pss_nil))
      (pss_cons (ps_asg (pe_bm0 PySem.F.plainAttrs_list PySem.F.slot_list_pop PySem.F.type_list_pop mt_pop (fldK (K := K) rfl (pv 0))) (pg_tup rfl (pgs_cons (pg_name (i := 1) S.nd rfl (Or.inl rfl)) (pgs_cons (pg_name (i := 2) S.nd rfl (Or.inl rfl)) pgs_nil))))
      (pss_cons (ps_expr (pe_m G_Desk_put_under T.c_Desk T.m_Desk_put_under hr (by decide) passN (pv 0) (pa_cons (pv 1) (pa_cons (pv 2) pa_nil))))
      (pss_one (ps_ret pe_str)))), ?_⟩
  obtain ⟨dx, hx⟩ := d.at_
  obtain ⟨kvs, k1, k2⟩ := d.kd
  obtain ⟨ps, p1, p2⟩ := d.ps
  have ne := d.ne
  have fld : ∀ {H1 : Hp}, Ex H H1 → Ev (tFld K (tVar 0) "past") (L2.start ["self", "name", "store"] [.ref x]) H1 (.ref pl) := fun e => ev_fld (ev_var rfl) (e _ _ hx) T.c_Desk T.n_Desk_past rfl
  have ele : Er K (tCB (rLenS K) (tCons (tFld K (tVar 0) "past") tNil)) (L2.start ["self", "name", "store"] [.ref x]) H (ps.length : Int) := er_ev (ev_len (fld (Ex.refl _)) (sq_of p1)) rfl
  refine r_if (et_t (K := K) (er_eqI ele (er_i 0))) (fun hc H1 e1 => ?_) fun hc H1 e1 => ?_
  · have h0 : ps = [] := by
      have : (ps.length : Int) = 0 := by simpa using hc
      exact List.length_eq_zero_iff.mp (by omega)
    subst h0
    cases p2
    rcases q with ⟨_, q⟩ | ⟨h, n, o, e, _⟩
    · exact q H1 e1
    · simp at e
  · rcases q with ⟨e, _⟩ | ⟨h, n, o, rfl, q⟩
    · subst e
      cases p2
      simp at hc
    · obtain ⟨ps', pz, rfl, g1, g2⟩ : ∃ ps' pz, ps = ps' ++ [pz] ∧ Paired (HisR K M H) ps' h ∧ HisR K M H pz (n, o) := by
        have hl := pd_len p2
        have hne : ps ≠ [] := fun z => by rw [z] at hl; simp at hl
        refine ⟨ps.dropLast, ps.getLast hne, (List.dropLast_concat_getLast hne).symm, ?_, ?_⟩
        · have := pd_take p2 h.length
          rw [List.take_left] at this
          rw [List.dropLast_eq_take, show ps.length - 1 = h.length by rw [hl]; simp]
          exact this
        · obtain ⟨b, hb1, hb2⟩ := pd_get p2 (i := ps.length - 1) (a := ps.getLast hne) (by rw [List.getLast_eq_getElem]; exact List.getElem?_eq_getElem _)
          rw [hl, show (h ++ [(n, o)]).length - 1 = h.length by simp, List.getElem?_append_right (Nat.le_refl _)] at hb1
          simp at hb1
          subst hb1
          exact hb2
      obtain ⟨t, v2, rfl, ht, hov⟩ := g2
      refine r_pop (e1 _ _ p1) (fld e1) fun H2 e2 => ?_
      have e12 := e1.trans e2
      have d2 := d.ex e12
      have et : ExT H2 (upd H2 pl (.lst ps')) := ext_lst (e12 _ _ p1)
      refine ⟨t, _, rfl, et _ _ _ (ex_t e12 ht), rfl, .str n, _, rfl, v2, _, rfl, rfl, ?_⟩
      have hk4 : upd H2 pl (.lst ps') dk = some (.dK kvs) := by rw [upd_ne ne]; exact e12 _ _ k1
      have hx4 : upd H2 pl (.lst ps') x = some (.ins (He.ga K "Desk") dx [("kept", .ref dk), ("past", .ref pl)]) := by
        rw [upd_ne (fun z => by rw [z, p1] at hx; cases hx)]
        exact e12 _ _ hx
      refine r_putU (F := StoreM K M H2) (o := o) hx4 hk4 (dk_mono k2 fun _ _ z => StoreM.mono d.ok (Js.Ex.xm e12) z) hal (optM_of (hov.mono d.ok (Js.Ex.xm e12))) (ev_var rfl) (ev_var rfl) (ev_var rfl) fun kvs' H' kp hk' hD' => ?_
      have kk : Kp2 dk pl H2 H' := Kp2.u2.trans fun a u h1 h2 e => kp a u h1 e
      exact q H' ((Ex.kp2 e12).trans kk) (desk_new d2 kk hk' (by rw [kp pl _ ne.symm upd_same]) hD' (pd_map g1 fun _ _ z => HisR.mono d.ok (Js.Ex.xm e12) z))
end
end Js
/-! ### the desk's stores, changes, answers -/
namespace Js
open PySem PySem.Spec PyProof.Rows L2 Evl SX
open Rp (r)
theorem pmk_oexA {X : Cx} {x : PySem.Str} {C fI : Addr} {k j : Nat} {sp : Sp} {e : Expr} {es : List Expr} {ta : TA} {p pos : Pos} (T : OexC X.K C) (iC : PySem.W.findIn X.K (.ref C) "__init__" = some (some (.ref fI))) (tI : PySem.W.typeIn X.K (.ref fI) = some (.type "function"))
    (c : FnAt X.prog X.w X.K X.mg X.base k fI sp) (hr : Room j X.A) (hk : k + 1 ≤ j) (hg : Gl X x) (hm : X.mg x = some (.ref C)) (ha : PA X (e :: es) ta)
    (hdb : (x == ("__debug__" : PySem.Str)) = false := by decide) (he : starEach (e :: es) X.env = (false, eval e X.env) :: starEach es X.env := by rfl) (hpl : (backTo pos (starEach es X.env)).any (·.1) = false := by rfl) :
    PMk X (.Call (.Name x p) (e :: es) [] pos) (tMkO C sp [] ta) := by
  obtain ⟨fd, ps, F, b, kp⟩ := c.ex
  exact pmk_oex T iC tI F (hr.mono hk) b .nil (fun _ _ _ _ _ _ _ h => by obtain ⟨_, _, _, _, _, _, _, _, _, _, _, _, z⟩ := h; exact z.elim) hg hm ha hdb he hpl
def spNN (K : PySem.W.Frag) : Sp := fun vs H Q _ => ∃ (a : Addr) (v : V), vs = [.ref a, v] ∧ H a = some (exo a (He.ga K "NoName") none) ∧ ∀ d, H d = none → d ≠ a → Q .non (upd (upd H d (exd d [("name", v)])) a (exo a (He.ga K "NoName") (some d)))
/-- a store that was just copied (not there in H0) is changed and takes its name's place -/
def spDChange (K : PySem.W.Frag) : Sp := fun vs H Q _ => ∃ (M : Addr → Prop) (H0 : Hp) (x dk pl p dx l : Addr) (v v0 : V) (xs : List V) (n : PySem.Str) (vals : List Val) (d d' : StoreD) (al : List (PySem.Str × StoreD)) (hist : List (PySem.Str × Option StoreD)),
  vs = [.ref x, v, .ref p] ∧ DeskR K M H0 x dk pl al hist ∧ al.length < 80000 ∧ hist.length < 80000 ∧ Ex H0 H ∧ H0 p = none ∧ H0 l = none ∧ SoR K H p dx v0 l xs d ∧ r K H0 v (Ls.mk vals) ∧ d.n < 80000 ∧
  ((∃ (c : List PR) (stay : Nat), vals = [.s "put", .s n, .i (stay : Int), .p c] ∧ PreB d.s c stay ∧ ((stay : Int) ≤ d.s.made.length ∧ (stay : Int) ≤ d.m - 1) ∧ d' = ⟨d.m, withB d.s c stay, d.n + 1⟩) ∨
    (vals = [.s "keep", .s n] ∧ 0 < d.s.b.length ∧ ((d.s.b.length : Int) - 1) ∉ d.s.k ∧ d.s.k.length ≤ 1000 ∧ d' = ⟨d.m, withK d.s, d.n + 1⟩)) ∧
  ∀ H', Kp2 dk pl H0 H' → DeskR K M H' x dk pl (putA al n d') (hist ++ [(n, lookA al n)]) → Q (.str "ok") H'
def planS (l : List Int) : PySem.Str := if l = [] then "none" else Txt.join "," (l.map strI)
def runsS (l : List (T3 Int Int (List TR))) : PySem.Str := textL id "none" " " (l.map fun x => rwS x.a x.b x.c.length)
structure AnsOk (d : StoreD) : Prop where
  md : d.s.made.length ≤ 60
  mr : ∀ x ∈ d.s.made, (0 ≤ x.a ∧ x.a < 1000) ∧ (0 ≤ x.b ∧ x.b < 1000) ∧ x.c.length ≤ 1000
  pl : d.s.plan.length ≤ 1000
  pr : ∀ x ∈ d.s.plan, 0 ≤ x ∧ x < 1000
  ro : 0 ≤ d.s.rows ∧ d.s.rows < 100000
  st : (strD d 0 999).length ≤ 1000 ∧ ∀ x ∈ strD d 0 999, okPair x
/-- what a query is answered -/
inductive AnsR (d : StoreD) (n : PySem.Str) : List Val → PySem.Str → Prop
  | stretch : AnsR d n [.s "stretch", .s n, .i 0, .i 999] (textL pwS "-" " " (strD d 0 999))
  | rows : AnsR d n [.s "rows", .s n] (strI d.s.rows)
  | plan : AnsR d n [.s "plan", .s n] (planS d.s.plan)
  | runs : AnsR d n [.s "runs", .s n] (runsS d.s.made)
def spAnswer (K : PySem.W.Frag) : Sp := fun vs H Q _ => ∃ (s0 v u : V) (vals : List Val) (d : StoreD) (n z : PySem.Str), vs = [s0, v, u] ∧ r K H v (Ls.mk vals) ∧ r K H u d ∧ AnsOk d ∧ AnsR d n vals z ∧ ∀ H', Ex H H' → Q (.str z) H'
section
variable {P : Program} {w : World} {K : PySem.W.Frag} {mg : PySem.Str → Option Value} {base : Heap}
section
variable {te : TE} {σ : L2.St} {H : Hp}
theorem er_vs {z : PySem.Str} (h : Er K te σ H (Val.s z)) : Er K te σ H z := h
theorem er_vi {n : Int} (h : Er K te σ H (Val.i n)) : Er K te σ H n := h
theorem er_vp {b : List PR} (h : Er K te σ H (Val.p b)) : Er K te σ H b := h
end
theorem ok_NoName_init (T : Tx w K mg) : FnAt P w K mg base 1 (He.fAd K ("NoName", some "__init__")) (spNN K) := by
  have S : FnScope ["self", "name"] ["self", "name"] (defScope s_NoName_init) := ⟨rfl, rfl, rfl, by decide +kernel, rfl, by decide +kernel, by decide +kernel⟩
  refine mk0 0 T.f_NoName_init S (fun _ _ _ _ _ _ us hl => match us, hl with | [_, _], _ => rfl) (fun vs H Q E h => by obtain ⟨_, _, rfl, _⟩ := h; rfl) fun cdv A outer s H vs Q E hr h => ?_
  obtain ⟨a, v, rfl, ha, q⟩ := h
  refine ⟨_, pss_one (ps_ost (pv 0) (pv 1)), ?_⟩
  exact ⟨v, rfl, .ref a, rfl, a, He.ga K "NoName", rfl, T.exB.1, T.n_NoName_name, .inl ⟨ha, q⟩⟩
theorem r_get {σ : L2.St} {H : Hp} {Q : VK} {d : Addr} {k : L2.Key} {kvs : List (L2.Key × V)} {y v : V} {td ty : TE} (hd : H d = some (.dK kvs)) (h1 : Ev td σ H (.ref d)) (h2 : ∀ H1, Ex H H1 → Ev ty σ H1 y) (hy : y = kV k) (hv : valV kvs k = some v) (q : ∀ H1, Ex H H1 → Q v H1) : tDGet td ty σ H Q :=
  h1 H (Ex.refl _) _ fun H1 e1 => h2 H1 e1 H1 (Ex.refl _) _ fun H2 e2 => ⟨d, v, rfl, by rw [hy, ← hv]; exact DGet.k (e2 _ _ (e1 _ _ hd)), q H2 (e1.trans e2)⟩
theorem et_notIn {σ : L2.St} {H : Hp} {d : Addr} {k : L2.Key} {kvs : List (L2.Key × V)} {y : V} {td ty : TE} (hd : H d = some (.dK kvs)) (h1 : Ev td σ H (.ref d)) (h2 : Ev ty σ H y) (hy : y = kV k) : EvT (tB (tDNotIn ty td)) σ H (!(valV kvs k).isSome) :=
  fun H1 e1 Q q => h2 H1 e1 _ fun H2 e2 => h1 H2 (e1.trans e2) _ fun H3 e3 => ⟨d, _, rfl, by rw [hy]; exact DGet.k (e3 _ _ (e2 _ _ (e1 _ _ hd))), _, rfl, q H3 (e2.trans e3)⟩
theorem ok_Desk_store_under (T : Tx w K mg) : FnAt P w K mg base 3 (He.fAd K ("Desk", some "store_under")) (spUnder K) := by
  have S : FnScope ["self", "name"] ["self", "name"] (defScope s_Desk_store_under) := ⟨rfl, rfl, rfl, by decide +kernel, rfl, by decide +kernel, by decide +kernel⟩
  have G_NoName_init := ok_NoName_init (P := P) (base := base) T
  refine mkX 2 T.f_Desk_store_under S (fun _ _ _ _ _ _ us hl => match us, hl with | [_, _], _ => rfl) (fun vs H Q E h => by obtain ⟨_, _, _, _, _, _, _, rfl, _⟩ := h; rfl) fun cdv A outer s H vs Q E hr h => ?_
  obtain ⟨M, x, dk, pl, n, al, hist, rfl, d, q⟩ := h
  refine ⟨_, pss_cons (ps_if (pt_cmp (pc_dnotin (hu_of hr) (pv 1) (fldK (K := K) rfl (pv 0))))
        (pss_one (ps_raise rfl (takes_of rfl rfl rfl rfl) (pmk_oexA T.exB.1 T.n_NoName_init.at_ T.exB.2.1 G_NoName_init hr (by decide) rfl T.g_NoName (pa_cons (pv 1) pa_nil))))
        (pss_nil))
      (pss_one (ps_ret (pe_dget (hu_of hr) (fldK (K := K) rfl (pv 0)) (pv 1) (fun _ _ => rfl)))), ?_⟩
  obtain ⟨dx, hx⟩ := d.at_
  obtain ⟨kvs, k1, k2⟩ := d.kd
  have fld : ∀ {H1 : Hp}, Ex H H1 → Ev (tFld K (tVar 0) "kept") (L2.start ["self", "name"] [.ref x, .str n]) H1 (.ref dk) := fun e => ev_fld (ev_var rfl) (e _ _ hx) T.c_Desk T.n_Desk_kept rfl
  refine r_if (et_notIn (k := Sum.inr n) k1 (fld (Ex.refl _)) (ev_var rfl) rfl) (fun hc H1 e1 => ?_) fun hc H1 e1 => ?_
  · rcases q with ⟨sd, h1, _⟩ | ⟨_, q⟩
    · rcases dk_val inr_inj k2 n with ⟨z1, z2⟩ | ⟨v', b, z1, z2, z3⟩
      · rw [h1] at z2
        cases z2
      · rw [z1] at hc
        cases hc
    · refine ⟨.str n, rfl, by show 1 ≤ 1000; decide, fun a na => ⟨a, .str n, rfl, upd_same, fun dd nd ne => ⟨rfl, dd, [("name", .str n)], upd_same, ?_, ?_, ?_⟩⟩⟩
      · rw [upd_ne ne]
        exact upd_same
      · rw [upd_ne ne] at nd
        exact nd
      · have nd1 : H1 dd = none := by rw [upd_ne ne] at nd; exact nd
        refine q dd _ (fun b o hb => ?_) (fresh_back e1 nd1) upd_same
        have hb1 := e1 _ _ hb
        have n1 : b ≠ a := ne_of_none hb1 na
        have n2 : b ≠ dd := ne_of_none hb1 nd1
        rw [upd_ne n2, del_ne n1, upd_ne n1, upd_ne n2, upd_ne n1]
        exact hb1
  · rcases dk_val inr_inj k2 n with ⟨z1, z2⟩ | ⟨v', b, z1, z2, z3⟩
    · rw [z1] at hc
      cases hc
    · rcases q with ⟨sd, h1, q⟩ | ⟨h1, _⟩
      · rw [z2] at h1
        cases h1
        refine r_get (k := Sum.inr n) (e1 _ _ k1) (fld e1) (fun H2 e2 => ev_var rfl) rfl z1 fun H2 e2 => ?_
        exact q v' H2 (e1.trans e2) (z3.mono d.ok (Js.Ex.xm (e1.trans e2)))
      · rw [h1] at z2
        cases z2
theorem ok_Desk_undoable (T : Tx w K mg) : FnAt P w K mg base 1 (He.fAd K ("Desk", some "undoable")) (fun vs H Q _ => ∃ (M : Addr → Prop) (x dk pl : Addr) (al : List (PySem.Str × StoreD)) (hist : List (PySem.Str × Option StoreD)), vs = [.ref x] ∧ DeskR K M H x dk pl al hist ∧ ∀ H', Ex H H' → Q (.int (hist.length : Int)) H') := by
  have S : FnScope ["self"] ["self"] (defScope s_Desk_undoable) := ⟨rfl, rfl, rfl, by decide +kernel, rfl, by decide +kernel, by decide +kernel⟩
  refine mk0 0 T.f_Desk_undoable S (fun _ _ _ _ _ _ us hl => match us, hl with | [_], _ => rfl) (fun vs H Q E h => by obtain ⟨_, _, _, _, _, _, rfl, _⟩ := h; rfl) fun cdv A outer s H vs Q E hr h => ?_
  obtain ⟨M, x, dk, pl, al, hist, rfl, d, q⟩ := h
  refine ⟨_, pss_one (ps_ret (pe_callB (lenK (K := K) rfl) rfl T.z_len (by decide +kernel) (pa_cons (fldK (K := K) rfl (pv 0)) pa_nil))), ?_⟩
  obtain ⟨dx, hx⟩ := d.at_
  obtain ⟨ps, p1, p2⟩ := d.ps
  refine s_ret (ev_len (ev_fld (ev_var rfl) hx T.c_Desk T.n_Desk_past rfl) (sq_of p1)) fun H1 e1 => ?_
  rw [pd_len p2]
  exact q H1 e1
def spDesk (K : PySem.W.Frag) : Sp := fun vs H Q _ => ∃ x dx, vs = [.ref x] ∧ H x = some (.ins (He.ga K "Desk") dx []) ∧ ∀ dk pl H', Kp x H H' → H dk = none → H pl = none → H' x = some (.ins (He.ga K "Desk") dx [("kept", .ref dk), ("past", .ref pl)]) → H' dk = some (.dK []) → H' pl = some (.lst []) → Q .non H'
theorem ok_Desk_init (T : Tx w K mg) : FnAt P w K mg base 1 (He.fAd K ("Desk", some "__init__")) (spDesk K) := by
  have S : FnScope ["self"] ["self"] (defScope s_Desk_init) := ⟨rfl, rfl, rfl, by decide +kernel, rfl, by decide +kernel, by decide +kernel⟩
  refine mk0 0 T.f_Desk_init S (fun _ _ _ _ _ _ us hl => match us, hl with | [_], _ => rfl) (fun vs H Q E h => by obtain ⟨_, _, rfl, _⟩ := h; rfl) fun cdv A outer s H vs Q E hr h => ?_
  obtain ⟨x, dx, rfl, hx, q⟩ := h
  refine ⟨_, pss_cons (ps_fld (pv 0) pe_dnewK rfl)
      (pss_one (ps_fld (pv 0) (pe_lst pa_nil) rfl)), ?_⟩
  intro dk ndk
  have e1 : Ex H (upd H dk (.dK [])) := Ex.new ndk
  refine ⟨.ref x, rfl, x, _, dx, _, rfl, e1 _ _ hx, T.c_Desk, T.n_Desk_kept, by decide, ?_⟩
  have ndx : dk ≠ x := fun z => by rw [z, hx] at ndk; cases ndk
  refine r_fldL (as := ([] : List Int)) el_0 (fun H1 e => ev_var rfl) upd_same T.c_Desk T.n_Desk_past (by show (1 : Nat) < 1000; decide) fun pl xs H2 e2 npl h1 h2 => ?_
  cases h2
  have npx : pl ≠ x := fun z => by rw [z, upd_same] at npl; cases npl
  have npd : pl ≠ dk := fun z => by rw [z, upd_ne ndx, upd_same] at npl; cases npl
  have nH : H pl = none := by rw [upd_ne npx, upd_ne npd] at npl; exact npl
  refine q dk pl _ ((((Ex.kp e1).trans Kp.upd).trans (Ex.kp e2)).trans Kp.upd) ndk nH upd_same ?_ (by rw [upd_ne npx]; exact h1)
  rw [upd_ne ndx]
  exact e2 _ _ (by rw [upd_ne ndx]; exact upd_same)
theorem ok_Desk_change (T : Tx w K mg) : FnAt P w K mg base 10 (He.fAd K ("Desk", some "change")) (spDChange K) := by
  have S : FnScope ["self", "values", "store"] ["self", "values", "store"] (defScope s_Desk_change) := ⟨rfl, rfl, rfl, by decide +kernel, rfl, by decide +kernel, by decide +kernel⟩
  have G_Store_put := ok_Store_put (P := P) (base := base) T
  have G_Store_keep := ok_Store_keep (P := P) (base := base) T
  have G_Desk_keep := ok_Desk_keep (P := P) (base := base) T
  refine mk0 9 T.f_Desk_change S (fun _ _ _ _ _ _ us hl => match us, hl with | [_, _, _], _ => rfl) (fun vs H Q E h => by obtain ⟨_, _, _, _, _, _, _, _, _, _, _, _, _, _, _, _, _, rfl, _⟩ := h; rfl) fun cdv A outer s H vs Q E hr h => ?_
  obtain ⟨M, H0, x, dk, pl, p, dx, l, v, v0, xs, n, vals, d, d', al, hist, rfl, dk0, hal, hhi, e0, np, nl, hso, h_values0, hn, hcase, q⟩ := h
  have h_values := Rp.mono e0 h_values0
  refine ⟨_, pss_cons (ps_if (pt_cmpR op_eq (pe_ix (ixL (K := K) rfl) (pv 1) pe_int (fun _ _ => rfl)) pe_str (nomark _))
        (pss_one (ps_expr (pe_m G_Store_put T.c_Store T.m_Store_put hr (by decide) passN (pv 2) (pa_cons (pe_ix (ixL (K := K) rfl) (pv 1) pe_int (fun _ _ => rfl)) (pa_cons (pe_ix (ixL (K := K) rfl) (pv 1) pe_int (fun _ _ => rfl)) pa_nil)))))
        (pss_one (ps_expr (pe_m0 G_Store_keep T.c_Store T.m_Store_keep hr (by decide) passN (pv 2)))))
      (pss_one (ps_ret (pe_m G_Desk_keep T.c_Desk T.m_Desk_keep hr (by decide) passN (pv 0) (pa_cons (pe_ix (ixL (K := K) rfl) (pv 1) pe_int (fun _ _ => rfl)) (pa_cons (pv 2) pa_nil))))), ?_⟩
  have hv : r K H (.ref p) d := ⟨p, dx, v0, l, xs, rfl, hso⟩
  have nMl : ¬ M l := fun h => by
    rcases dk0.ok l h with ⟨xs, z⟩ | ⟨kvs, z⟩
    · rw [nl] at z; cases z
    · rw [nl] at z; cases z
  obtain ⟨g1, g2, g3, g4⟩ := id hso
  -- behind the store's change: the desk keeps it
  have fin : ∀ (H2 : Hp) (v1 : V) (xs1 : List V), Ex H0 H2 → SoR K H2 p dx v1 l xs1 d' → ∀ {ti : TE}, Ev ti (L2.start ["self", "values", "store"] [.ref x, v, .ref p]) H2 (.str n) →
      tRet (tM (He.ga K "Desk") "keep" (spDKeep K) eN (tVar 0) (tCons ti (tCons (tVar 2) tNil))) (EndR Q) (L2.start ["self", "values", "store"] [.ref x, v, .ref p]) H2 := by
    intro H2 v1 xs1 e2 hs ti ht
    have dk2 := dk0.ex e2
    obtain ⟨dxx, hx⟩ := dk2.at_
    refine ⟨.ref x, rfl, x, dxx, _, rfl, hx, rfl, ht H2 (Ex.refl _) _ fun H3 e3 => ⟨.ref p, rfl, M, x, dk, pl, n, .ref p, some d', al, hist, rfl, dk2.ex e3, by omega, by omega, ⟨p, dx, v1, l, xs1, rfl, nMl, hs.mono e3⟩, fun H' k2 hd => q H' ((Ex.kp2 (e2.trans e3)).trans k2) hd⟩⟩
  rcases hcase with ⟨c, stay, rfl, hp, hst, rfl⟩ | ⟨rfl, hb0, hnk, hk, rfl⟩
  · refine r_if (et_t (K := K) (er_eqS (er_vs (er_ixL (a := Val.s "put") (er_var rfl h_values) (er_i 0) (j := 0) rfl rfl)) (er_s "put"))) (fun hc H1 e1 => ?_) fun hc H1 e1 => ?_
    · have hv1 := Rp.mono e1 h_values
      refine ⟨.ref p, rfl, p, dx, _, rfl, e1 _ _ g1, rfl, ?_⟩
      refine er_vp (er_ixL (a := Val.p c) (er_var rfl hv1) (er_i 3) (j := 3) rfl rfl) H1 (Ex.refl _) _ fun u2 H2 e2 hu2 => ?_
      refine er_vi (er_ixL (a := Val.i (stay : Int)) (er_var rfl (Rp.mono e2 hv1)) (er_i 2) (j := 2) rfl rfl) H2 (Ex.refl _) _ fun u3 H3 e3 hu3 => ?_
      obtain rfl : u3 = .int (stay : Int) := hu3
      have e13 := (e1.trans e2).trans e3
      refine ⟨p, dx, v0, l, xs, d, u2, c, stay, rfl, hso.mono e13, Rp.mono e3 hu2, hp, hst, by omega, fun v1 xs1 H4 k4 hs4 => ?_⟩
      have e4 : Ex H0 H4 := Kp2.ex (e0.trans e13) np nl k4
      refine fin H4 v1 xs1 e4 hs4 (Er.evS (er_vs (er_ixL (a := Val.s n) (er_var (a := Ls.mk [Val.s "put", .s n, .i (stay : Int), .p c]) rfl (Rp.mono e4 h_values0)) (er_i 1) (j := 1) rfl rfl)))
    · simp at hc
  · refine r_if (et_t (K := K) (er_eqS (er_vs (er_ixL (a := Val.s "keep") (er_var rfl h_values) (er_i 0) (j := 0) rfl rfl)) (er_s "put"))) (fun hc H1 e1 => ?_) fun hc H1 e1 => ?_
    · exact absurd (of_decide_eq_true hc) (by decide +kernel)
    · have hv1 := Rp.mono e1 h_values
      refine ⟨.ref p, rfl, p, dx, _, rfl, e1 _ _ g1, rfl, p, dx, v0, l, xs, d, rfl, hso.mono e1, hb0, hnk, hk, by omega, fun v1 xs1 H4 k4 hs4 => ?_⟩
      have e4 : Ex H0 H4 := Kp2.ex (e0.trans e1) np nl k4
      refine fin H4 v1 xs1 e4 hs4 (Er.evS (er_vs (er_ixL (a := Val.s n) (er_var (a := Ls.mk [Val.s "keep", .s n]) rfl (Rp.mono e4 h_values0)) (er_i 1) (j := 1) rfl rfl)))
theorem er_mSt {σ : L2.St} {H : Hp} {d : StoreD} {ta : TE} {E : L2.St → XK} (ha : Er K ta σ H d) {tb tc : TE} {lo hi : Int} (hb : Er K tb σ H lo) (hc : Er K tc σ H hi) (hp : (0 ≤ lo ∧ lo ≤ 999) ∧ (0 ≤ hi ∧ hi ≤ 999) ∧ d.s.made.length ≤ 60 ∧ ∀ ru ∈ runsD d, ru.length ≤ 1000) :
    El K (tM (He.ga K "Store") "stretch" (spStretch K) E ta (tCons tb (tCons tc tNil))) σ H (strD d lo hi) := fun H1 e1 Q q => ha H1 e1 _ fun v H2 e2 hv => by
  have hv' := hv
  obtain ⟨p, dx, vs, l, xs, rfl, h1, h2⟩ := hv
  refine ⟨p, dx, _, rfl, h1, rfl, hb H2 (e1.trans e2) _ fun u1 H3 e3 hu1 => hc H3 ((e1.trans e2).trans e3) _ fun u2 H4 e4 hu2 => ?_⟩
  obtain rfl : u1 = .int lo := hu1
  obtain rfl : u2 = .int hi := hu2
  exact ⟨.ref p, d, lo, hi, rfl, Rp.mono (e3.trans e4) hv', hp, fun p xs H5 e5 hn g1 g2 => q p xs H5 (((e2.trans e3).trans e4).trans e5) (fresh_back e2 (fresh_back e3 (fresh_back e4 hn))) g1 g2⟩
theorem rwS_len {f l n : Int} (h1 : 0 ≤ f ∧ f < 1000) (h2 : 0 ≤ l ∧ l < 1000) (h3 : 0 ≤ n ∧ n < 100000) : (rwS f l n).length ≤ 1000 := by
  have l1 := strI_len (i := f) (by omega) (by omega)
  have l2 := strI_len (i := l) (by omega) (by omega)
  have l3 := strI_len (i := n) (by omega) (by omega)
  have c1 : (("-" : PySem.Str)).length = 1 := by decide +kernel
  have c2 : ((":" : PySem.Str)).length = 1 := by decide +kernel
  unfold rwS
  rw [len_cat, len_cat, len_cat, len_cat, c1, c2]
  omega
theorem ne_str {a b : PySem.Str} (h : a ≠ b) : ¬ decide (a = b) = true := by simpa using h
theorem ok_Desk_answer (T : Tx w K mg) : FnAt P w K mg base 6 (He.fAd K ("Desk", some "answer")) (spAnswer K) := by
  have S : FnScope ["self", "values", "store", "first", "last", "run"] ["self", "values", "store"] (defScope s_Desk_answer) := ⟨rfl, rfl, rfl, by decide +kernel, rfl, by decide +kernel, by decide +kernel⟩
  have G_pairs_text := ok_pairs_text (P := P) (base := base) T
  have G_Store_stretch := ok_Store_stretch (P := P) (base := base) T
  have G_Store_rows := ok_Store_rows (P := P) (base := base) T
  have G_Store_plan := ok_Store_plan (P := P) (base := base) T
  have G_begins_text := ok_begins_text (P := P) (base := base) T
  have G_words_or_none := ok_words_or_none (P := P) (base := base) T
  have G_run_word := ok_run_word (P := P) (base := base) T
  refine mk0 5 T.f_Desk_answer S (fun _ _ _ _ _ _ us hl => match us, hl with | [_, _, _], _ => rfl) (fun vs H Q E h => by obtain ⟨_, _, _, _, _, _, _, rfl, _⟩ := h; rfl) fun cdv A outer s H vs Q E hr h => ?_
  obtain ⟨s0, v, u, vals, d, n, z, rfl, h_values, h_store, ok, ans, q⟩ := h
  refine ⟨_, pss_cons (ps_if (pt_cmpR op_eq (pe_ix (ixL (K := K) rfl) (pv 1) pe_int (fun _ _ => rfl)) pe_str (nomark _))
        (pss_one (ps_never))
        (pss_nil))
      (pss_cons (ps_if (pt_cmpR op_eq (pe_ix (ixL (K := K) rfl) (pv 1) pe_int (fun _ _ => rfl)) pe_str (nomark _))
        (pss_one (ps_never))
        (pss_nil))
      (pss_cons (ps_if (pt_cmpR op_eq (pe_ix (ixL (K := K) rfl) (pv 1) pe_int (fun _ _ => rfl)) pe_str (nomark _))
        (pss_one (ps_ret (pe_f G_pairs_text T.g_pairs_text hr (by decide) passN (pa_cons (pe_m G_Store_stretch T.c_Store T.m_Store_stretch hr (by decide) passN (pv 2) (pa_cons (pe_ix (ixL (K := K) rfl) (pv 1) pe_int (fun _ _ => rfl)) (pa_cons (pe_ix (ixL (K := K) rfl) (pv 1) pe_int (fun _ _ => rfl)) pa_nil))) pa_nil))))
        (pss_nil))
      (pss_cons (ps_if (pt_cmpR op_eq (pe_ix (ixL (K := K) rfl) (pv 1) pe_int (fun _ _ => rfl)) pe_str (nomark _))
        (pss_one (ps_never))
        (pss_nil))
      (pss_cons (ps_if (pt_cmpR op_eq (pe_ix (ixL (K := K) rfl) (pv 1) pe_int (fun _ _ => rfl)) pe_str (nomark _))
        (pss_one (ps_ret (pe_callTy call_str_int rfl T.z_str (by decide +kernel) (pa_cons (pe_m0 G_Store_rows T.c_Store T.m_Store_rows hr (by decide) passN (pv 2)) pa_nil))))
        (pss_nil))
      (pss_cons (ps_if (pt_cmpR op_eq (pe_ix (ixL (K := K) rfl) (pv 1) pe_int (fun _ _ => rfl)) pe_str (nomark _))
        (pss_one (ps_ret (pe_ifExp (pt_cmpR op_gt (pe_callB (lenK (K := K) rfl) rfl T.z_len (by decide +kernel) (pa_cons (pe_m0 G_Store_plan T.c_Store T.m_Store_plan hr (by decide) passN (pv 2)) pa_nil)) pe_int (nomark _)) (pe_f G_begins_text T.g_begins_text hr (by decide) passN (pa_cons (pe_m0 G_Store_plan T.c_Store T.m_Store_plan hr (by decide) passN (pv 2)) pa_nil)) (pe_gs T.s_NONE))))
        (pss_nil))
      (pss_one (ps_ret (pe_f G_words_or_none T.g_words_or_none hr (by decide) passN (pa_cons (pe_lc (own := [("first", 3), ("last", 4), ("run", 5)]) (g := gTup K 3 (gCons (gName 3) (gCons (gName 4) (gCons (gName 5) gNil)))) (tt := tYes) rfl S.nd (pi_tup (fldK (K := K) rfl (fldK (K := K) rfl (pv 2)))) (blkOk_by (N := ["self", "values", "store", "first", "last", "run"]) (sc := defScope s_Desk_answer) (own := [("first", 3), ("last", 4), ("run", 5)]) (by decide +kernel)) (fun _ _ _ _ _ => pg_tup rfl (pgs_cons (pg_name (i := 3) S.nd rfl (Or.inl rfl)) (pgs_cons (pg_name (i := 4) S.nd rfl (Or.inl rfl)) (pgs_cons (pg_name (i := 5) S.nd rfl (Or.inl rfl)) pgs_nil)))) (fun _ _ _ _ _ => pts_nil) (fun _ _ _ _ _ => pe_f G_run_word T.g_run_word hr (by decide) passN (pa_cons (pv 3) (pa_cons (pv 4) (pa_cons (pv 5) pa_nil))))) pa_nil))))))))), ?_⟩
  have e0 : ∀ {H1 : Hp} {c : PySem.Str} {rest : List Val}, Ex H H1 → vals = .s c :: rest → Er K (tOp (rIxL K) (tVar 1) (tC (.int 0))) (L2.start ["self", "values", "store", "first", "last", "run"] [s0, v, u]) H1 c := fun e h => er_vs (er_ixL (a := Val.s _) (er_var rfl (Rp.mono e h_values)) (er_i 0) (j := 0) rfl (by rw [h]; rfl))
  have skip : ∀ {H1 : Hp} {c : PySem.Str} {rest : List Val} (t : PySem.Str) {tu : TS} {D : Ends}, Ex H H1 → vals = .s c :: rest → c ≠ t → (∀ H2, Ex H1 H2 → D.nx (L2.start ["self", "values", "store", "first", "last", "run"] [s0, v, u]) H2) → tIfS (tTest (tOp rEq (tOp (rIxL K) (tVar 1) (tC (.int 0))) (tC (.str t)))) tu tNext D (L2.start ["self", "values", "store", "first", "last", "run"] [s0, v, u]) H1 := by
    intro H1 c rest t tu D e h hne k
    exact r_if (et_t (K := K) (er_eqS (e0 e h) (er_s t))) (fun hc => absurd hc (ne_str hne)) fun _ H2 e2 => k H2 e2
  have hit : ∀ {H1 : Hp} {c : PySem.Str} {rest : List Val} (t : PySem.Str) {tu : TS} {D : Ends}, Ex H H1 → vals = .s c :: rest → c = t → (∀ H2, Ex H1 H2 → tu D (L2.start ["self", "values", "store", "first", "last", "run"] [s0, v, u]) H2) → tIfS (tTest (tOp rEq (tOp (rIxL K) (tVar 1) (tC (.int 0))) (tC (.str t)))) tu tNext D (L2.start ["self", "values", "store", "first", "last", "run"] [s0, v, u]) H1 := by
    intro H1 c rest t tu D e h he k
    exact r_if (et_t (K := K) (er_eqS (e0 e h) (er_s t))) (fun _ H2 e2 => k H2 e2) fun hc => by rw [he] at hc; simp at hc
  generalize hvals : vals = vals' at ans
  cases ans with
  | stretch =>
    refine skip "look" (Ex.refl _) hvals (by decide +kernel) fun H1 e1 => skip "at" e1 hvals (by decide +kernel) fun H2 e2 => hit "stretch" (e1.trans e2) hvals rfl fun H3 e3 => ?_
    have e := (e1.trans e2).trans e3
    have hv1 := Rp.mono e h_values
    rw [hvals] at hv1
    refine r_ret (K := K) (er_f1 (El.er' (er_mSt (er_var rfl (Rp.mono e h_store)) (er_vi (er_ixL (a := Val.i 0) (er_var rfl hv1) (er_i 2) (j := 2) rfl rfl)) (er_vi (er_ixL (a := Val.i 999) (er_var rfl hv1) (er_i 3) (j := 3) rfl rfl)) ⟨by decide, by decide, ok.md, fun ru hru => ?_⟩)) ok.st) fun v4 H4 e4 hv4 => ?_
    · unfold runsD at hru
      obtain ⟨y, hy, rfl⟩ := List.mem_map.mp hru
      exact (ok.mr y (List.mem_filter.mp hy).1).2.2
    · obtain rfl : v4 = .str _ := hv4
      exact q H4 (e.trans e4)
  | rows =>
    refine skip "look" (Ex.refl _) hvals (by decide +kernel) fun H1 e1 => skip "at" e1 hvals (by decide +kernel) fun H2 e2 => skip "stretch" (e1.trans e2) hvals (by decide +kernel) fun H3 e3 => skip "least" ((e1.trans e2).trans e3) hvals (by decide +kernel) fun H4 e4 => hit "rows" (((e1.trans e2).trans e3).trans e4) hvals rfl fun H5 e5 => ?_
    have e := (((e1.trans e2).trans e3).trans e4).trans e5
    refine r_ret (K := K) (er_str' (er_mSo0 (f := fun d : StoreD => d.s.rows) (er_var rfl (Rp.mono e h_store)) trivial (.inl rfl)) (by have := ok.ro; show -10 < d.s.rows; omega) (by have := ok.ro; show d.s.rows < 1000000; omega)) fun v6 H6 e6 hv6 => ?_
    obtain rfl : v6 = .str _ := hv6
    exact q H6 (e.trans e6)
  | plan =>
    refine skip "look" (Ex.refl _) hvals (by decide +kernel) fun H1 e1 => skip "at" e1 hvals (by decide +kernel) fun H2 e2 => skip "stretch" (e1.trans e2) hvals (by decide +kernel) fun H3 e3 => skip "least" ((e1.trans e2).trans e3) hvals (by decide +kernel) fun H4 e4 => skip "rows" (((e1.trans e2).trans e3).trans e4) hvals (by decide +kernel) fun H5 e5 => hit "plan" ((((e1.trans e2).trans e3).trans e4).trans e5) hvals rfl fun H6 e6 => ?_
    have e := ((((e1.trans e2).trans e3).trans e4).trans e5).trans e6
    have hpl : Er K (tM (He.ga K "Store") "plan" (Pu1 K (fun (_ : StoreD) => True) fun d => d.s.plan) eN (tVar 2) tNil) (L2.start ["self", "values", "store", "first", "last", "run"] [s0, v, u]) H6 d.s.plan := er_mSo0 (f := fun d : StoreD => d.s.plan) (er_var rfl (Rp.mono e h_store)) trivial (.inr rfl)
    refine r_ret (K := K) (er_if (a := planS d.s.plan) (k := !decide (d.s.plan = [])) (et_t (K := K) (Er.is (er_IB (g := fun i j => decide (j < i)) (er_lenT hpl) (er_i 0)) ?_)) (fun hc => ?_) fun hc => ?_) fun v7 H7 e7 hv7 => ?_
    · cases d.s.plan <;> simp
    · have h0 : ¬ d.s.plan = [] := by simpa using hc
      rw [show planS d.s.plan = Txt.join "," (d.s.plan.map strI) from if_neg h0]
      exact er_f1 hpl ⟨ok.pl, ok.pr⟩
    · have h0 : d.s.plan = [] := by simpa using hc
      rw [show planS d.s.plan = "none" from if_pos h0]
      exact er_s _
    · obtain rfl : v7 = .str _ := hv7
      exact q H7 (e.trans e7)
  | runs =>
    refine skip "look" (Ex.refl _) hvals (by decide +kernel) fun H1 e1 => skip "at" e1 hvals (by decide +kernel) fun H2 e2 => skip "stretch" (e1.trans e2) hvals (by decide +kernel) fun H3 e3 => skip "least" ((e1.trans e2).trans e3) hvals (by decide +kernel) fun H4 e4 => skip "rows" (((e1.trans e2).trans e3).trans e4) hvals (by decide +kernel) fun H5 e5 => skip "plan" ((((e1.trans e2).trans e3).trans e4).trans e5) hvals (by decide +kernel) fun H6 e6 => ?_
    have e := ((((e1.trans e2).trans e3).trans e4).trans e5).trans e6
    refine r_ret (K := K) (er_f1 (El.er' (el_lcY (f := fun x : T3 Int Int (List TR) => rwS x.a x.b x.c.length) (wr_tup (er_stM T (er_soS T (er_var rfl (Rp.mono e h_store))))) (by have := ok.md; omega) fun a v H1 ha e1 hv Q q => ?_)) ⟨?_, ?_⟩) fun v7 H7 e7 hv7 => ?_
    · obtain ⟨a1, a2, a3⟩ := a
      have hm := ok.mr _ ha
      exact gb_trip hv fun y1 y2 y3 g1 g2 g3 => q _ _ (Ex.refl _) rfl (er_f3 (er_var (a := a1) rfl g1) (er_var (a := a2) rfl g2) (er_var (a := a3) rfl g3) ⟨hm.1, hm.2.1, by have := hm.2.2; show a3.length < 100000; exact Nat.lt_of_le_of_lt this (by decide)⟩)
    · obtain rfl : v7 = .str _ := hv7
      exact q H7 (e.trans e7)
    · have := ok.md
      show (List.map _ _).length ≤ 1000
      rw [List.length_map]
      omega
    · intro y hy
      obtain ⟨a, ha, rfl⟩ := List.mem_map.mp hy
      have hm := ok.mr a ha
      exact rwS_len hm.1 hm.2.1 (by have := hm.2.2; omega)
end
end Js
/-! ### Desk.tell -/
namespace Js
open PySem PySem.Spec PyProof.Rows L2 Evl SX
open Rp (r)
/-- what a told line does, by its values -/
inductive TellR (K : PySem.W.Frag) (M : Addr → Prop) (H : Hp) (x dk pl : Addr) (al : List (PySem.Str × StoreD)) (hist : List (PySem.Str × Option StoreD)) (Q : VK) (E : XK) : List Val → Prop where
  | undo (h : (hist = [] ∧ ∀ H', Ex H H' → E (.ref (He.ga K "NothingDone")) none H') ∨ ∃ h n o, hist = h ++ [(n, o)] ∧ ∀ H', Kp2 dk pl H H' → DeskR K M H' x dk pl (setA al n o) h → Q (.str "ok") H') : TellR K M H x dk pl al hist Q E [.s "undo"]
  | names (hl : al.length < 64) (hn : ∀ a ∈ al, a.1.length ≤ 1000) (h : ∀ ys : List PySem.Str, ys.Perm (al.map (·.1)) → sortedS ys = true → ∀ H', Ex H H' → Q (.str (textL id "none" " " ys)) H') : TellR K M H x dk pl al hist Q E [.s "names"]
  | store (n : PySem.Str) (m : Int) (h : ((1 ≤ m ∧ m ≤ 30) ∧ ∀ H', Kp2 dk pl H H' → DeskR K M H' x dk pl (putA al n ⟨m, ⟨[], [], [], [], 0⟩, 0⟩) (hist ++ [(n, lookA al n)]) → Q (.str "ok") H') ∨ (¬ (1 ≤ m ∧ m ≤ 30) ∧ ∀ H', Ex H H' → E (.ref (He.ga K "NoNumber")) none H')) : TellR K M H x dk pl al hist Q E [.s "store", .s n, .i m]
  | noname (c n : PySem.Str) (rest : List Val) (hc : c ≠ "undo" ∧ c ≠ "names" ∧ c ≠ "store") (hn : lookA al n = none) (h : ∀ dd H', Ex H H' → H dd = none → H' dd = some (.xd [("name", .str n)]) → E (.ref (He.ga K "NoName")) (some dd) H') : TellR K M H x dk pl al hist Q E (.s c :: .s n :: rest)
  | drop (n : PySem.Str) (d : StoreD) (hn : lookA al n = some d) (h : ∀ H', Kp2 dk pl H H' → DeskR K M H' x dk pl (dropA al n) (hist ++ [(n, lookA al n)]) → Q (.str "ok") H') : TellR K M H x dk pl al hist Q E [.s "drop", .s n]
  | change (c n : PySem.Str) (rest : List Val) (d d' : StoreD) (hn : lookA al n = some d) (hm : 1 ≤ d.m ∧ d.m ≤ 30) (hd : d.n < 80000) (hc : c = "put" ∨ c = "keep")
      (hh : (∃ (b : List PR) (stay : Nat), (Val.s c :: Val.s n :: rest) = [.s "put", .s n, .i (stay : Int), .p b] ∧ PreB d.s b stay ∧ ((stay : Int) ≤ d.s.made.length ∧ (stay : Int) ≤ d.m - 1) ∧ d' = ⟨d.m, withB d.s b stay, d.n + 1⟩) ∨
        ((Val.s c :: Val.s n :: rest) = [.s "keep", .s n] ∧ 0 < d.s.b.length ∧ ((d.s.b.length : Int) - 1) ∉ d.s.k ∧ d.s.k.length ≤ 1000 ∧ d' = ⟨d.m, withK d.s, d.n + 1⟩))
      (h : ∀ H', Kp2 dk pl H H' → DeskR K M H' x dk pl (putA al n d') (hist ++ [(n, lookA al n)]) → Q (.str "ok") H') : TellR K M H x dk pl al hist Q E (.s c :: .s n :: rest)
  | answer (c n : PySem.Str) (rest : List Val) (d : StoreD) (z : PySem.Str) (hn : lookA al n = some d) (ok : AnsOk d) (ha : AnsR d n (.s c :: .s n :: rest) z) (h : ∀ H', Ex H H' → Q (.str z) H') : TellR K M H x dk pl al hist Q E (.s c :: .s n :: rest)
def spTell (K : PySem.W.Frag) : Sp := fun vs H Q E => ∃ (M : Addr → Prop) (x dk pl : Addr) (z first : PySem.Str) (sorts : List PySem.Str) (vals : List Val) (al : List (PySem.Str × StoreD)) (hist : List (PySem.Str × Option StoreD)), vs = [.ref x, .str z] ∧ DeskR K M H x dk pl al hist ∧ al.length < 80000 ∧ hist.length < 80000 ∧ FormK K first sorts ∧ LineOk z first sorts vals ∧ TellR K M H x dk pl al hist Q E (.s first :: vals)
theorem ans_ne {d : StoreD} {n c z : PySem.Str} {rest : List Val} (h : AnsR d n (.s c :: .s n :: rest) z) : c ≠ "undo" ∧ c ≠ "names" ∧ c ≠ "store" ∧ c ≠ "drop" ∧ c ≠ "put" ∧ c ≠ "keep" := by
  cases h <;> decide +kernel
section
variable {P : Program} {w : World} {K : PySem.W.Frag} {mg : PySem.Str → Option Value} {base : Heap}
theorem keys_of {F : V → StoreD → Prop} {kvs : List (L2.Key × V)} {al : List (PySem.Str × StoreD)} (h : DkR F Sum.inr kvs al) : (kvs.map fun kv => kV kv.1) = (al.map (·.1)).map V.str := by
  unfold DkR at h
  induction h with
  | nil => rfl
  | cons h _ ih =>
    rw [List.map_cons, List.map_cons, List.map_cons, ih, h.1]
    rfl
theorem er_inSU {z : PySem.Str} {ys : List PySem.Str} {ta tb : TE} {σ : L2.St} {H : Hp} (ha : Er K ta σ H z) (hb : Er K tb σ H ys) : Er K (tOp (rIn K false) ta tb) σ H (decide (z ∈ ys)) := er_inST ha hb
theorem er_tup2S {a b : PySem.Str} {ta tb : TE} {σ : L2.St} {H : Hp} (ha : Er K ta σ H a) (hb : Er K tb σ H b) : Er K (tTup (tCons ta (tCons tb tNil))) σ H ([a, b] : List PySem.Str) := fun H1 e1 Q q => ha H1 e1 _ fun v H2 e2 hv => hb H2 (e1.trans e2) _ fun u H3 e3 hu =>
  ⟨by show 2 ≤ sizeLine; decide, fun p hp => q _ _ ((e2.trans e3).trans (Ex.new hp)) ⟨p, [v, u], rfl, st_of upd_same, .cons hv (.cons hu .nil)⟩⟩
def rListD : List V → Hp → VK → Prop := fun xs H Q => ∃ (a : Addr) (kvs : List (L2.Key × V)), xs = [.ref a] ∧ Rd H a (.dK kvs) ∧ ∀ p, H p = none → Q (.ref p) (upd H p (.lst (kvs.map fun kv => kV kv.1)))
theorem r_words {D : Ends} {σ : L2.St} {H : Hp} {a : Addr} {kvs : List (L2.Key × V)} {names : List PySem.Str} {te : TE} (he : Ev te σ H (.ref a)) (hd : H a = some (.dK kvs)) (hk : (kvs.map fun kv => kV kv.1) = names.map V.str) (hl : names.length < 64) (hn : ∀ z ∈ names, z.length ≤ 1000)
    (k : ∀ ys : List PySem.Str, ys.Perm names → sortedS ys = true → ∀ H', Ex H H' → D.rt (.str (textL id "none" " " ys)) H') :
    tRet (tF (Pu1 K (fun (ps : Ls PySem.Str) => ps.l.length ≤ 1000 ∧ ∀ x ∈ ps.l, x.length ≤ 1000) fun ps => textL id "none" " " ps.l) eN (tCons (tCB (rSortedS K) (tCons (tCB rListD (tCons te tNil)) tNil)) tNil)) D σ H := by
  refine he H (Ex.refl _) _ fun H1 e1 => ⟨a, kvs, rfl, .inl (e1 _ _ hd), fun p1 n1 => ⟨p1, names, rfl, sq_of (by rw [hk]; exact upd_same), hl, fun ys p2 hpm hs n2 => ?_⟩⟩
  refine ⟨.ref p2, Ls.mk ys, rfl, ⟨p2, _, rfl, sq_of upd_same, pd_of (F := r K _) (f := V.str) (fun b => (rfl : V.str b = V.str b)) ys⟩, ⟨?_, fun z hz => hn z (hpm.mem_iff.mp hz)⟩, fun v H3 e3 hv => ?_⟩
  · show ys.length ≤ 1000
    rw [hpm.length_eq]
    omega
  · obtain rfl : v = .str (textL id "none" " " ys) := hv
    exact k ys hpm hs H3 ((e1.trans (Ex.new n1)).trans ((Ex.new n2).trans e3))
theorem ok_Desk_tell (T : Tx w K mg) : FnAt P w K mg base 11 (He.fAd K ("Desk", some "tell")) (spTell K) := by
  have S : FnScope ["self", "line", "values", "store"] ["self", "line"] (defScope s_Desk_tell) := ⟨rfl, rfl, rfl, by decide +kernel, rfl, by decide +kernel, by decide +kernel⟩
  have G_values_of := ok_values_of (P := P) (base := base) T
  have G_Desk_undo := ok_Desk_undo (P := P) (base := base) T
  have G_words_or_none := ok_words_or_none (P := P) (base := base) T
  have G_Desk_keep := ok_Desk_keep (P := P) (base := base) T
  have G_Store_init := ok_Store_init (P := P) (base := base) T
  have G_Desk_store_under := ok_Desk_store_under (P := P) (base := base) T
  have G_Desk_change := ok_Desk_change (P := P) (base := base) T
  have G_Store_copy := ok_Store_copy (P := P) (base := base) T
  have G_Desk_answer := ok_Desk_answer (P := P) (base := base) T
  refine mkX 10 T.f_Desk_tell S (fun _ _ _ _ _ _ us hl => match us, hl with | [_, _], _ => rfl) (fun vs H Q E h => by obtain ⟨_, _, _, _, _, _, _, _, _, _, rfl, _⟩ := h; rfl) fun cdv A outer s H vs Q E hr h => ?_
  obtain ⟨M, x, dk, pl, z, first, sorts, vals, al, hist, rfl, d0, hal, hhi, hform, hline, ht⟩ := h
  refine ⟨_, pss_cons (ps_set (i := 2) S.nd rfl (Or.inl rfl) (pe_f G_values_of T.g_values_of hr (by decide) passN (pa_cons (pv 1) pa_nil)))
      (pss_cons (ps_if (pt_cmpR op_eq (pe_ix (ixL (K := K) rfl) (pv 2) pe_int (fun _ _ => rfl)) pe_str (nomark _))
        (pss_one (ps_ret (pe_m0 G_Desk_undo T.c_Desk T.m_Desk_undo hr (by decide) (fun σ => passAt (takes_of rfl rfl rfl rfl) σ) (pv 0))))
        (pss_nil))
      (pss_cons (ps_if (pt_cmpR op_eq (pe_ix (ixL (K := K) rfl) (pv 2) pe_int (fun _ _ => rfl)) pe_str (nomark _))
        (pss_one (ps_ret (pe_f G_words_or_none T.g_words_or_none hr (by decide) passN (pa_cons (pe_callB cr_sortedS rfl T.z_sorted (by decide +kernel) (pa_cons (pe_callTy (call_listD rfl) rfl T.z_list (by decide +kernel) (pa_cons (fldK (K := K) rfl (pv 0)) pa_nil)) pa_nil)) pa_nil))))
        (pss_nil))
      (pss_cons (ps_if (pt_cmpR op_eq (pe_ix (ixL (K := K) rfl) (pv 2) pe_int (fun _ _ => rfl)) pe_str (nomark _))
        (pss_one (ps_ret (pe_m G_Desk_keep T.c_Desk T.m_Desk_keep hr (by decide) passN (pv 0) (pa_cons (pe_ix (ixL (K := K) rfl) (pv 2) pe_int (fun _ _ => rfl)) (pa_cons (pe_o T.mk_Store G_Store_init T.g_Store hr (by decide) (fun σ => passAt (takes_of rfl rfl rfl rfl) σ) (pa_cons (pe_ix (ixL (K := K) rfl) (pv 2) pe_int (fun _ _ => rfl)) pa_nil)) pa_nil)))))
        (pss_nil))
      (pss_cons (ps_set (i := 3) S.nd rfl (Or.inl rfl) (pe_m G_Desk_store_under T.c_Desk T.m_Desk_store_under hr (by decide) (fun σ => passAt (takes_of rfl rfl rfl rfl) σ) (pv 0) (pa_cons (pe_ix (ixL (K := K) rfl) (pv 2) pe_int (fun _ _ => rfl)) pa_nil)))
      (pss_cons (ps_if (pt_cmpR op_eq (pe_ix (ixL (K := K) rfl) (pv 2) pe_int (fun _ _ => rfl)) pe_str (nomark _))
        (pss_one (ps_ret (pe_m G_Desk_keep T.c_Desk T.m_Desk_keep hr (by decide) passN (pv 0) (pa_cons (pe_ix (ixL (K := K) rfl) (pv 2) pe_int (fun _ _ => rfl)) (pa_cons pe_non pa_nil)))))
        (pss_nil))
      (pss_cons (ps_if (pt_cmpR (inK (K := K) rfl) (pe_ix (ixL (K := K) rfl) (pv 2) pe_int (fun _ _ => rfl)) (pe_tup (pa_cons pe_str (pa_cons pe_str pa_nil))) rfl)
        (pss_one (ps_ret (pe_m G_Desk_change T.c_Desk T.m_Desk_change hr (by decide) passN (pv 0) (pa_cons (pv 2) (pa_cons (pe_m0 G_Store_copy T.c_Store T.m_Store_copy hr (by decide) passN (pv 3)) pa_nil)))))
        (pss_nil))
      (pss_one (ps_ret (pe_m G_Desk_answer T.c_Desk T.m_Desk_answer hr (by decide) passN (pv 0) (pa_cons (pv 2) (pa_cons (pv 3) pa_nil))))))))))), ?_⟩
  refine ⟨.str z, rfl, z, first, sorts, vals, rfl, hform, hline, fun p xs H1 e1 hn h1 h2 => ?_⟩
  have h_values : r K H1 (.ref p) (Ls.mk (Val.s first :: vals)) := ⟨p, xs, rfl, sq_of h1, h2⟩
  generalize hcmd : Val.s first :: vals = cmd at h_values ht
  have d1 := d0.ex e1
  have e0 : ∀ {H2 : Hp} {c : PySem.Str} {rest : List Val} {n4 : Option V}, Ex H1 H2 → cmd = .s c :: rest → Er K (tOp (rIxL K) (tVar 2) (tC (.int 0))) [some (.ref x), some (.str z), some (.ref p), n4] H2 c := fun e h => er_vs (er_ixL (a := Val.s _) (er_var rfl (Rp.mono e h_values)) (er_i 0) (j := 0) rfl (by rw [h]; rfl))
  have e1v : ∀ {H2 : Hp} {v0 : Val} {n : PySem.Str} {rest : List Val} {n4 : Option V}, Ex H1 H2 → cmd = v0 :: .s n :: rest → Er K (tOp (rIxL K) (tVar 2) (tC (.int 1))) [some (.ref x), some (.str z), some (.ref p), n4] H2 n := fun e h => er_vs (er_ixL (a := Val.s _) (er_var rfl (Rp.mono e h_values)) (er_i 1) (j := 1) rfl (by rw [h]; rfl))
  have skip : ∀ {H2 : Hp} {c : PySem.Str} {rest : List Val} {n4 : Option V} (t : PySem.Str) {tu : TS} {D : Ends}, Ex H1 H2 → cmd = .s c :: rest → c ≠ t → (∀ H3, Ex H2 H3 → D.nx [some (.ref x), some (.str z), some (.ref p), n4] H3) → tIfS (tTest (tOp rEq (tOp (rIxL K) (tVar 2) (tC (.int 0))) (tC (.str t)))) tu tNext D [some (.ref x), some (.str z), some (.ref p), n4] H2 := by
    intro H2 c rest n4 t tu D e h hne k
    exact r_if (et_t (K := K) (er_eqS (e0 e h) (er_s t))) (fun hc => absurd hc (ne_str hne)) fun _ H3 e3 => k H3 e3
  have hit : ∀ {H2 : Hp} {c : PySem.Str} {rest : List Val} {n4 : Option V} (t : PySem.Str) {tu : TS} {D : Ends}, Ex H1 H2 → cmd = .s c :: rest → c = t → (∀ H3, Ex H2 H3 → tu D [some (.ref x), some (.str z), some (.ref p), n4] H3) → tIfS (tTest (tOp rEq (tOp (rIxL K) (tVar 2) (tC (.int 0))) (tC (.str t)))) tu tNext D [some (.ref x), some (.str z), some (.ref p), n4] H2 := by
    intro H2 c rest n4 t tu D e h he k
    exact r_if (et_t (K := K) (er_eqS (e0 e h) (er_s t))) (fun _ H3 e3 => k H3 e3) fun hc => by rw [he] at hc; simp at hc
  show (tSeq _ _) (EndR Q) [some (.ref x), some (.str z), some (.ref p), none] H1
  cases ht with
  | undo h =>
    refine hit "undo" (Ex.refl _) rfl rfl fun H2 e2 => ?_
    have d2 := d1.ex e2
    obtain ⟨dx, hx⟩ := d2.at_
    refine ⟨.ref x, rfl, x, dx, _, rfl, hx, rfl, M, x, dk, pl, al, hist, rfl, d2, by omega, ?_⟩
    rcases h with ⟨h0, h⟩ | ⟨hh, n, o, h0, h⟩
    · exact .inl ⟨h0, fun H3 e3 => h H3 ((e1.trans e2).trans e3)⟩
    · exact .inr ⟨hh, n, o, h0, fun H3 k3 hd => h H3 ((Ex.kp2 (e1.trans e2)).trans k3) hd⟩
  | names hl hn h =>
    refine skip "undo" (Ex.refl _) rfl (by decide +kernel) fun H2 e2 => hit "names" e2 rfl rfl fun H3 e3 => ?_
    have e := (e1.trans e2).trans e3
    have d3 := d1.ex (e2.trans e3)
    obtain ⟨dx, hx⟩ := d3.at_
    obtain ⟨kvs, k1, k2⟩ := d3.kd
    refine r_words (names := al.map (·.1)) (ev_fld (ev_var rfl) hx T.c_Desk T.n_Desk_kept rfl) k1 (keys_of k2) (by rw [List.length_map]; exact hl) (fun z hz => ?_) fun ys hpm hs H4 e4 => h ys hpm hs H4 (e.trans e4)
    obtain ⟨a, ha, rfl⟩ := List.mem_map.mp hz
    exact hn a ha
  | store n m h =>
    refine skip "undo" (Ex.refl _) rfl (by decide +kernel) fun H2 e2 => skip "names" e2 rfl (by decide +kernel) fun H3 e3 => hit "store" (e2.trans e3) rfl rfl fun H4 e4 => ?_
    have e := (e2.trans e3).trans e4
    have d4 := d1.ex e
    obtain ⟨dx, hx⟩ := d4.at_
    refine ⟨.ref x, rfl, x, dx, _, rfl, hx, rfl, ?_⟩
    refine (e1v (n4 := none) e rfl).evS H4 (Ex.refl _) _ fun H5 e5 => ?_
    refine (er_vi (er_ixL (a := Val.i m) (er_var (σ := [some (.ref x), some (.str z), some (.ref p), none]) (i := 2) rfl (Rp.mono (e.trans e5) h_values)) (er_i 2) (j := 2) rfl rfl)).evI H5 (Ex.refl _) _ fun H6 e6 => ?_
    have e06 := (e1.trans e).trans (e5.trans e6)
    intro p2 dx2 np ndx ne
    have e7 : Ex H6 (upd (upd H6 dx2 (.own p2)) p2 (.ins (He.ga K "Store") dx2 [])) := Ex.mut (Ex.new ndx) np
    refine ⟨p2, dx2, m, rfl, upd_same, ?_⟩
    rcases h with ⟨hm, h⟩ | ⟨hm, h⟩
    · refine .inl ⟨hm, fun v l H7 kp nl hs => ⟨rfl, ?_⟩⟩
      have e8 : Ex H6 H7 := Kp.ex e7 np kp
      have d8 := d4.ex ((e5.trans e6).trans e8)
      have nl6 := fresh_back e7 nl
      have nMl : ¬ M l := fun hM => by
        rcases (d4.ex (e5.trans e6)).ok l hM with ⟨xs, z⟩ | ⟨kvs, z⟩
        · rw [nl6] at z; cases z
        · rw [nl6] at z; cases z
      exact ⟨M, x, dk, pl, n, .ref p2, some ⟨m, ⟨[], [], [], [], 0⟩, 0⟩, al, hist, rfl, d8, by omega, by omega, ⟨p2, dx2, v, l, [], rfl, nMl, hs⟩, fun H8 k8 hd => h H8 ((Ex.kp2 (e06.trans e8)).trans k8) hd⟩
    · exact .inr ⟨hm, fun H7 e8 => h H7 ((e06.trans e7).trans e8)⟩
  | noname c n rest hc hn h =>
    refine skip "undo" (Ex.refl _) rfl hc.1 fun H2 e2 => skip "names" e2 rfl hc.2.1 fun H3 e3 => skip "store" (e2.trans e3) rfl hc.2.2 fun H4 e4 => ?_
    have e := (e2.trans e3).trans e4
    have d4 := d1.ex e
    obtain ⟨dx, hx⟩ := d4.at_
    refine ⟨.ref x, rfl, x, dx, _, rfl, hx, rfl, ?_⟩
    refine (e1v (n4 := none) e rfl).evS H4 (Ex.refl _) _ fun H5 e5 => ?_
    refine ⟨M, x, dk, pl, n, al, hist, rfl, d4.ex e5, .inr ⟨hn, fun dd H6 e6 nd hd => ?_⟩⟩
    exact h dd H6 (((e1.trans e).trans e5).trans e6) (fresh_back ((e1.trans e).trans e5) nd) hd
  | drop n d hn h =>
    refine skip "undo" (Ex.refl _) rfl (by decide +kernel) fun H2 e2 => skip "names" e2 rfl (by decide +kernel) fun H3 e3 => skip "store" (e2.trans e3) rfl (by decide +kernel) fun H4 e4 => ?_
    have e := (e2.trans e3).trans e4
    have d4 := d1.ex e
    obtain ⟨dx, hx⟩ := d4.at_
    refine ⟨.ref x, rfl, x, dx, _, rfl, hx, rfl, ?_⟩
    refine (e1v (n4 := none) e rfl).evS H4 (Ex.refl _) _ fun H5 e5 => ?_
    refine ⟨M, x, dk, pl, n, al, hist, rfl, d4.ex e5, .inl ⟨d, hn, fun v H6 e6 hs => ?_⟩⟩
    have e16 := (e.trans e5).trans e6
    refine hit (n4 := some v) "drop" e16 rfl rfl fun H7 e7 => ?_
    have d7 := d1.ex (e16.trans e7)
    obtain ⟨dx7, hx7⟩ := d7.at_
    refine ⟨.ref x, rfl, x, dx7, _, rfl, hx7, rfl, ?_⟩
    refine (e1v (n4 := some v) (e16.trans e7) rfl).evS H7 (Ex.refl _) _ fun H8 e8 => ?_
    exact ⟨M, x, dk, pl, n, .non, none, al, hist, rfl, d7.ex e8, by omega, by omega, rfl, fun H9 k9 hd => h H9 ((Ex.kp2 (((e1.trans e16).trans e7).trans e8)).trans k9) hd⟩
  | change c n rest d d' hn hm hd hc hh h =>
    have hcn : c ≠ "undo" ∧ c ≠ "names" ∧ c ≠ "store" ∧ c ≠ "drop" := by rcases hc with rfl | rfl <;> decide +kernel
    refine skip "undo" (Ex.refl _) rfl hcn.1 fun H2 e2 => skip "names" e2 rfl hcn.2.1 fun H3 e3 => skip "store" (e2.trans e3) rfl hcn.2.2.1 fun H4 e4 => ?_
    have e := (e2.trans e3).trans e4
    have d4 := d1.ex e
    obtain ⟨dx, hx⟩ := d4.at_
    refine ⟨.ref x, rfl, x, dx, _, rfl, hx, rfl, ?_⟩
    refine (e1v (n4 := none) e rfl).evS H4 (Ex.refl _) _ fun H5 e5 => ?_
    refine ⟨M, x, dk, pl, n, al, hist, rfl, d4.ex e5, .inl ⟨d, hn, fun v H6 e6 hs => ?_⟩⟩
    have e16 := (e.trans e5).trans e6
    refine skip (n4 := some v) "drop" e16 rfl hcn.2.2.2 fun H7 e7 => ?_
    refine r_if (et_t (K := K) (er_inST (e0 (n4 := some v) (e16.trans e7) rfl) (er_tup2S (er_s "put") (er_s "keep")))) (fun _ H8 e8 => ?_) fun hb => ?_
    · have e18 := (e16.trans e7).trans e8
      have d8 := d1.ex e18
      obtain ⟨dx8, hx8⟩ := d8.at_
      have hs8 := hs.mono (d1.ex e16).ok (Js.Ex.xm (e7.trans e8))
      have hr8 := hs8.r
      obtain ⟨p3, dx3, v3, l3, xs3, rfl, nMl, hso⟩ := hs8
      refine ⟨.ref x, rfl, x, dx8, _, rfl, hx8, rfl, .ref p, rfl, .ref p3, rfl, p3, dx3, _, rfl, hso.1, rfl, p3, d, rfl, hr8, hm, fun p4 dx4 v4 l4 xs4 H9 e9 np nl hs4 => ?_⟩
      exact ⟨M, H8, x, dk, pl, p4, dx4, l4, .ref p, v4, xs4, n, _, d, d', al, hist, rfl, d8, by omega, by omega, e9, np, nl, hs4, Rp.mono e18 h_values, by omega, hh, fun H10 k10 hd => h H10 ((Ex.kp2 (e1.trans e18)).trans k10) hd⟩
    · rcases hc with rfl | rfl <;> simp at hb
  | answer c n rest d z' hn ok ha h =>
    have hcn := ans_ne ha
    refine skip "undo" (Ex.refl _) rfl hcn.1 fun H2 e2 => skip "names" e2 rfl hcn.2.1 fun H3 e3 => skip "store" (e2.trans e3) rfl hcn.2.2.1 fun H4 e4 => ?_
    have e := (e2.trans e3).trans e4
    have d4 := d1.ex e
    obtain ⟨dx, hx⟩ := d4.at_
    refine ⟨.ref x, rfl, x, dx, _, rfl, hx, rfl, ?_⟩
    refine (e1v (n4 := none) e rfl).evS H4 (Ex.refl _) _ fun H5 e5 => ?_
    refine ⟨M, x, dk, pl, n, al, hist, rfl, d4.ex e5, .inl ⟨d, hn, fun v H6 e6 hs => ?_⟩⟩
    have e16 := (e.trans e5).trans e6
    refine skip (n4 := some v) "drop" e16 rfl hcn.2.2.2.1 fun H7 e7 => ?_
    refine r_if (et_t (K := K) (er_inST (e0 (n4 := some v) (e16.trans e7) rfl) (er_tup2S (er_s "put") (er_s "keep")))) (fun hb => ?_) fun _ H8 e8 => ?_
    · have := of_decide_eq_true hb
      simp only [List.mem_cons, List.not_mem_nil, or_false] at this
      rcases this with h1 | h1
      · exact absurd h1 hcn.2.2.2.2.1
      · exact absurd h1 hcn.2.2.2.2.2
    · have e18 := (e16.trans e7).trans e8
      have d8 := d1.ex e18
      obtain ⟨dx8, hx8⟩ := d8.at_
      have hr8 := (hs.mono (d1.ex e16).ok (Js.Ex.xm (e7.trans e8))).r
      exact ⟨.ref x, rfl, x, dx8, _, rfl, hx8, rfl, .ref p, rfl, v, rfl, .ref x, .ref p, v, _, d, n, z', rfl, Rp.mono e18 h_values, hr8, ok, ha, fun H9 e9 => h H9 ((e1.trans e18).trans e9)⟩
end
end Js
/-! ### the hand of numbers, the draws -/
namespace Js
open PySem PySem.Spec PyProof.Rows L2 Evl SX
open Rp (r)
abbrev handL (c : Addr) (i1 i2 i3 i4 : Int) : List V := [.ref c, .int i1, .int i2, .int i3, .int i4]
def HandR (K : PySem.W.Frag) (H : Hp) (h c : Addr) (cs : List Int) : Prop := SqL K H c (cs.map V.int) ∧ ∃ i1 i2 i3 i4 : Int, H h = some (.lst (handL c i1 i2 i3 i4)) ∧ 0 ≤ i1
theorem HandR.ex {K : PySem.W.Frag} {H H' : Hp} {h c : Addr} {cs : List Int} (e : Ex H H') (d : HandR K H h c cs) : HandR K H' h c cs := by
  obtain ⟨h1, i1, i2, i3, i4, h2, h3⟩ := d
  exact ⟨ex_l e h1, i1, i2, i3, i4, e _ _ h2, h3⟩
theorem sql_hand {K : PySem.W.Frag} {H : Hp} {h c : Addr} {cs : List Int} {i1 i2 i3 i4 : Int} {u : HO} (hc : SqL K H c (cs.map V.int)) (hh : H h = some (.lst (handL c i1 i2 i3 i4))) : SqL K (upd H h u) c (cs.map V.int) := by
  have ne : ∀ {q : Addr} {o : HO}, H q = some o → o ≠ .lst (handL c i1 i2 i3 i4) → upd H h u q = some o := fun h1 h2 => by
    rw [upd_ne fun z => by rw [z, hh] at h1; exact h2 (Option.some.inj h1).symm]
    exact h1
  rcases hc with (hc | ⟨o, hc⟩) | hc
  · refine .inl (.inl (ne hc fun z => ?_))
    injection z with z
    cases cs with
    | nil => cases z
    | cons a cs => injection z with z _; cases z
  · exact .inl (.inr ⟨o, ne hc fun z => by cases z⟩)
  · exact .inr hc
def spHand (K : PySem.W.Frag) : Sp := fun vs H Q _ => ∃ (a : Addr) (ns : List Int), vs = [.ref a] ∧ SqL K H a (ns.map V.int) ∧ ∀ h c cs H', Ex H H' → H h = none → HandR K H' h c cs → Q (.ref h) H'
def spDraw (K : PySem.W.Frag) : Sp := fun vs H Q _ => ∃ (h c : Addr) (cs : List Int) (m : Int), vs = [.ref h, .int m] ∧ 1 ≤ m ∧ m < 1000 ∧ HandR K H h c cs ∧ ∀ d H', 0 ≤ d → d < m → Kp h H H' → HandR K H' h c cs → Q (.int d) H'
theorem fmod_b {a m : Int} (h : 1 ≤ m) : 0 ≤ a.fmod m ∧ a.fmod m < m := ⟨Int.fmod_nonneg_of_pos a (by omega), Int.fmod_lt_of_pos a (by omega)⟩
theorem el_slTo {K : PySem.W.Frag} {α : Type} [Rp α] {as : List α} {n : Nat} {ta tb : TE} {σ : L2.St} {H : Hp} (ha : Er K ta σ H (Ls.mk as)) (hb : Er K tb σ H (n : Int)) : El K (tSl (rSlL K) ta tNoPart (tPart tb)) σ H (as.take n) := fun H1 e1 Q q => ha H1 e1 _ fun v H2 e2 hv => hb H2 (e1.trans e2) _ fun u H3 e3 hu => by
  obtain rfl : u = .int (n : Int) := hu
  obtain ⟨p, xs, rfl, h1, h2⟩ := Rp.mono e3 hv
  refine ⟨_, rfl, p, xs, rfl, h1, fun p2 hp => q p2 _ _ ((e2.trans e3).trans (Ex.new hp)) (fresh_back e2 (fresh_back e3 hp)) upd_same ?_⟩
  have e : cutV xs none (some (n : Int)) = xs.take n := by
    unfold cutV
    rw [HT.sIx_none, HT.sIx_nat, List.drop_zero, Nat.sub_zero]
    by_cases hn : n ≤ xs.length
    · rw [Nat.min_eq_left hn]
    · rw [Nat.min_eq_right (by omega), List.take_length, List.take_of_length_le (by omega)]
  rw [e]
  exact pd_map (pd_take h2 _) fun _ _ h => Rp.mono (Ex.new hp) h
section
variable {P : Program} {w : World} {K : PySem.W.Frag} {mg : PySem.Str → Option Value} {base : Heap}
theorem ok_law_hand (T : Tx w K mg) : FnAt P w K mg base 1 (He.fAd K ("_law_hand", none)) (spHand K) := by
  have S : FnScope ["_law_script", "_law_cells", "_law_cell"] ["_law_script"] (defScope s_law_hand) := ⟨rfl, rfl, rfl, by decide +kernel, rfl, by decide +kernel, by decide +kernel⟩
  refine mk0 0 T.f_law_hand S (fun _ _ _ _ _ _ us hl => match us, hl with | [_], _ => rfl) (fun vs H Q E h => by obtain ⟨_, _, rfl, _⟩ := h; rfl) fun cdv A outer s H vs Q E hr h => ?_
  obtain ⟨a, ns, rfl, hs, q⟩ := h
  refine ⟨_, pss_cons (ps_setLc (i := 1) (own := [("_law_cell", 2)]) (g := gName 2) (tt := tYes) rfl S.nd rfl rfl (sw_true rfl rfl rfl (by decide +kernel)) (pi_list (pe_slice sl_list (pv 0) po_none (po_some pe_int))) (blkOk_by (N := ["_law_script", "_law_cells", "_law_cell"]) (sc := defScope s_law_hand) (own := [("_law_cell", 2)]) (by decide +kernel)) (fun _ _ _ _ _ => pg_name (i := 2) S.nd rfl (Or.inl rfl)) (fun _ _ _ _ _ => pts_nil) (fun _ _ _ _ _ => pe_callB call_abs rfl T.z_abs (by decide +kernel) (pa_cons (pe_callTy call_int1 rfl T.z_int (by decide +kernel) (pa_cons (pv 2) pa_nil)) pa_nil)))
      (pss_one (ps_ret (pe_lst (pa_cons (pv 1) (pa_cons pe_int (pa_cons pe_int (pa_cons (pe_op op_add pe_int (pe_callB (lenK (K := K) rfl) rfl T.z_len (by decide +kernel) (pa_cons (pv 1) pa_nil))) (pa_cons pe_int pa_nil)))))))), ?_⟩
  have h_script : r K H (.ref a) (Ls.mk ns) := ⟨a, _, rfl, hs, pd_of (F := r K H) (f := V.int) (fun b => (rfl : V.int b = V.int b)) ns⟩
  refine r_setL (K := K) (as := (ns.take 63).map fun x => if x < 0 then -x else x) (el_lcY (f := fun x : Int => if x < 0 then -x else x) (wr_list (El.er' (el_slTo (n := 63) (er_var rfl h_script) (er_i 63)))) ?_ fun b v H1 hb e1 hv Q q => gb_name (q _ H1 (Ex.refl _) rfl (er_abs (er_int (er_var rfl hv))))) fun c xs H1 e1 nc h1 h2 => ?_
  · rw [List.length_take]
    omega
  have ei := ints_of h2
  refine s_retL (el_lst (vs := handL c 0 0 (1 + (((ns.take 63).map fun x => if x < 0 then -x else x).length : Int)) 0) (ea_cons (ev_var rfl) (ea_cons ev_c (ea_cons ev_c (ea_cons (Er.evI (er_II (K := K) (g := fun i j => i + j) (er_i 1) (er_lenL (er_var (K := K) (i := 1) rfl ⟨c, xs, rfl, sq_of h1, h2⟩)))) (ea_cons ev_c ea_nil))))) (by show 5 ≤ 100000; decide)) fun h H2 nh e2 hh => ?_
  refine q h c ((ns.take 63).map fun x => if x < 0 then -x else x) H2 (e1.trans e2) (fresh_back e1 nh) ⟨?_, _, _, _, _, hh, Int.le_refl _⟩
  rw [← ei]
  exact sq_of (e2 _ _ h1)
theorem er_hd {te : TE} {σ : L2.St} {H : Hp} {h : Addr} {l : List V} {v : V} (i : Nat) (ha : Ev te σ H (.ref h)) (hh : H h = some (.lst l)) (hv : l[i]? = some v) : Ev (tOp (rIxL K) te (tC (.int (i : Int)))) σ H v := ev_op ha ev_c (rv_ixL (sq_of hh) (atI_nat hv))
theorem er_ofI {te : TE} {σ : L2.St} {H : Hp} {i : Int} (h : Ev te σ H (.int i)) : Er K te σ H i := er_ev h rfl
theorem ok_law_draw (T : Tx w K mg) : FnAt P w K mg base 1 (He.fAd K ("_law_draw", none)) (spDraw K) := by
  have S : FnScope ["_law_hand_here", "_law_many", "_law_cell", "_law_digit", "_law_number"] ["_law_hand_here", "_law_many"] (defScope s_law_draw) := ⟨rfl, rfl, rfl, by decide +kernel, rfl, by decide +kernel, by decide +kernel⟩
  refine mk0 0 T.f_law_draw S (fun _ _ _ _ _ _ us hl => match us, hl with | [_, _], _ => rfl) (fun vs H Q E h => by obtain ⟨_, _, _, _, rfl, _⟩ := h; rfl) fun cdv A outer s H vs Q E hr h => ?_
  obtain ⟨h, c, cs, m, rfl, hm1, hm2, hand, q⟩ := h
  refine ⟨_, C8.pss_cut (ps_if (PW.pt (pw_and (pt_cmpR op_eq (pe_ix (ixL (K := K) rfl) (pv 0) pe_int (fun _ _ => rfl)) pe_int (nomark _)) (pw_and1 (pt_cmpR op_lt (pe_ix (ixL (K := K) rfl) (pv 0) pe_int (fun _ _ => rfl)) (pe_callB (lenK (K := K) rfl) rfl T.z_len (by decide +kernel) (pa_cons (pe_ix (ixL (K := K) rfl) (pv 0) pe_int (fun _ _ => rfl)) pa_nil)) (nomark _)))))
        (pss_cons (ps_set (i := 2) S.nd rfl (Or.inl rfl) (pe_ix (ixL (K := K) rfl) (pe_ix (ixL (K := K) rfl) (pv 0) pe_int (fun _ _ => rfl)) (pe_ix (ixL (K := K) rfl) (pv 0) pe_int (fun _ _ => rfl)) (fun _ _ => rfl)))
        (pss_cons (ps_asg (pe_op op_add (pe_ix (ixL (K := K) rfl) (pv 0) pe_int (fun _ _ => rfl)) pe_int) (pg_sub (pv 0) pe_int set_list))
        (pss_cons (ps_asg (pe_op op_modN (pe_callTy call_int1 rfl T.z_int (by decide +kernel) (pa_cons (pe_op op_add (pe_op op_add (pe_op op_mul (pe_ix (ixL (K := K) rfl) (pv 0) pe_int (fun _ _ => rfl)) pe_int) (pv 2)) pe_int) pa_nil)) pe_int) (pg_sub (pv 0) pe_int set_list))
        (pss_one (ps_if (pt_cmpR op_ge (pv 2) (pe_op op_pow pe_int pe_int) (nomark _))
          (pss_one (ps_asg (pv 2) (pg_sub (pv 0) pe_int set_list)))
          (pss_nil))))))
        (pss_nil))
      (pss_cons (ps_if (pt_cmpR op_gt (pe_ix (ixL (K := K) rfl) (pv 0) pe_int (fun _ _ => rfl)) pe_int (nomark _))
        (pss_cons (ps_set (i := 3) S.nd rfl (Or.inl rfl) (pe_op op_modN (pe_callTy call_int1 rfl T.z_int (by decide +kernel) (pa_cons (pe_ix (ixL (K := K) rfl) (pv 0) pe_int (fun _ _ => rfl)) pa_nil)) (pv 1)))
        (pss_cons (ps_asg (pe_op op_fdivN (pe_ix (ixL (K := K) rfl) (pv 0) pe_int (fun _ _ => rfl)) (pv 1)) (pg_sub (pv 0) pe_int set_list))
        (pss_one (ps_ret (pv 3)))))
        (pss_nil))
      (pss_cons (ps_asg (pe_op op_add (pe_ix (ixL (K := K) rfl) (pv 0) pe_int (fun _ _ => rfl)) pe_int) (pg_sub (pv 0) pe_int set_list))
      (pss_cons (ps_set (i := 4) S.nd rfl (Or.inl rfl) (pe_op op_modN (pe_callTy call_int1 rfl T.z_int (by decide +kernel) (pa_cons (pe_op op_mul (pe_callTy call_int1 rfl T.z_int (by decide +kernel) (pa_cons (pe_op op_add (pe_ix (ixL (K := K) rfl) (pv 0) pe_int (fun _ _ => rfl)) (pe_op op_mul pe_int (pe_ix (ixL (K := K) rfl) (pv 0) pe_int (fun _ _ => rfl)))) pa_nil)) pe_int) pa_nil)) pe_int))
      (pss_cons (ps_set (i := 4) S.nd rfl (Or.inl rfl) (pe_op op_modN (pe_callTy call_int1 rfl T.z_int (by decide +kernel) (pa_cons (pe_op op_mul (pv 4) (pe_op op_add (pe_op op_fdivN (pv 4) pe_int) pe_int)) pa_nil)) pe_int))
      (pss_cons (ps_set (i := 4) S.nd rfl (Or.inl rfl) (pe_op op_modN (pe_callTy call_int1 rfl T.z_int (by decide +kernel) (pa_cons (pe_op op_mul (pv 4) (pe_op op_add (pe_op op_fdivN (pv 4) pe_int) pe_int)) pa_nil)) pe_int))
      (pss_one (ps_ret (pe_op op_modN (pe_callTy call_int1 rfl T.z_int (by decide +kernel) (pa_cons (pe_op op_fdivN (pv 4) pe_int) pa_nil)) (pv 1))))))))), ?_⟩
  obtain ⟨hc, i1, i2, i3, i4, hh, hi1⟩ := hand
  have vh : ∀ {H1 : Hp} {n2 n3 n4 : Option V}, Ev (tVar 0) [some (.ref h), some (.int m), n2, n3, n4] H1 (.ref h) := ev_var rfl
  refine ⟨fun σ' H' => Kp h H H' ∧ SqL K H' c (cs.map V.int) ∧ (∃ i1 i2 i3 i4 : Int, H' h = some (.lst (handL c i1 i2 i3 i4)) ∧ 0 ≤ i1) ∧ ∃ n2, σ' = [some (.ref h), some (.int m), n2, none, none], ?_, ?_⟩
  · refine r_if (et_and (et_t (K := K) (er_eqI (er_ofI (er_hd 2 vh hh rfl)) (er_i 0))) fun _ => et_t (K := K) (er_IB (g := fun i j => decide (i < j)) (er_ofI (er_hd 1 vh hh rfl)) (er_ofI (ev_len (er_hd 0 vh hh rfl) hc)))) (fun hb H1 e1 => ?_) fun hb H1 e1 => ⟨Ex.kp e1, ex_l e1 hc, ⟨i1, i2, i3, i4, e1 _ _ hh, hi1⟩, none, rfl⟩
    have hlt : i1 < (cs.map V.int).length := by
      rw [Bool.and_eq_true] at hb
      exact of_decide_eq_true hb.2
    rw [List.length_map] at hlt
    have hh1 := e1 _ _ hh
    have hc1 := ex_l e1 hc
    have hat : (cs.map V.int)[i1.toNat]? = some (.int (cs[i1.toNat]'(by omega))) := by rw [List.getElem?_map, List.getElem?_eq_getElem (by omega)]; rfl
    generalize cs[i1.toNat]'(by omega) = cell at hat
    refine r_set (K := K) (er_ofI (i := cell) (ev_op (er_hd 0 vh hh1 rfl) (er_hd 1 vh hh1 rfl) (rv_ixL hc1 (at_of' (j := i1.toNat) (by omega) hat)))) fun v H2 e2 hv => ?_
    obtain rfl : v = .int cell := hv
    have hh2 := e2 _ _ hh1
    refine s_setL (j := 1) hh2 (Er.evI (er_II (K := K) (g := fun i j => i + j) (er_ofI (er_hd 1 vh hh2 rfl)) (er_i 1))) vh ev_c (by show 1 < 5; decide) fun H3 e3 => ?_
    have hh3 : upd H3 h (.lst (handL c (i1 + 1) i2 i3 i4)) h = some (.lst (handL c (i1 + 1) i2 i3 i4)) := upd_same
    have hc3 : SqL K (upd H3 h (.lst (handL c (i1 + 1) i2 i3 i4))) c (cs.map V.int) := sql_hand (ex_l (e2.trans e3) hc1) (e3 _ _ hh2)
    refine s_setL (j := 3) hh3 (Er.evI (er_IIc (K := K) (C := fun _ j => j ≠ 0) (g := fun i j => i.fmod j) (er_int (er_II (g := fun i j => i + j) (er_II (g := fun i j => i + j) (er_IIc (C := CMul) (g := fun i j => i * j) (er_ofI (er_hd 3 vh hh3 rfl)) (er_i 69621) (.inr ⟨by decide, by decide⟩)) (er_ofI (ev_var rfl))) (er_i 11))) (er_i 2147483629) (by decide))) vh ev_c (by show 3 < 5; decide) fun H4 e4 => ?_
    generalize ((i3 * 69621 + cell + 11).fmod 2147483629) = i3'
    have hh4 : upd H4 h (.lst (handL c (i1 + 1) i2 i3' i4)) h = some (.lst (handL c (i1 + 1) i2 i3' i4)) := upd_same
    have hc4 : SqL K (upd H4 h (.lst (handL c (i1 + 1) i2 i3' i4))) c (cs.map V.int) := sql_hand (ex_l e4 hc3) (e4 _ _ hh3)
    have kp4 : Kp h H (upd H4 h (.lst (handL c (i1 + 1) i2 i3' i4))) := (((Ex.kp ((e1.trans e2).trans e3)).trans Kp.upd).trans (Ex.kp e4)).trans Kp.upd
    refine r_if (et_t (K := K) (er_IB (K := K) (g := fun i j => decide (j ≤ i)) (er_ofI (ev_var rfl)) (er_IIc (C := CPow) (g := fun i j => i ^ j.toNat) (er_i 10) (er_i 18) ⟨by decide, by decide, by decide⟩))) (fun _ H5 e5 => ?_) fun _ H5 e5 => ⟨kp4.trans (Ex.kp e5), ex_l e5 hc4, ⟨_, _, _, _, e5 _ _ hh4, by omega⟩, _, rfl⟩
    have hh5 := e5 _ _ hh4
    refine s_setL (j := 2) hh5 (ev_var rfl) vh ev_c (by show 2 < 5; decide) fun H6 e6 => ?_
    exact ⟨(kp4.trans (Ex.kp (e5.trans e6))).trans Kp.upd, sql_hand (ex_l (e5.trans e6) hc4) (e6 _ _ hh5), ⟨_, _, _, _, upd_same, by omega⟩, _, rfl⟩
  · rintro σ' H1 ⟨kp1, hc1, ⟨j1, j2, j3, j4, hh1, hj1⟩, n2, rfl⟩
    refine r_if (et_t (K := K) (er_IB (K := K) (g := fun i j => decide (j < i)) (er_ofI (er_hd 2 vh hh1 rfl)) (er_i 0))) (fun hb H2 e2 => ?_) fun hb H2 e2 => ?_
    · have hh2 := e2 _ _ hh1
      refine r_set (K := K) (er_IIc (C := fun _ j => j ≠ 0) (g := fun i j => i.fmod j) (er_int (er_ofI (er_hd 2 vh hh2 rfl))) (er_var (a := m) rfl rfl) (by omega)) fun v H3 e3 hv => ?_
      obtain rfl : v = .int (j2.fmod m) := hv
      have hh3 := e3 _ _ hh2
      refine s_setL (j := 2) hh3 (Er.evI (er_IIc (K := K) (C := CDivN) (g := fun i j => i.fdiv j) (er_ofI (er_hd 2 (ev_var rfl) hh3 rfl)) (er_var (a := m) rfl rfl) ⟨by omega, by omega⟩)) (ev_var rfl) ev_c (by show 2 < 5; decide) fun H4 e4 => ?_
      have := fmod_b (a := j2) hm1
      exact ⟨_, rfl, q _ _ this.1 this.2 ((kp1.trans (Ex.kp ((e2.trans e3).trans e4))).trans Kp.upd) ⟨sql_hand (ex_l ((e2.trans e3).trans e4) hc1) (e4 _ _ hh3), _, _, _, _, upd_same, hj1⟩⟩
    · have hh2 := e2 _ _ hh1
      refine s_setL (j := 4) hh2 (Er.evI (er_II (K := K) (g := fun i j => i + j) (er_ofI (er_hd 4 vh hh2 rfl)) (er_i 1))) vh ev_c (by show 4 < 5; decide) fun H3 e3 => ?_
      have hh3 : upd H3 h (.lst (handL c j1 j2 j3 (j4 + 1))) h = some (.lst (handL c j1 j2 j3 (j4 + 1))) := upd_same
      have hc3 : SqL K (upd H3 h (.lst (handL c j1 j2 j3 (j4 + 1)))) c (cs.map V.int) := sql_hand (ex_l (e2.trans e3) hc1) (e3 _ _ hh2)
      have kp3 : Kp h H (upd H3 h (.lst (handL c j1 j2 j3 (j4 + 1)))) := (kp1.trans (Ex.kp (e2.trans e3))).trans Kp.upd
      refine r_set (K := K) (er_IIc (C := fun _ j => j ≠ 0) (g := fun i j => i.fmod j) (er_int (er_IIc (C := CMul) (g := fun i j => i * j) (er_int (er_II (g := fun i j => i + j) (er_ofI (er_hd 3 vh hh3 rfl)) (er_IIc (C := CMul) (g := fun i j => i * j) (er_i 7919) (er_ofI (er_hd 4 vh hh3 rfl)) (.inl ⟨by decide, by decide⟩)))) (er_i 48271) (.inr ⟨by decide, by decide⟩))) (er_i 2147483647) (by decide)) fun v H4 e4 hv => ?_
      have b1 := fmod_b (a := (j3 + 7919 * (j4 + 1)) * 48271) (m := 2147483647) (by decide)
      generalize ((j3 + 7919 * (j4 + 1)) * 48271).fmod 2147483647 = n1 at hv b1
      obtain rfl : v = .int n1 := hv
      refine r_set (K := K) (er_IIc (C := fun _ j => j ≠ 0) (g := fun i j => i.fmod j) (er_int (er_IIc (C := CMul) (g := fun i j => i * j) (er_var (a := n1) rfl rfl) (er_II (g := fun i j => i + j) (er_IIc (C := CDivN) (g := fun i j => i.fdiv j) (er_var (a := n1) rfl rfl) (er_i 1009) ⟨by decide, by decide⟩) (er_i 69621)) (.inl ⟨by omega, by omega⟩))) (er_i 2147483647) (by decide)) fun v H5 e5 hv => ?_
      have b2 := fmod_b (a := n1 * (n1.fdiv 1009 + 69621)) (m := 2147483647) (by decide)
      generalize (n1 * (n1.fdiv 1009 + 69621)).fmod 2147483647 = n2' at hv b2
      obtain rfl : v = .int n2' := hv
      refine r_set (K := K) (er_IIc (C := fun _ j => j ≠ 0) (g := fun i j => i.fmod j) (er_int (er_IIc (C := CMul) (g := fun i j => i * j) (er_var (a := n2') rfl rfl) (er_II (g := fun i j => i + j) (er_IIc (C := CDivN) (g := fun i j => i.fdiv j) (er_var (a := n2') rfl rfl) (er_i 2003) ⟨by decide, by decide⟩) (er_i 40692)) (.inl ⟨by omega, by omega⟩))) (er_i 2147483399) (by decide)) fun v H6 e6 hv => ?_
      generalize (n2' * (n2'.fdiv 2003 + 40692)).fmod 2147483399 = n3' at hv
      obtain rfl : v = .int n3' := hv
      refine r_ret (K := K) (er_IIc (C := fun _ j => j ≠ 0) (g := fun i j => i.fmod j) (er_int (er_IIc (C := CDivN) (g := fun i j => i.fdiv j) (er_var (a := n3') rfl rfl) (er_i 16) ⟨by decide, by decide⟩)) (er_var (a := m) rfl rfl) (by omega)) fun v H7 e7 hv => ?_
      obtain rfl : v = .int ((n3'.fdiv 16).fmod m) := hv
      have b3 := fmod_b (a := n3'.fdiv 16) hm1
      have e37 := ((e4.trans e5).trans e6).trans e7
      exact q _ H7 b3.1 b3.2 (kp3.trans (Ex.kp e37)) ⟨ex_l e37 hc3, _, _, _, _, e37 _ _ hh3, hj1⟩
end
end Js
/-! ### the law's own stores -/
namespace Js
open PySem PySem.Spec PyProof.Rows L2 Evl SX
open Rp (r)
/-- (most, batches, kept, way, begins, wrote) -/
structure LSt where
  m : Int
  b : List (List PR)
  k : List Int
  w : List Int
  g : List Int
  n : Int
instance : Rp LSt := ⟨fun K H v s => ∃ p v1 v2 v3 v4, v = .ref p ∧ SqT K H p [.int s.m, v1, v2, v3, v4, .int s.n] ∧ r K H v1 s.b ∧ r K H v2 s.k ∧ r K H v3 s.w ∧ r K H v4 s.g,
  fun e ⟨p, v1, v2, v3, v4, h, h0, h1, h2, h3, h4⟩ => ⟨p, v1, v2, v3, v4, h, ex_t e h0, Rp.mono e h1, Rp.mono e h2, Rp.mono e h3, Rp.mono e h4⟩⟩
instance : RpT LSt := ⟨fun e ⟨p, v1, v2, v3, v4, h, h0, h1, h2, h3, h4⟩ => ⟨p, v1, v2, v3, v4, h, e _ _ _ h0, RpT.t e h1, RpT.t e h2, RpT.t e h3, RpT.t e h4⟩⟩
/-- an item as it stands, or a tuple of ints -/
inductive Itm where
  | raw (v : V)
  | tupI (l : List Int)
instance : Rp Itm := ⟨fun K H v a => match a with
  | .raw u => v = u
  | .tupI l => r K H v l, fun {K H H' v a} e h => by
  cases a with
  | raw u => exact h
  | tupI l => exact Rp.mono (a := l) e h⟩
def emptyL (m : Int) : LSt := ⟨m, [], [], [], [], 0⟩
def keptL (s : LSt) : LSt := ⟨s.m, s.b, s.k ++ [(s.b.length : Int) - 1], s.w, s.g, s.n⟩
def canKeep (s : LSt) : Bool := decide ((0 : Int) < s.b.length) && !decide ((s.b.length : Int) - 1 ∈ s.k)
def runsL (g : List Int) (h : Int) : List (Int × Int) := (g.zip (g.drop 1 ++ [h + 1])).map fun x => (x.1, x.2 - 1)
def shelfL (s : LSt) : List (Int × Int) := if s.b = [] then [] else runsL s.g ((s.b.length : Int) - 1)
section
variable {P : Program} {w : World} {K : PySem.W.Frag} {mg : PySem.Str → Option Value} {base : Heap}
section
variable {s : LSt} {ta t1 t2 t3 t4 t5 t6 : TE} {σ : L2.St} {H : Hp}
theorem er_lM (ha : Er K ta σ H s) : Er K (tOp (rIxT K) ta (tC (.int 0))) σ H s.m := fun H1 e1 Q q => ha H1 e1 _ fun v H2 e2 ⟨p, v1, v2, v3, v4, ev, h0, h1, h2, h3, h4⟩ => by
  subst ev
  exact ⟨p, _, 0, _, rfl, rfl, h0, rfl, q _ H2 e2 rfl⟩
theorem er_lB (ha : Er K ta σ H s) : Er K (tOp (rIxT K) ta (tC (.int 1))) σ H s.b := fun H1 e1 Q q => ha H1 e1 _ fun v H2 e2 ⟨p, v1, v2, v3, v4, ev, h0, h1, h2, h3, h4⟩ => by
  subst ev
  exact ⟨p, _, 1, _, rfl, rfl, h0, rfl, q _ H2 e2 h1⟩
theorem er_lK (ha : Er K ta σ H s) : Er K (tOp (rIxT K) ta (tC (.int 2))) σ H s.k := fun H1 e1 Q q => ha H1 e1 _ fun v H2 e2 ⟨p, v1, v2, v3, v4, ev, h0, h1, h2, h3, h4⟩ => by
  subst ev
  exact ⟨p, _, 2, _, rfl, rfl, h0, rfl, q _ H2 e2 h2⟩
theorem er_lW (ha : Er K ta σ H s) : Er K (tOp (rIxT K) ta (tC (.int 3))) σ H s.w := fun H1 e1 Q q => ha H1 e1 _ fun v H2 e2 ⟨p, v1, v2, v3, v4, ev, h0, h1, h2, h3, h4⟩ => by
  subst ev
  exact ⟨p, _, 3, _, rfl, rfl, h0, rfl, q _ H2 e2 h3⟩
theorem er_lG (ha : Er K ta σ H s) : Er K (tOp (rIxT K) ta (tC (.int 4))) σ H s.g := fun H1 e1 Q q => ha H1 e1 _ fun v H2 e2 ⟨p, v1, v2, v3, v4, ev, h0, h1, h2, h3, h4⟩ => by
  subst ev
  exact ⟨p, _, 4, _, rfl, rfl, h0, rfl, q _ H2 e2 h4⟩
theorem er_lN (ha : Er K ta σ H s) : Er K (tOp (rIxT K) ta (tC (.int 5))) σ H s.n := fun H1 e1 Q q => ha H1 e1 _ fun v H2 e2 ⟨p, v1, v2, v3, v4, ev, h0, h1, h2, h3, h4⟩ => by
  subst ev
  exact ⟨p, _, 5, _, rfl, rfl, h0, rfl, q _ H2 e2 rfl⟩
theorem er_l6 {m n : Int} {b : List (List PR)} {k wy g : List Int} (h1 : Er K t1 σ H m) (h2 : Er K t2 σ H b) (h3 : Er K t3 σ H k) (h4 : Er K t4 σ H wy) (h5 : Er K t5 σ H g) (h6 : Er K t6 σ H n) : Er K (tTup (tCons t1 (tCons t2 (tCons t3 (tCons t4 (tCons t5 (tCons t6 tNil))))))) σ H (LSt.mk m b k wy g n) := fun H1 e1 Q q =>
  h1 H1 e1 _ fun v1 H2 e2 g1 => h2 H2 (e1.trans e2) _ fun v2 H3 e3 g2 => h3 H3 ((e1.trans e2).trans e3) _ fun v3 H4 e4 g3 => h4 H4 (((e1.trans e2).trans e3).trans e4) _ fun v4 H5 e5 g4 => h5 H5 ((((e1.trans e2).trans e3).trans e4).trans e5) _ fun v5 H6 e6 g5 => h6 H6 (((((e1.trans e2).trans e3).trans e4).trans e5).trans e6) _ fun v6 H7 e7 g6 => by
    obtain rfl : v1 = .int m := g1
    obtain rfl : v6 = .int n := g6
    refine ⟨by show 6 ≤ sizeLine; decide, fun p hp => ?_⟩
    have e8 : Ex H7 (upd H7 p (.tup [.int m, v2, v3, v4, v5, .int n])) := Ex.new hp
    exact q _ _ ((((((e2.trans e3).trans e4).trans e5).trans e6).trans e7).trans e8) ⟨p, v2, v3, v4, v5, rfl, st_of upd_same, Rp.mono ((((e4.trans e5).trans e6).trans e7).trans e8) g2, Rp.mono (((e5.trans e6).trans e7).trans e8) g3, Rp.mono ((e6.trans e7).trans e8) g4, Rp.mono (e7.trans e8) g5⟩
theorem r_asg6 {D : Ends} {i1 i2 i3 i4 i5 i6 : Nat} (h : Er K ta σ H s) (k : ∀ v1 v2 v3 v4 H1, Ex H H1 → r K H1 v1 s.b → r K H1 v2 s.k → r K H1 v3 s.w → r K H1 v4 s.g → D.nx ((((((σ.set i1 (some (.int s.m))).set i2 (some v1)).set i3 (some v2)).set i4 (some v3)).set i5 (some v4)).set i6 (some (.int s.n))) H1) :
    tAsg ta (gTup K 6 (gCons (gName i1) (gCons (gName i2) (gCons (gName i3) (gCons (gName i4) (gCons (gName i5) (gCons (gName i6) gNil))))))) D σ H := h H (Ex.refl H) _ fun v H1 e1 ⟨p, v1, v2, v3, v4, ev, h0, h1, h2, h3, h4⟩ => by
  subst ev
  exact ⟨p, _, rfl, h0, rfl, _, _, rfl, v1, _, rfl, v2, _, rfl, v3, _, rfl, v4, _, rfl, _, _, rfl, rfl, k v1 v2 v3 v4 H1 e1 h1 h2 h3 h4⟩
end
theorem ok_law_empty (T : Tx w K mg) : FnAt P w K mg base 1 (He.fAd K ("_law_empty", none)) (Pu1 K (fun (_ : Int) => True) emptyL) := by
  have S : FnScope ["_law_most"] ["_law_most"] (defScope s_law_empty) := ⟨rfl, rfl, rfl, by decide +kernel, rfl, by decide +kernel, by decide +kernel⟩
  refine mk0 0 T.f_law_empty S (fun _ _ _ _ _ _ us hl => match us, hl with | [_], _ => rfl) (fun vs H Q E h => len1 h) fun cdv A outer s H vs Q E hr h => ?_
  obtain ⟨x, m, rfl, h_most, -, q⟩ := h
  refine ⟨_, pss_one (ps_ret (pe_tup (pa_cons (pv 0) (pa_cons (pe_tup pa_nil) (pa_cons (pe_tup pa_nil) (pa_cons (pe_tup pa_nil) (pa_cons (pe_tup pa_nil) (pa_cons pe_int pa_nil)))))))), ?_⟩
  exact r_ret (K := K) (er_l6 (er_var rfl h_most) er_tup0 er_tup0 er_tup0 er_tup0 (er_i 0)) q
theorem ok_law_can_keep (T : Tx w K mg) : FnAt P w K mg base 1 (He.fAd K ("_law_can_keep", none)) (Pu1 K (fun (_ : LSt) => True) canKeep) := by
  have S : FnScope ["_law_state"] ["_law_state"] (defScope s_law_can_keep) := ⟨rfl, rfl, rfl, by decide +kernel, rfl, by decide +kernel, by decide +kernel⟩
  refine mk0 0 T.f_law_can_keep S (fun _ _ _ _ _ _ us hl => match us, hl with | [_], _ => rfl) (fun vs H Q E h => len1 h) fun cdv A outer s H vs Q E hr h => ?_
  obtain ⟨x, s, rfl, h_state, -, q⟩ := h
  refine ⟨_, pss_one (ps_ret (pe_and (pe_cmpR op_gt (pe_callB (lenK (K := K) rfl) rfl T.z_len (by decide +kernel) (pa_cons (pe_ix (ixT (K := K) rfl) (pv 0) pe_int (fun _ _ => rfl)) pa_nil)) pe_int (nomark _)) (pe_one (pe_cmpR (ninK (K := K) rfl) (pe_op op_sub (pe_callB (lenK (K := K) rfl) rfl T.z_len (by decide +kernel) (pa_cons (pe_ix (ixT (K := K) rfl) (pv 0) pe_int (fun _ _ => rfl)) pa_nil)) pe_int) (pe_ix (ixT (K := K) rfl) (pv 0) pe_int (fun _ _ => rfl)) rfl)))), ?_⟩
  exact r_ret (K := K) (er_andV (er_IB (g := fun i j => decide (j < i)) (er_lenT (er_lB (er_var rfl h_state))) (er_i 0)) fun _ => er_ninIT (er_II (g := fun i j => i - j) (er_lenT (er_lB (er_var rfl h_state))) (er_i 1)) (er_lK (er_var rfl h_state))) q
theorem ok_law_with_kept (T : Tx w K mg) : FnAt P w K mg base 1 (He.fAd K ("_law_with_kept", none)) (Pu1 K (fun (s : LSt) => s.k.length ≤ 1000) keptL) := by
  have S : FnScope ["_law_state"] ["_law_state"] (defScope s_law_with_kept) := ⟨rfl, rfl, rfl, by decide +kernel, rfl, by decide +kernel, by decide +kernel⟩
  refine mk0 0 T.f_law_with_kept S (fun _ _ _ _ _ _ us hl => match us, hl with | [_], _ => rfl) (fun vs H Q E h => len1 h) fun cdv A outer s H vs Q E hr h => ?_
  obtain ⟨x, s, rfl, h_state, hl, q⟩ := h
  refine ⟨_, pss_one (ps_ret (pe_op (catT (K := K) rfl) (pe_op (catT (K := K) rfl) (pe_slice (slT (K := K) rfl) (pv 0) po_none (po_some pe_int)) (pe_tup (pa_cons (pe_op (catT (K := K) rfl) (pe_ix (ixT (K := K) rfl) (pv 0) pe_int (fun _ _ => rfl)) (pe_tup (pa_cons (pe_op op_sub (pe_callB (lenK (K := K) rfl) rfl T.z_len (by decide +kernel) (pa_cons (pe_ix (ixT (K := K) rfl) (pv 0) pe_int (fun _ _ => rfl)) pa_nil)) pe_int) pa_nil))) pa_nil))) (pe_slice (slT (K := K) rfl) (pv 0) (po_some pe_int) po_none))), ?_⟩
  have h_state' := h_state
  obtain ⟨p, v1, v2, v3, v4, rfl, h0, h1, h2, h3, h4⟩ := h_state'
  have hraw : r K H (.ref p) ([.raw (.int s.m), .raw v1, .raw v2, .raw v3, .raw v4, .raw (.int s.n)] : List Itm) := ⟨p, _, rfl, h0, .cons rfl (.cons rfl (.cons rfl (.cons rfl (.cons rfl (.cons rfl .nil)))))⟩
  refine r_ret (K := K) (er_catT (er_catT (er_slT (n := 2) (er_var rfl hraw) (er_n (K := K) 2)) (er_tup1 (a := Itm.tupI (s.k ++ [(s.b.length : Int) - 1])) (er_catT (er_lK (er_var rfl h_state)) (er_tup1 (er_II (g := fun i j => i - j) (er_lenT (er_lB (er_var rfl h_state))) (er_i 1))) (sz_of (by simp; omega)))) (sz_of (by show (_ : Nat) ≤ _; exact Nat.le_of_ble_eq_true rfl))) (er_slD (n := 3) (er_var rfl hraw) (er_n (K := K) 3)) (sz_of (by show (_ : Nat) ≤ _; exact Nat.le_of_ble_eq_true rfl))) fun v H1 e1 hv => q v H1 e1 ?_
  obtain ⟨p2, xs, rfl, g0, g1⟩ := hv
  cases g1 with | cons y1 g1 => cases g1 with | cons y2 g1 => cases g1 with | cons y3 g1 => cases g1 with | cons y4 g1 => cases g1 with | cons y5 g1 => cases g1 with | cons y6 g1 =>
  cases g1
  cases y1
  cases y2
  cases y4
  cases y5
  cases y6
  exact ⟨p2, _, _, _, _, rfl, g0, Rp.mono e1 h1, y3, Rp.mono e1 h3, Rp.mono e1 h4⟩
theorem ok_law_runs (T : Tx w K mg) : FnAt P w K mg base 1 (He.fAd K ("_law_runs", none)) (Pu2 K (fun (g : List Int) (_ : Int) => g.length < 1000) runsL) := by
  have S : FnScope ["_law_begins", "_law_hour", "_law_ends", "_law_begin", "_law_end"] ["_law_begins", "_law_hour"] (defScope s_law_runs) := ⟨rfl, rfl, rfl, by decide +kernel, rfl, by decide +kernel, by decide +kernel⟩
  refine mk0 0 T.f_law_runs S (fun _ _ _ _ _ _ us hl => match us, hl with | [_, _], _ => rfl) (fun vs H Q E h => len2 h) fun cdv A outer s H vs Q E hr h => ?_
  obtain ⟨x, y, g, hh, rfl, h_begins, h_hour, hl, q⟩ := h
  refine ⟨_, pss_cons (ps_set (i := 2) S.nd rfl (Or.inl rfl) (pe_op op_cat (pe_callTy (listK (K := K) rfl) rfl T.z_list (by decide +kernel) (pa_cons (pe_slice (slT (K := K) rfl) (pv 0) (po_some pe_int) po_none) pa_nil)) (pe_lst (pa_cons (pe_op op_add (pv 1) pe_int) pa_nil))))
      (pss_one (ps_ret (pe_callTy (tupK (K := K) rfl) rfl T.z_tuple (by decide +kernel) (pa_cons (pe_lc (own := [("_law_begin", 3), ("_law_end", 4)]) (g := gTup K 2 (gCons (gName 3) (gCons (gName 4) gNil))) (tt := tYes) rfl S.nd (Jg.pi_zipM rfl T.z_zip (pa_cons (pv 0) (pa_cons (pv 2) pa_nil))) (blkOk_by (N := ["_law_begins", "_law_hour", "_law_ends", "_law_begin", "_law_end"]) (sc := defScope s_law_runs) (own := [("_law_begin", 3), ("_law_end", 4)]) (by decide +kernel)) (fun _ _ _ _ _ => pg_tup rfl (pgs_cons (pg_name (i := 3) S.nd rfl (Or.inl rfl)) (pgs_cons (pg_name (i := 4) S.nd rfl (Or.inl rfl)) pgs_nil))) (fun _ _ _ _ _ => pts_nil) (fun _ _ _ _ _ => pe_tup (pa_cons (pv 3) (pa_cons (pe_op op_sub (pv 4) pe_int) pa_nil)))) pa_nil)))), ?_⟩
  refine r_setL (K := K) (as := g.drop 1 ++ [hh + 1]) (el_cat (el_listT (er_slD (n := 1) (er_var rfl h_begins) (er_n (K := K) 1))) (el_1 (er_II (g := fun i j => i + j) (er_var rfl h_hour) (er_i 1))) (sz_of (by simp; omega))) fun p xs H1 e1 nl h1 h2 => ?_
  have h_ends : r K H1 (.ref p) (Ls.mk (g.drop 1 ++ [hh + 1])) := ⟨p, xs, rfl, sq_of h1, h2⟩
  refine r_ret (K := K) (er_tupOf (El.er' (el_lcY (f := fun x : Int × Int => (x.1, x.2 - 1)) (wr_zip (er_var rfl (Rp.mono e1 h_begins)) (er_var rfl h_ends)) (by rw [List.length_zip]; omega) fun a v H2 ha e2 hv Q q => ?_))) fun v H3 e3 hv => q v H3 (e1.trans e3) hv
  obtain ⟨a1, a2⟩ := a
  exact gb_pair hv fun y1 y2 g1 g2 => q _ _ (Ex.refl _) rfl (er_tup2 (er_var (a := a1) rfl g1) (er_II (g := fun i j => i - j) (er_var (a := a2) rfl g2) (er_i 1)))
theorem ok_law_shelf (T : Tx w K mg) : FnAt P w K mg base 2 (He.fAd K ("_law_shelf", none)) (Pu1 K (fun (s : LSt) => s.g.length < 1000) shelfL) := by
  have S : FnScope ["_law_state"] ["_law_state"] (defScope s_law_shelf) := ⟨rfl, rfl, rfl, by decide +kernel, rfl, by decide +kernel, by decide +kernel⟩
  have G_law_runs := ok_law_runs (P := P) (base := base) T
  refine mk0 1 T.f_law_shelf S (fun _ _ _ _ _ _ us hl => match us, hl with | [_], _ => rfl) (fun vs H Q E h => len1 h) fun cdv A outer s H vs Q E hr h => ?_
  obtain ⟨x, s, rfl, h_state, hl, q⟩ := h
  refine ⟨_, pss_one (ps_ret (pe_ifExp (pt_cmpR op_gt (pe_callB (lenK (K := K) rfl) rfl T.z_len (by decide +kernel) (pa_cons (pe_ix (ixT (K := K) rfl) (pv 0) pe_int (fun _ _ => rfl)) pa_nil)) pe_int (nomark _)) (pe_f G_law_runs T.g_law_runs hr (by decide) passN (pa_cons (pe_ix (ixT (K := K) rfl) (pv 0) pe_int (fun _ _ => rfl)) (pa_cons (pe_op op_sub (pe_callB (lenK (K := K) rfl) rfl T.z_len (by decide +kernel) (pa_cons (pe_ix (ixT (K := K) rfl) (pv 0) pe_int (fun _ _ => rfl)) pa_nil)) pe_int) pa_nil))) (pe_tup pa_nil))), ?_⟩
  refine r_ret (K := K) (er_if (a := shelfL s) (k := !decide (s.b = [])) (et_t (K := K) (Er.is (er_IB (g := fun i j => decide (j < i)) (er_lenT (er_lB (er_var rfl h_state))) (er_i 0)) ?_)) (fun hc => ?_) fun hc => ?_) q
  · cases s.b <;> simp
  · have h0 : ¬ s.b = [] := by simpa using hc
    rw [show shelfL s = runsL s.g ((s.b.length : Int) - 1) from if_neg h0]
    exact er_f2 (er_lG (er_var rfl h_state)) (er_II (g := fun i j => i - j) (er_lenT (er_lB (er_var rfl h_state))) (er_i 1)) hl
  · have h0 : s.b = [] := by simpa using hc
    rw [show shelfL s = [] from if_pos h0]
    exact er_tup0
end
end Js
/-! ### the law's own runs -/
namespace Js
open PySem PySem.Spec PyProof.Rows L2 Evl SX
open Rp (r)
def keyS (ns : List Int) : List Int := (upI 0 60).filter fun k => decide (k ∈ ns)
def keysL (bs : List (List PR)) (a b : Nat) : List Int := ((bs.take (b + 1)).drop a).flatMap fun c => c.map (·.1)
def marksB (ks : List Int) (a b : Int) : List Int := (ks.filter fun h => decide (a ≤ h) && decide (h ≤ b)) ++ [b]
def ownL (bs : List (List PR)) (a : Nat) (key : Int) : Nat → List PR
  | 0 => []
  | j + 1 => ownL bs a key j ++ ((bs.getD (a + j) []).filter fun x => decide (x.1 = key)).map fun x => ((a : Int) + (j : Nat), x.2)
def lastH (own : List PR) (m : Int) : List Int := ((own.filter fun x => decide (x.1 ≤ m)).map (·.1)).drop ((own.filter fun x => decide (x.1 ≤ m)).length - 1)
def needH (own : List PR) (ms : List Int) : List Int := ms.flatMap (lastH own)
def foundL (key : Int) (nd : List Int) : Bool → List PR → List TR
  | _, [] => []
  | s, x :: l => if (decide (x.1 ∈ nd) && (s || x.2.isSome)) = true then ⟨key, x.1, x.2⟩ :: foundL key nd true l else foundL key nd s l
def oneL (bs : List (List PR)) (ks : List Int) (a b : Nat) (key : Int) : List TR := foundL key (needH (ownL bs a key (b + 1 - a)) (marksB ks a b)) (decide (0 < a)) (ownL bs a key (b + 1 - a))
def runL (bs : List (List PR)) (ks : List Int) (a b : Nat) : List TR := (keyS (keysL bs a b)).flatMap (oneL bs ks a b)
structure PreR (bs : List (List PR)) (ks : List Int) (a b : Nat) : Prop where
  ab : a ≤ b
  bl : b < bs.length
  l : bs.length ≤ 30
  c : ∀ c ∈ bs, c.length ≤ 10 ∧ ∀ x ∈ c, (0 : Int) ≤ x.1 ∧ x.1 < 60
  k : ks.length ≤ 100
theorem pw_upI {lo : Int} : ∀ n, (upI lo n).Pairwise (· < ·) := fun n => by
  unfold upI
  rw [List.pairwise_map]
  exact List.pairwise_lt_range.imp fun {a b} h => by omega
theorem keyS_pw (ns : List Int) : (keyS ns).Pairwise (· < ·) := (pw_upI 60).filter _
theorem keyS_mem {ns : List Int} (hb : ∀ k ∈ ns, (0 : Int) ≤ k ∧ k < 60) {k : Int} : k ∈ keyS ns ↔ k ∈ ns := by
  unfold keyS
  rw [List.mem_filter, mem_upI, decide_eq_true_eq]
  exact ⟨fun h => h.2, fun h => ⟨by have := hb k h; omega, h⟩⟩
theorem keyS_len (ns : List Int) : (keyS ns).length ≤ 60 := by
  unfold keyS
  exact Nat.le_trans (List.length_filter_le _ _) (by rw [upI_len]; exact Nat.le_refl _)
theorem asc_nodup {l : List Int} (h : l.Pairwise (· < ·)) : l.Nodup := h.imp fun {a b} z e => by omega
theorem asc_uniq {l m : List Int} (hl : l.Pairwise (· < ·)) (hm : m.Pairwise (· < ·)) (h : ∀ k, k ∈ l ↔ k ∈ m) : l = m :=
  pw_uniq ((List.perm_ext_iff_of_nodup (asc_nodup hl) (asc_nodup hm)).mpr h) hl hm fun x _ y _ p q => by omega
theorem own_len {bs : List (List PR)} {a : Nat} {key : Int} (hc : ∀ c ∈ bs, c.length ≤ 10) : ∀ j, (ownL bs a key j).length ≤ 10 * j
  | 0 => Nat.zero_le _
  | j + 1 => by
    have h1 := own_len (a := a) (key := key) hc j
    have h2 : (bs.getD (a + j) []).length ≤ 10 := by
      rw [List.getD_eq_getElem?_getD]
      cases h : bs[a + j]? with
      | none => simp
      | some c => exact hc c (List.mem_of_getElem? h)
    have h3 := List.length_filter_le (fun x : PR => decide (x.1 = key)) (bs.getD (a + j) [])
    show (ownL bs a key j ++ List.map _ _).length ≤ _
    rw [List.length_append, List.length_map]
    omega
theorem lastH_len (own : List PR) (m : Int) : (lastH own m).length ≤ 1 := by
  unfold lastH
  rw [List.length_drop, List.length_map]
  omega
theorem needH_len (own : List PR) (ms : List Int) : (needH own ms).length ≤ ms.length := by
  unfold needH
  induction ms with
  | nil => simp
  | cons m ms ih =>
    have := lastH_len own m
    rw [List.flatMap_cons, List.length_append, List.length_cons]
    omega
theorem foundL_len {key : Int} {nd : List Int} : ∀ {l : List PR} {s : Bool}, (foundL key nd s l).length ≤ l.length
  | [], _ => Nat.le_refl _
  | x :: l, s => by
    unfold foundL
    split
    · have := foundL_len (key := key) (nd := nd) (l := l) (s := true)
      simp
      omega
    · have := foundL_len (key := key) (nd := nd) (l := l) (s := s)
      simp
      omega
section
variable {P : Program} {w : World} {K : PySem.W.Frag} {mg : PySem.Str → Option Value} {base : Heap}
theorem el_sset {ns : List Int} {ta : TE} {σ : L2.St} {H : Hp} (ha : Er K ta σ H (Ls.mk ns)) (hb : ∀ k ∈ ns, (0 : Int) ≤ k ∧ k < 60) (hl : ns.length ≤ 4000) : El K (tCB (rSortedSet w) (tCons (tCB (Jg.rSetI K w) (tCons ta tNil)) tNil)) σ H (keyS ns) := fun H1 e1 Q q => ha H1 e1 _ fun v H2 e2 hv => by
  obtain ⟨p, xs, rfl, h1, h2⟩ := hv
  rw [ints_of h2] at h1
  refine ⟨p, ns, rfl, h1, hl, fun p2 L n1 n2 hp => ?_⟩
  have e3 : Ex H2 (upd H2 p2 (SetO w p2 (fun j => decide (j ∈ ns)) L.length)) := Ex.new hp
  have hL : L.length = (keyS ns).length := ((List.perm_ext_iff_of_nodup n1 (asc_nodup (keyS_pw ns))).mpr fun k => by rw [n2 k, keyS_mem hb]).length_eq
  refine ⟨p2, _, _, rfl, upd_same, by have := keyS_len ns; omega, fun ys p3 hy hm hn h3 => ?_⟩
  have ey : ys = keyS ns := asc_uniq hy (keyS_pw ns) fun k => by rw [hm k, keyS_mem hb, decide_eq_true_eq]
  subst ey
  exact q p3 _ _ ((e2.trans e3).trans (Ex.new h3)) (fresh_back (e2.trans e3) h3) upd_same (pd_of (F := r K _) (f := V.int) (fun b => (rfl : V.int b = V.int b)) _)
theorem el_last1 {as : List Int} {ta : TE} {σ : L2.St} {H : Hp} (ha : El K ta σ H as) : El K (tSl (rSlL K) ta (tPart (tUn (rU fun i => V.int (-i)) (tC (V.int 1)))) tNoPart) σ H (as.drop (as.length - 1)) := fun H1 e1 Q q => ha H1 e1 _ fun p xs H2 e2 hn h1 h2 => by
  refine ⟨1, rfl, _, rfl, p, xs, rfl, sq_of h1, fun p2 hp => q p2 _ _ (e2.trans (Ex.new hp)) (fresh_back e2 hp) upd_same ?_⟩
  have e : cutV xs (some (-1)) none = xs.drop (as.length - 1) := by
    rw [← pd_len h2]
    unfold cutV
    rw [HT.sIx_none]
    have : HT.sIx xs.length 0 (some (-1)) = xs.length - 1 := by
      unfold HT.sIx
      simp
      omega
    rw [this, List.take_of_length_le (by rw [List.length_drop]; omega)]
  rw [e]
  exact pd_map (pd_drop h2 _) fun _ _ h => Rp.mono (Ex.new hp) h
theorem r_forLN {α : Type} [Rp α] [RpT α] {as : List α} {t : TS} {D : Ends} {g : TG} {te : TE} {σ : L2.St} {H : Hp} (h : El K te σ H as) (k : ∀ p xs H1, Ex H H1 → H p = none → H1 p = some (.lst xs) → ∃ Pv : Nat → L2.St → Hp → Prop, Pv 0 σ H1 ∧ (∀ i σ' H', Pv i σ' H' → ExT H1 H' ∧ SqL K H' p xs) ∧
    (∀ i a v σ' H', as[i]? = some a → r K H' v a → Pv i σ' H' → g v σ' H' fun σ2 H2 => t { D with nx := Pv (i + 1), ct := Pv (i + 1), bk := D.nx } σ2 H2) ∧ ∀ σ' H', Pv as.length σ' H' → D.nx σ' H') : tFor (iList K te) g t D σ H := h H (Ex.refl H) _ fun p xs H1 e1 hn h1 h2 => by
  obtain ⟨Pv, p0, pe, ps, pd⟩ := k p xs H1 e1 hn h1
  refine ⟨p, rfl, ⟨xs, sq_of h1⟩, for_list (xs := xs) Pv p0 (fun i σ' H' _ pv => (pe i σ' H' pv).2) (fun i x σ' H' hx pv => ?_) fun σ' H' pv => pd σ' H' (by rw [← pd_len h2]; exact pv)⟩
  obtain ⟨a, ha, hr⟩ := pd_get h2 hx
  exact ps i a x σ' H' ha (RpT.t (pe i σ' H' pv).1 hr) pv
theorem Er.natS {n : Nat} {te : TE} {σ : L2.St} {H : Hp} (h : Er K te σ H ((n : Int) + 1)) : Er K te σ H (n + 1) := h
theorem ok_law_run (T : Tx w K mg) : FnAt P w K mg base 1 (He.fAd K ("_law_run", none)) (Pu4 K PreR runL) := by
  have S : FnScope ["_law_batches", "_law_kept", "_law_first", "_law_last", "_law_keys", "_law_batch_here", "_law_marks", "_law_found", "_law_key", "_law_own", "_law_hour", "_law_needed", "_law_mark", "_law_is_seen", "_law_value", "_law_one"] ["_law_batches", "_law_kept", "_law_first", "_law_last"] (defScope s_law_run) := ⟨rfl, rfl, rfl, by decide +kernel, rfl, by decide +kernel, by decide +kernel⟩
  refine mk0 0 T.f_law_run S (fun _ _ _ _ _ _ us hl => match us, hl with | [_, _, _, _], _ => rfl) (fun vs H Q E h => len4 h) fun cdv A outer s H vs Q E hr h => ?_
  obtain ⟨x, y, z, u, bs, ks, a, b, rfl, h_batches, h_kept, h_first, h_last, hp, q⟩ := h
  refine ⟨_, pss_cons (ps_set (i := 4) S.nd rfl (Or.inl rfl) (pe_lst pa_nil))
      (pss_cons (ps_for PassesOwn.never rfl (pi_tup (pe_slice (slT (K := K) rfl) (pv 0) (po_some (pv 2)) (po_some (pe_op op_add (pv 3) pe_int)))) (pg_name (i := 5) S.nd rfl (Or.inl rfl))
        (pss_one (ps_expr (pe_bm PySem.F.plainAttrs_list PySem.F.slot_list_extend PySem.F.type_list_extend mt_extend (pv 4) (pa_cons (pe_lc (own := [("_law_key", 8), ("_law_value", 14)]) (g := gTup K 2 (gCons (gName 8) (gCons (gName 14) gNil))) (tt := tYes) rfl S.nd (pi_tup (pv 5)) (blkOk_by (N := ["_law_batches", "_law_kept", "_law_first", "_law_last", "_law_keys", "_law_batch_here", "_law_marks", "_law_found", "_law_key", "_law_own", "_law_hour", "_law_needed", "_law_mark", "_law_is_seen", "_law_value", "_law_one"]) (sc := defScope s_law_run) (own := [("_law_key", 8), ("_law_value", 14)]) (by decide +kernel)) (fun _ _ _ _ _ => pg_tup rfl (pgs_cons (pg_name (i := 8) S.nd rfl (Or.inl rfl)) (pgs_cons (pg_name (i := 14) S.nd rfl (Or.inl rfl)) pgs_nil))) (fun _ _ _ _ _ => pts_nil) (fun _ _ _ _ _ => pv 8)) pa_nil)))))
      (pss_cons (ps_set (i := 6) S.nd rfl (Or.inl rfl) (pe_op op_cat (pe_lc (own := [("_law_hour", 10)]) (g := gName 10) rfl S.nd (pi_tup (pv 1)) (blkOk_by (N := ["_law_batches", "_law_kept", "_law_first", "_law_last", "_law_keys", "_law_batch_here", "_law_marks", "_law_found", "_law_key", "_law_own", "_law_hour", "_law_needed", "_law_mark", "_law_is_seen", "_law_value", "_law_one"]) (sc := defScope s_law_run) (own := [("_law_hour", 10)]) (by decide +kernel)) (fun _ _ _ _ _ => pg_name (i := 10) S.nd rfl (Or.inl rfl)) (fun _ _ _ _ _ => pts_one (pt_chain op_le op_le (pv 2) (pv 10) (pv 3))) (fun _ _ _ _ _ => pv 10)) (pe_lst (pa_cons (pv 3) pa_nil))))
      (pss_cons (ps_set (i := 7) S.nd rfl (Or.inl rfl) (pe_lst pa_nil))
      (pss_cons (ps_for PassesOwn.never rfl (pi_list (pe_callB (cr_sortedSet rfl) rfl T.z_sorted (by decide +kernel) (pa_cons (pe_callTy (Jg.cr_setI rfl) rfl T.z_set (by decide +kernel) (pa_cons (pv 4) pa_nil)) pa_nil))) (pg_name (i := 8) S.nd rfl (Or.inr rfl))
        (pss_cons (ps_set (i := 9) S.nd rfl (Or.inl rfl) (pe_lst pa_nil))
        (pss_cons (ps_for PassesOwn.never rfl (pi_range2 rfl T.z_range (pa_cons (pv 2) (pa_cons (pe_op op_add (pv 3) pe_int) pa_nil))) (pg_name (i := 10) S.nd rfl (Or.inr rfl))
          (pss_one (ps_expr (pe_bm PySem.F.plainAttrs_list PySem.F.slot_list_extend PySem.F.type_list_extend mt_extend (pv 9) (pa_cons (pe_lc (own := [("_law_one", 15), ("_law_value", 14)]) (g := gTup K 2 (gCons (gName 15) (gCons (gName 14) gNil))) rfl S.nd (pi_tup (pe_ix (ixT (K := K) rfl) (pv 0) (pv 10) (fun _ _ => rfl))) (blkOk_by (N := ["_law_batches", "_law_kept", "_law_first", "_law_last", "_law_keys", "_law_batch_here", "_law_marks", "_law_found", "_law_key", "_law_own", "_law_hour", "_law_needed", "_law_mark", "_law_is_seen", "_law_value", "_law_one"]) (sc := defScope s_law_run) (own := [("_law_one", 15), ("_law_value", 14)]) (by decide +kernel)) (fun _ _ _ _ _ => pg_tup rfl (pgs_cons (pg_name (i := 15) S.nd rfl (Or.inl rfl)) (pgs_cons (pg_name (i := 14) S.nd rfl (Or.inl rfl)) pgs_nil))) (fun _ _ _ _ _ => pts_one (pt_cmpR op_eq (pv 15) (pv 8) (nomark _))) (fun _ _ _ _ _ => pe_tup (pa_cons (pv 10) (pa_cons (pv 14) pa_nil)))) pa_nil)))))
        (pss_cons (ps_set (i := 11) S.nd rfl (Or.inl rfl) (pe_lst pa_nil))
        (pss_cons (ps_for PassesOwn.never rfl (pi_list (pv 6)) (pg_name (i := 12) S.nd rfl (Or.inr rfl))
          (pss_one (ps_expr (pe_bm PySem.F.plainAttrs_list PySem.F.slot_list_extend PySem.F.type_list_extend mt_extend (pv 11) (pa_cons (pe_slice sl_list (pe_lc (own := [("_law_hour", 10), ("_law_value", 14)]) (g := gTup K 2 (gCons (gName 10) (gCons (gName 14) gNil))) rfl S.nd (pi_list (pv 9)) (blkOk_by (N := ["_law_batches", "_law_kept", "_law_first", "_law_last", "_law_keys", "_law_batch_here", "_law_marks", "_law_found", "_law_key", "_law_own", "_law_hour", "_law_needed", "_law_mark", "_law_is_seen", "_law_value", "_law_one"]) (sc := defScope s_law_run) (own := [("_law_hour", 10), ("_law_value", 14)]) (by decide +kernel)) (fun _ _ _ _ _ => pg_tup rfl (pgs_cons (pg_name (i := 10) S.nd rfl (Or.inl rfl)) (pgs_cons (pg_name (i := 14) S.nd rfl (Or.inl rfl)) pgs_nil))) (fun _ _ _ _ _ => pts_one (pt_cmpR op_le (pv 10) (pv 12) (nomark _))) (fun _ _ _ _ _ => pv 10)) (po_some (pe_un un_neg pe_int)) po_none) pa_nil)))))
        (pss_cons (ps_set (i := 13) S.nd rfl (Or.inl rfl) (pe_cmpR op_gt (pv 2) pe_int (nomark _)))
        (pss_one (ps_for PassesOwn.never rfl (pi_list (pv 9)) (pg_tup rfl (pgs_cons (pg_name (i := 10) S.nd rfl (Or.inr rfl)) (pgs_cons (pg_name (i := 14) S.nd rfl (Or.inl rfl)) pgs_nil)))
          (pss_one (ps_if (PW.pt (pw_and (pt_cmpR (inK (K := K) rfl) (pv 10) (pv 11) rfl) (pw_and1 (PW.pt (pw_or (pt_val (pv 13)) (pw_or1 (pt_cmpR op_notN (pv 14) pe_non (nomark _))))))))
            (pss_cons (ps_expr (pe_bm PySem.F.plainAttrs_list PySem.F.slot_list_append PySem.F.type_list_append mt_append (pv 7) (pa_cons (pe_tup (pa_cons (pv 8) (pa_cons (pv 10) (pa_cons (pv 14) pa_nil)))) pa_nil)))
            (pss_one (ps_set (i := 13) S.nd rfl (Or.inl rfl) pe_bl)))
            (pss_nil)))))))))))
      (pss_one (ps_ret (pe_callTy (tupK (K := K) rfl) rfl T.z_tuple (by decide +kernel) (pa_cons (pv 7) pa_nil)))))))), ?_⟩
  obtain rfl : z = .int (a : Int) := h_first
  obtain rfl : u = .int (b : Int) := h_last
  obtain ⟨hab, hbl, hl30, hc, hk⟩ := hp
  have hc10 : ∀ c ∈ bs, c.length ≤ 10 := fun c h => (hc c h).1
  refine r_setL (K := K) (as := ([] : List Int)) el_0 fun pk xk0 H1 e1 nk k1 k2 => ?_
  cases k2
  have hsl : ((bs.take (b + 1)).drop a).length ≤ 30 := by rw [List.length_drop, List.length_take]; omega
  refine r_forT (K := K) (er_slB (n := a) (m := b + 1) (er_var rfl (Rp.mono e1 h_batches)) (er_var (a := a) rfl rfl) (Er.natS (er_II (g := fun i j => i + j) (er_var (a := (b : Int)) rfl rfl) (er_i 1)))) fun H2 e2 => ⟨fun i σ' H' => Ex H H' ∧ ExT H2 H' ∧ ∃ xs n5 n8 n14, σ' = [some x, some y, some (.int (a : Int)), some (.int (b : Int)), some (.ref pk), n5, none, none, n8, none, none, none, none, none, n14, none] ∧ H' pk = some (.lst xs) ∧ Paired (r K H') xs ((((bs.take (b + 1)).drop a).take i).flatMap fun c => c.map (·.1)) ∧ xs.length ≤ 10 * i, ?_, ?_, ?_, ?_⟩
  · exact ⟨e1.trans e2, ExT.refl _, [], none, none, none, rfl, e2 _ _ k1, .nil, Nat.zero_le _⟩
  · exact fun i σ' H' pv => pv.2.1
  · rintro i c v σ' H' hi hr' ⟨eH, eT, xs, n5, n8, n14, rfl, g1, g2, g3⟩
    have hcm : c ∈ bs := List.mem_of_mem_take (List.mem_of_mem_drop (List.mem_of_getElem? hi))
    have hcl := hc10 c hcm
    have hi30 : i < 30 := by
      have := (List.getElem?_eq_some_iff.mp hi).1
      omega
    refine gb_name ?_
    refine r_ext (K := K) (as := c.map fun x : PR => x.1) g1 (ev_var rfl) (el_lcY (f := fun x : PR => x.1) (wr_tup (er_var rfl hr')) (by omega) fun d v H1 hd e1 hv Q q => ?_) (by rw [List.length_map]; omega) fun zs H3 e3 hzs et => ?_
    · obtain ⟨d1, d2⟩ := d
      exact gb_pair hv fun y1 y2 g1 g2 => q _ _ (Ex.refl _) rfl (er_var rfl g1)
    · refine ⟨Kp.ex (eH) nk ((Ex.kp e3).trans Kp.upd), (eT.trans (Js.Ex.t e3)).trans (ext_lst (e3 _ _ g1)), xs ++ zs, _, _, _, rfl, upd_same, ?_, ?_⟩
      · rw [flat_take hi]
        exact pd_app (pd_map g2 fun _ _ z => RpT.t et (Rp.mono e3 z)) hzs
      · rw [List.length_append, pd_len hzs, List.length_map]
        omega
  rintro σ' H3 ⟨e3, -, xk, n5, n8, n14, rfl, k1, k2, k3⟩
  rw [List.take_length] at k2
  refine r_setL (K := K) (as := marksB ks a b) (el_cat (El.is (el_lc (p := fun h => decide ((a : Int) ≤ h) && decide (h ≤ (b : Int))) (f := id) (wr_tup (er_var rfl (Rp.mono e3 h_kept))) (by omega) fun c v H1 hc e1 hv Q q => gb_name (q _ H1 (Ex.refl _) rfl (et_chain (K := K) (er_var (a := (a : Int)) rfl rfl) (er_var rfl hv) (er_var (a := (b : Int)) rfl rfl) (fun _ => rv_I0) (fun _ => rv_I0)) fun _ => er_var rfl hv)) (List.map_id _)) (el_1 (er_var (a := (b : Int)) rfl rfl)) ?_) fun pm xm H4 e4 nm m1 m2 => ?_
  · have := List.length_filter_le (fun h => decide ((a : Int) ≤ h) && decide (h ≤ (b : Int))) ks
    exact sz_of (by simp; omega)
  refine r_setL (K := K) (as := ([] : List TR)) el_0 fun fl xs0 H5 e5 nf f1 f2 => ?_
  cases f2
  have nfm : fl ≠ pm := (ne_of_none m1 nf).symm
  have hkb : ∀ k ∈ keysL bs a b, (0 : Int) ≤ k ∧ k < 60 := fun k hk => by
    obtain ⟨c, hcm, hkc⟩ := List.mem_flatMap.mp hk
    obtain ⟨x, hx, rfl⟩ := List.mem_map.mp hkc
    exact (hc c (List.mem_of_mem_take (List.mem_of_mem_drop hcm))).2 x hx
  have hkl : (keysL bs a b).length ≤ 300 := by
    have h0 := pd_len k2
    unfold keysL
    omega
  have hN : b + 1 - a ≤ 30 := by omega
  have hml : (marksB ks a b).length ≤ 101 := by
    unfold marksB
    have := List.length_filter_le (fun h => decide ((a : Int) ≤ h) && decide (h ≤ (b : Int))) ks
    simp
    omega
  have e35 := e4.trans e5
  have e05 := e3.trans e35
  have k1' := e35 _ _ k1
  have h_keys : r K H5 (.ref pk) (Ls.mk (keysL bs a b)) := ⟨pk, xk, rfl, sq_of k1', pd_map k2 fun _ _ z => Rp.mono e35 z⟩
  refine r_forLN (as := keyS (keysL bs a b)) (el_sset (ns := keysL bs a b) (er_var rfl h_keys) hkb (by omega)) fun ps xs H6 e6 ns hs => ⟨fun i σ' H' => Kp fl H6 H' ∧ ∃ xf n8 n9 n10 n11 n12 n13 n14 n15, σ' = [some x, some y, some (.int (a : Int)), some (.int (b : Int)), some (.ref pk), n5, some (.ref pm), some (.ref fl), n8, n9, n10, n11, n12, n13, n14, n15] ∧ H' fl = some (.lst xf) ∧ Paired (r K H') xf (((keyS (keysL bs a b)).take i).flatMap (oneL bs ks a b)) ∧ xf.length ≤ 300 * i, ?_, ?_, ?_, ?_⟩
  · exact ⟨fun _ _ _ h => h, [], n8, none, none, none, none, none, n14, none, rfl, e6 _ _ f1, .nil, Nat.zero_le _⟩
  · exact fun i σ' H' pv => ⟨kp_t pv.1 (e6 _ _ f1), sq_of (pv.1 _ _ (ne_of_none f1 ns).symm hs)⟩
  · rintro i key v σ' H7 hi hr' ⟨kp, xf, n8, n9, n10, n11, n12, n13, n14, n15, rfl, g1, g2, g3⟩
    obtain rfl : v = .int key := hr'
    have hi60 : i < 60 := by
      have := (List.getElem?_eq_some_iff.mp hi).1
      have := keyS_len (keysL bs a b)
      omega
    refine gb_name ?_
    have eH7 : Ex H H7 := Kp.ex (e05.trans e6) (fresh_back (e3.trans e4) nf) kp
    have m7 : H7 pm = some (.lst xm) := kp _ _ nfm.symm (e6 _ _ (e5 _ _ m1))
    have et7 : ExT H4 H7 := ((Js.Ex.t (e5.trans e6)).trans (kp_t kp (e6 _ _ f1)))
    refine r_setL (K := K) (as := ([] : List PR)) el_0 fun lo xo0 H8 e8 no o1 o2 => ?_
    cases o2
    refine r_forR (K := K) (er_var (a := (a : Int)) rfl rfl) (er_II (K := K) (g := fun i j => i + j) (er_var (a := (b : Int)) rfl rfl) (er_i 1)) (by omega) (fun j σ' H' => Ex H7 H' ∧ ∃ xo n10 n14 n15, σ' = [some x, some y, some (.int (a : Int)), some (.int (b : Int)), some (.ref pk), n5, some (.ref pm), some (.ref fl), some (.int key), some (.ref lo), n10, n11, n12, n13, n14, n15] ∧ H' lo = some (.lst xo) ∧ Paired (r K H') xo (ownL bs a key j)) ?_ ?_ ?_
    · exact fun H9 e9 => ⟨e8.trans e9, [], n10, n14, n15, rfl, e9 _ _ o1, .nil⟩
    · rintro j σ' H9 hj ⟨e9, xo, n10, n14, n15, rfl, o1, o2⟩
      have hjf : a + j < bs.length := by omega
      have hat : bs[a + j]? = some (bs.getD (a + j) []) := by rw [List.getD_eq_getElem?_getD, List.getElem?_eq_getElem hjf]; rfl
      have hol := own_len (a := a) (key := key) hc10 j
      have hol2 := pd_len o2
      have hBl : (bs.getD (a + j) []).length ≤ 10 := hc10 _ (List.mem_of_getElem? hat)
      have hown : ownL bs a key (j + 1) = ownL bs a key j ++ ((bs.getD (a + j) []).filter fun x => decide (x.1 = key)).map fun x => ((a : Int) + (j : Nat), x.2) := rfl
      generalize bs.getD (a + j) [] = B at hat hBl hown
      refine r_ext (K := K) (as := (B.filter fun x => decide (x.1 = key)).map fun x : PR => (((a : Int) + (j : Nat), x.2) : PR)) o1 (ev_var rfl) (el_lc (p := fun x : PR => decide (x.1 = key)) (f := fun x : PR => (((a : Int) + (j : Nat), x.2) : PR)) (wr_tup (er_ixT (er_var rfl (Rp.mono (eH7.trans e9) h_batches)) (er_var (a := (a : Int) + (j : Nat)) rfl rfl) (by omega) hat)) (by omega) fun d v H1 hd e1 hv Q q => ?_) (by have := List.length_filter_le (fun x : PR => decide (x.1 = key)) B; rw [List.length_map]; omega) fun zs H10 e10 hzs et => ?_
      · obtain ⟨d1, d2⟩ := d
        exact gb_pair hv fun y1 y2 g1 g2 => q _ _ (Ex.refl _) rfl (et_t (K := K) (er_eqI (er_var (a := d1) rfl g1) (er_var (a := key) rfl rfl))) fun _ => er_tup2 (er_var (a := (a : Int) + (j : Nat)) rfl rfl) (er_var rfl g2)
      · refine ⟨Ex.mut (e9.trans e10) no, xo ++ zs, _, _, _, rfl, upd_same, ?_⟩
        rw [hown]
        exact pd_app (pd_map o2 fun _ _ z => RpT.t et (Rp.mono e10 z)) hzs
    rintro σ' H9 ⟨e9, xo, n10, n14, n15, rfl, o1, o2⟩
    have hnn : ((b : Int) + 1 - (a : Int)).toNat = b + 1 - a := by omega
    rw [hnn] at o2
    have hown := own_len (a := a) (key := key) hc10 (b + 1 - a)
    generalize hO : ownL bs a key (b + 1 - a) = own at o2 hown
    have nfo : fl ≠ lo := ne_of_none g1 no
    refine r_setL (K := K) (as := ([] : List Int)) el_0 fun ln xn0 H10 e10 nn q1 q2 => ?_
    cases q2
    have m10 : H10 pm = some (.lst xm) := e10 _ _ (e9 _ _ m7)
    have et10 : ExT H4 H10 := et7.trans (Js.Ex.t (e9.trans e10))
    refine r_forLV (ev_var rfl) (sq_of m10) (pd_map m2 fun _ _ z => RpT.t et10 z) fun H11 e11 => ⟨fun j σ' H' => Ex H9 H' ∧ ExT H11 H' ∧ ∃ xn n10 n12 n14 n15, σ' = [some x, some y, some (.int (a : Int)), some (.int (b : Int)), some (.ref pk), n5, some (.ref pm), some (.ref fl), some (.int key), some (.ref lo), n10, some (.ref ln), n12, n13, n14, n15] ∧ H' ln = some (.lst xn) ∧ Paired (r K H') xn (((marksB ks a b).take j).flatMap (lastH own)) ∧ xn.length ≤ j, ?_, ?_, ?_, ?_⟩
    · exact ⟨e10.trans e11, ExT.refl _, [], n10, n12, n14, n15, rfl, e11 _ _ q1, .nil, Nat.zero_le _⟩
    · exact fun j σ' H' pv => ⟨pv.2.1, sq_of (pv.1 _ _ (e9 _ _ m7))⟩
    · rintro j m v σ' H12 hj hr' ⟨e12, eT12, xn, n10, n12, n14, n15, rfl, t1, t2, t3⟩
      obtain rfl : v = .int m := hr'
      have hj101 : j < 101 := by
        have := (List.getElem?_eq_some_iff.mp hj).1
        omega
      have h_own : r K H12 (.ref lo) (Ls.mk own) := ⟨lo, xo, rfl, sq_of (e12 _ _ o1), pd_map o2 fun _ _ z => Rp.mono e12 z⟩
      refine gb_name ?_
      have hll := lastH_len own m
      have elast : ((own.filter fun x => decide (x.1 ≤ m)).map fun x : PR => x.1).drop (((own.filter fun x => decide (x.1 ≤ m)).map fun x : PR => x.1).length - 1) = lastH own m := by
        unfold lastH
        rw [List.length_map]
      refine r_ext (K := K) (as := lastH own m) t1 (ev_var rfl) (El.is (el_last1 (el_lc (p := fun x : PR => decide (x.1 ≤ m)) (f := fun x : PR => x.1) (wr_list (er_var rfl h_own)) (by omega) fun d v H1 hd e1 hv Q q => ?_)) elast) (by omega) fun zs H13 e13 hzs et => ?_
      · obtain ⟨d1, d2⟩ := d
        exact gb_pair hv fun y1 y2 g1 g2 => q _ _ (Ex.refl _) rfl (et_t (K := K) (er_IB (g := fun i j => decide (i ≤ j)) (er_var (a := d1) rfl g1) (er_var (a := m) rfl rfl))) fun _ => er_var (a := d1) rfl g1
      · refine ⟨Ex.mut (e12.trans e13) nn, (eT12.trans (Js.Ex.t e13)).trans (ext_lst (e13 _ _ t1)), xn ++ zs, _, _, _, _, rfl, upd_same, ?_, ?_⟩
        · rw [flat_take hj]
          exact pd_app (pd_map t2 fun _ _ z => RpT.t et (Rp.mono e13 z)) hzs
        · rw [List.length_append, pd_len hzs]
          omega
    rintro σ' H12 ⟨e12, -, xn, n10, n12, n14, n15, rfl, t1, t2, t3⟩
    rw [List.take_length] at t2
    have t2' : Paired (r K H12) xn (needH own (marksB ks a b)) := t2
    generalize hNd : needH own (marksB ks a b) = nd at t2'
    have e712 := e9.trans e12
    have nfn : fl ≠ ln := ne_of_none (e9 _ _ g1) nn
    refine r_set (K := K) (er_IB (g := fun i j => decide (j < i)) (er_var (a := (a : Int)) rfl rfl) (er_i 0)) fun v13 H13 e13 hv13 => ?_
    obtain rfl : v13 = .bl (decide ((0 : Int) < (a : Int))) := hv13
    have o13 := (e12.trans e13) _ _ o1
    have t13 := e13 _ _ t1
    have f13 := (e712.trans e13) _ _ g1
    have hone : oneL bs ks a b key = foundL key nd (decide ((0 : Int) < (a : Int))) own := by
      unfold oneL
      rw [hO, hNd]
      congr 1
      simp
    refine r_forLV (ev_var rfl) (sq_of o13) (pd_map o2 fun _ _ z => Rp.mono (e12.trans e13) z) fun H14 e14 => ⟨fun j σ' H' => Kp fl H14 H' ∧ ∃ sn acc xf' n10 n14 n15, σ' = [some x, some y, some (.int (a : Int)), some (.int (b : Int)), some (.ref pk), n5, some (.ref pm), some (.ref fl), some (.int key), some (.ref lo), n10, some (.ref ln), n12, some (.bl sn), n14, n15] ∧ H' fl = some (.lst xf') ∧ Paired (r K H') xf' ((((keyS (keysL bs a b)).take i).flatMap (oneL bs ks a b)) ++ acc) ∧ acc.length ≤ j ∧ acc ++ foundL key nd sn (own.drop j) = foundL key nd (decide ((0 : Int) < (a : Int))) own, ?_, ?_, ?_, ?_⟩
    · exact ⟨fun _ _ _ h => h, _, [], xf, n10, n14, n15, rfl, e14 _ _ f13, by rw [List.append_nil]; exact pd_map g2 fun _ _ z => Rp.mono ((e712.trans e13).trans e14) z, Nat.zero_le _, rfl⟩
    · exact fun j σ' H' pv => ⟨kp_t pv.1 (e14 _ _ f13), sq_of (pv.1 _ _ nfo.symm (e14 _ _ o13))⟩
    · rintro j ⟨hh, o⟩ v σ' H15 hj hr' ⟨kp15, sn, acc, xf', n10, n14, n15, rfl, r1, r2, r3, r4⟩
      have hj300 : j < own.length := (List.getElem?_eq_some_iff.mp hj).1
      refine gb_pair hr' fun y1 y2 w1 w2 => ?_
      obtain rfl : y1 = .int hh := w1
      have h_need : r K H15 (.ref ln) (Ls.mk nd) := ⟨ln, xn, rfl, sq_of (kp15 _ _ nfn.symm (e14 _ _ t13)), pd_map t2' fun _ _ z => z⟩
      have hdrop : own.drop j = (hh, o) :: own.drop (j + 1) := by
        obtain ⟨hi, e⟩ := List.getElem?_eq_some_iff.mp hj
        rw [List.drop_eq_getElem_cons hi, e]
      rw [hdrop] at r4
      refine r_if (et_and (et_t (K := K) (er_inIL (er_var (a := hh) rfl rfl) (er_var rfl h_need))) fun _ => et_or (et_v (K := K) (er_var (a := sn) rfl rfl)) fun _ => et_t (K := K) (er_notN (o := o) nI (er_var rfl w2))) (fun hb H16 e16 => ?_) fun hb H16 e16 => ?_
      · have hf : foundL key nd sn ((hh, o) :: own.drop (j + 1)) = ⟨key, hh, o⟩ :: foundL key nd true (own.drop (j + 1)) := if_pos hb
        rw [hf] at r4
        have hlen := pd_len r2
        rw [List.length_append] at hlen
        have hlen2 := pd_len g2
        have r1' := e16 _ _ r1
        refine r_appQ ⟨xf', r1'⟩ (ev_var rfl) fun H17 e17 => er_tup3 (er_var (a := key) rfl rfl) (er_var (a := hh) rfl rfl) (er_var rfl (Rp.mono (e16.trans e17) w2)) H17 (Ex.refl _) _ fun v H18 e18 hv => ⟨fl, xf', v, rfl, rfl, e18 _ _ (e17 _ _ r1'), sz_lt (by omega), ?_⟩
        have et18 := ext_lst (u := .lst (xf' ++ [v])) (e18 _ _ (e17 _ _ r1'))
        dsimp only
        refine r_set (K := K) (er_b true) fun v19 H19 e19 hv19 => ?_
        obtain rfl : v19 = .bl true := hv19
        have kpA := (((kp15.trans (Ex.kp ((e16.trans e17).trans e18))).trans Kp.upd).trans (Ex.kp e19))
        refine ⟨kpA, true, acc ++ [⟨key, hh, o⟩], _, _, _, _, rfl, e19 _ _ upd_same, ?_, by simp; omega, by rw [List.append_assoc]; exact r4⟩
        rw [← List.append_assoc]
        refine pd_app (pd_map r2 fun _ _ z => Rp.mono e19 (RpT.t et18 (Rp.mono ((e16.trans e17).trans e18) z))) (pd_one (Rp.mono e19 (RpT.t et18 hv)))
      · have hf : foundL key nd sn ((hh, o) :: own.drop (j + 1)) = foundL key nd sn (own.drop (j + 1)) := if_neg (by rw [hb]; exact fun z => by cases z)
        rw [hf] at r4
        exact ⟨kp15.trans (Ex.kp e16), sn, acc, xf', _, _, _, rfl, e16 _ _ r1, pd_map r2 fun _ _ z => Rp.mono e16 z, by omega, r4⟩
    · rintro σ' H15 ⟨kp15, sn, acc, xf', n10, n14, n15, rfl, r1, r2, r3, r4⟩
      rw [List.drop_length] at r4
      have r4' : acc = foundL key nd (decide ((0 : Int) < (a : Int))) own := by rw [← r4]; exact (List.append_nil _).symm
      have hlen := pd_len r2
      rw [List.length_append] at hlen
      have hlen2 := pd_len g2
      refine ⟨(kp.trans (Ex.kp ((e712.trans e13).trans e14))).trans kp15, xf', _, _, _, _, _, _, _, _, rfl, r1, ?_, by omega⟩
      rw [flat_take hi, hone, ← r4']
      exact r2
  · rintro σ' H7 ⟨kp, xf, n8, n9, n10, n11, n12, n13, n14, n15, rfl, g1, g2, g3⟩
    rw [List.take_length] at g2
    exact r_ret (K := K) (er_tupOf (er_var rfl ⟨fl, xf, rfl, sq_of g1, g2⟩)) fun v H8 e8 hv => q v H8 ((Kp.ex (e05.trans e6) (fresh_back (e3.trans e4) nf) kp).trans e8) hv
end
end Js
/-! ### the law's own stores, on -/
namespace Js
open PySem PySem.Spec PyProof.Rows L2 Evl SX
open Rp (r)
def firstL (s : LSt) (n : Nat) : Int := match s.g[n]? with
  | some x => x
  | none => s.b.length
def withBL (s : LSt) (c : List PR) (n : Nat) : LSt := ⟨s.m, s.b ++ [c], s.k, s.w ++ [firstL s n], s.g.take n ++ [firstL s n], s.n + (runL (s.b ++ [c]) s.k (firstL s n).toNat s.b.length).length⟩
structure PreW (s : LSt) (c : List PR) (n : Nat) : Prop where
  f : 0 ≤ firstL s n
  r : PreR (s.b ++ [c]) s.k (firstL s n).toNat s.b.length
  g : s.g.length ≤ 100
  w : s.w.length ≤ 100
structure PreS (s : LSt) : Prop where
  g : s.g.length ≤ 100
  r : ∀ x ∈ shelfL s, (0 ≤ x.1 ∧ 0 ≤ x.2) ∧ PreR s.b s.k x.1.toNat x.2.toNat
def shownL (s : LSt) : List (List TR) := (shelfL s).map fun x => runL s.b s.k x.1.toNat x.2.toNat
section
variable {P : Program} {w : World} {K : PySem.W.Frag} {mg : PySem.Str → Option Value} {base : Heap}
theorem er_toN {i : Int} {te : TE} {σ : L2.St} {H : Hp} (h : Er K te σ H i) (hi : 0 ≤ i) : Er K te σ H i.toNat := by
  have e : i = ((i.toNat : Nat) : Int) := by omega
  rw [e] at h
  exact h
theorem ok_law_with_batch (T : Tx w K mg) : FnAt P w K mg base 2 (He.fAd K ("_law_with_batch", none)) (Pu3 K PreW withBL) := by
  have S : FnScope ["_law_state", "_law_batch_here", "_law_stay_here", "_law_most", "_law_batches", "_law_kept", "_law_way", "_law_begins", "_law_wrote", "_law_hour", "_law_begin", "_law_later"] ["_law_state", "_law_batch_here", "_law_stay_here"] (defScope s_law_with_batch) := ⟨rfl, rfl, rfl, by decide +kernel, rfl, by decide +kernel, by decide +kernel⟩
  have G_law_run := ok_law_run (P := P) (base := base) T
  refine mk0 1 T.f_law_with_batch S (fun _ _ _ _ _ _ us hl => match us, hl with | [_, _, _], _ => rfl) (fun vs H Q E h => len3 h) fun cdv A outer s H vs Q E hr h => ?_
  obtain ⟨x, y, z, s, c, n, rfl, h_state, h_batch, h_stay, hp, q⟩ := h
  obtain rfl : z = .int (n : Int) := h_stay
  refine ⟨_, pss_cons (ps_asg (pv 0) (pg_tup rfl (pgs_cons (pg_name (i := 3) S.nd rfl (Or.inl rfl)) (pgs_cons (pg_name (i := 4) S.nd rfl (Or.inl rfl)) (pgs_cons (pg_name (i := 5) S.nd rfl (Or.inl rfl)) (pgs_cons (pg_name (i := 6) S.nd rfl (Or.inl rfl)) (pgs_cons (pg_name (i := 7) S.nd rfl (Or.inl rfl)) (pgs_cons (pg_name (i := 8) S.nd rfl (Or.inl rfl)) pgs_nil))))))))
      (pss_cons (ps_set (i := 9) S.nd rfl (Or.inl rfl) (pe_callB (lenK (K := K) rfl) rfl T.z_len (by decide +kernel) (pa_cons (pv 4) pa_nil)))
      (pss_cons (ps_set (i := 10) S.nd rfl (Or.inl rfl) (pe_ifExp (pt_cmpR op_lt (pv 2) (pe_callB (lenK (K := K) rfl) rfl T.z_len (by decide +kernel) (pa_cons (pv 7) pa_nil)) (nomark _)) (pe_ix (ixT (K := K) rfl) (pv 7) (pv 2) (fun _ _ => rfl)) (pv 9)))
      (pss_cons (ps_set (i := 11) S.nd rfl (Or.inl rfl) (pe_op (catT (K := K) rfl) (pv 4) (pe_tup (pa_cons (pv 1) pa_nil))))
      (pss_cons (ps_set (i := 8) S.nd rfl (Or.inl rfl) (pe_op op_add (pv 8) (pe_callB (lenK (K := K) rfl) rfl T.z_len (by decide +kernel) (pa_cons (pe_f G_law_run T.g_law_run hr (by decide) passN (pa_cons (pv 11) (pa_cons (pv 5) (pa_cons (pv 10) (pa_cons (pv 9) pa_nil))))) pa_nil))))
      (pss_one (ps_ret (pe_tup (pa_cons (pv 3) (pa_cons (pv 11) (pa_cons (pv 5) (pa_cons (pe_op (catT (K := K) rfl) (pv 6) (pe_tup (pa_cons (pv 10) pa_nil))) (pa_cons (pe_op (catT (K := K) rfl) (pe_slice (slT (K := K) rfl) (pv 7) po_none (po_some (pv 2))) (pe_tup (pa_cons (pv 10) pa_nil))) (pa_cons (pv 8) pa_nil))))))))))))), ?_⟩
  have hb := hp.r.l
  have hk := hp.r.k
  have hg := hp.g
  have hw := hp.w
  rw [List.length_append] at hb
  refine r_asg6 (er_var rfl h_state) fun vb vk vw vg H1 e1 g1 g2 g3 g4 => ?_
  refine r_set (K := K) (er_lenT (er_var rfl g1)) fun v2 H2 e2 hv2 => ?_
  obtain rfl : v2 = .int (s.b.length : Int) := hv2
  refine r_set (K := K) (er_if (a := firstL s n) (et_t (K := K) (er_IB (g := fun i j => decide (i < j)) (er_var (a := (n : Int)) rfl rfl) (er_lenT (er_var rfl (Rp.mono e2 g4))))) (fun hc => ?_) fun hc => ?_) fun v3 H3 e3 hv3 => ?_
  · have hn : n < s.g.length := by have := of_decide_eq_true hc; omega
    have hat := List.getElem?_eq_getElem hn
    rw [show firstL s n = s.g[n] by unfold firstL; rw [hat]]
    exact er_ixT (er_var rfl (Rp.mono e2 g4)) (er_var (a := (n : Int)) rfl rfl) rfl hat
  · have hn : ¬ n < s.g.length := by have := of_decide_eq_false hc; omega
    rw [show firstL s n = s.b.length by unfold firstL; rw [List.getElem?_eq_none (by omega)]]
    exact er_var rfl rfl
  obtain rfl : v3 = .int (firstL s n) := hv3
  have e13 := e2.trans e3
  refine r_set (K := K) (er_catT (er_var rfl (Rp.mono e13 g1)) (er_tup1 (er_var rfl (Rp.mono (e1.trans e13) h_batch))) (sz_of (by simp; omega))) fun v4 H4 e4 h_later => ?_
  have e14 := e13.trans e4
  refine r_set (K := K) (er_II (g := fun i j => i + j) (er_var (a := s.n) rfl rfl) (er_lenT (er_f4 (er_var rfl h_later) (er_var rfl (Rp.mono e14 g2)) (er_toN (er_var (a := firstL s n) rfl rfl) hp.f) (er_var (a := s.b.length) rfl rfl) hp.r))) fun v5 H5 e5 hv5 => ?_
  obtain rfl : v5 = .int (s.n + (runL (s.b ++ [c]) s.k (firstL s n).toNat s.b.length).length) := hv5
  have e15 := e14.trans e5
  exact r_ret (K := K) (er_l6 (er_var (a := s.m) rfl rfl) (er_var rfl (Rp.mono e5 h_later)) (er_var rfl (Rp.mono e15 g2)) (er_catT (er_var rfl (Rp.mono e15 g3)) (er_tup1 (er_var (a := firstL s n) rfl rfl)) (sz_of (by simp; omega))) (er_catT (er_slT (er_var rfl (Rp.mono e15 g4)) (er_var (a := n) rfl rfl)) (er_tup1 (er_var (a := firstL s n) rfl rfl)) (sz_of (by rw [List.length_take]; simp; omega))) (er_var (a := s.n + (runL (s.b ++ [c]) s.k (firstL s n).toNat s.b.length).length) rfl rfl)) fun v6 H6 e6 hv6 => q v6 H6 ((e1.trans e15).trans e6) hv6
theorem ok_law_shown (T : Tx w K mg) : FnAt P w K mg base 3 (He.fAd K ("_law_shown", none)) (Pl1 K PreS shownL) := by
  have S : FnScope ["_law_state", "_law_first", "_law_last"] ["_law_state"] (defScope s_law_shown) := ⟨rfl, rfl, rfl, by decide +kernel, rfl, by decide +kernel, by decide +kernel⟩
  have G_law_run := ok_law_run (P := P) (base := base) T
  have G_law_shelf := ok_law_shelf (P := P) (base := base) T
  refine mk0 2 T.f_law_shown S (fun _ _ _ _ _ _ us hl => match us, hl with | [_], _ => rfl) (fun vs H Q E h => lenl1 h) fun cdv A outer s H vs Q E hr h => ?_
  obtain ⟨x, s, rfl, h_state, hp, q⟩ := h
  refine ⟨_, pss_one (ps_ret (pe_lc (own := [("_law_first", 1), ("_law_last", 2)]) (g := gTup K 2 (gCons (gName 1) (gCons (gName 2) gNil))) (tt := tYes) rfl S.nd (pi_tup (pe_f G_law_shelf T.g_law_shelf hr (by decide) passN (pa_cons (pv 0) pa_nil))) (blkOk_by (N := ["_law_state", "_law_first", "_law_last"]) (sc := defScope s_law_shown) (own := [("_law_first", 1), ("_law_last", 2)]) (by decide +kernel)) (fun _ _ _ _ _ => pg_tup rfl (pgs_cons (pg_name (i := 1) S.nd rfl (Or.inl rfl)) (pgs_cons (pg_name (i := 2) S.nd rfl (Or.inl rfl)) pgs_nil))) (fun _ _ _ _ _ => pts_nil) (fun _ _ _ _ _ => pe_f G_law_run T.g_law_run hr (by decide) passN (pa_cons (pe_ix (ixT (K := K) rfl) (pv 0) pe_int (fun _ _ => rfl)) (pa_cons (pe_ix (ixT (K := K) rfl) (pv 0) pe_int (fun _ _ => rfl)) (pa_cons (pv 1) (pa_cons (pv 2) pa_nil))))))), ?_⟩
  have hg := hp.g
  have hsl : (shelfL s).length ≤ 101 := by
    unfold shelfL
    split
    · simp
    · unfold runsL
      rw [List.length_map, List.length_zip]
      omega
  refine el_lcY (f := fun x : Int × Int => runL s.b s.k x.1.toNat x.2.toNat) (wr_tup (er_f1 (er_var rfl h_state) (by show s.g.length < 1000; omega))) (by omega) (fun a v H1 ha e1 hv Q q => ?_) H (Ex.refl _) _ fun p xs H1 e1 hn h1 h2 => q p xs H1 e1 hn h1 h2
  obtain ⟨a1, a2⟩ := a
  have hpr := hp.r _ ha
  exact gb_pair hv fun y1 y2 g1 g2 => q _ _ (Ex.refl _) rfl (er_f4 (er_lB (er_var rfl (Rp.mono e1 h_state))) (er_lK (er_var rfl (Rp.mono e1 h_state))) (er_toN (er_var (a := a1) rfl g1) hpr.1.1) (er_toN (er_var (a := a2) rfl g2) hpr.1.2) hpr.2)
theorem r_draw {E : L2.St → XK} {σ : L2.St} {H : Hp} {Q : VK} {h c : Addr} {cs : List Int} {m : Int} {ta tb : TE} (hd : HandR K H h c cs) (ha : Ev ta σ H (.ref h)) (hb : Er K tb σ H m) (hm : 1 ≤ m ∧ m < 1000) (q : ∀ d H', 0 ≤ d → d < m → Kp h H H' → ExT H H' → HandR K H' h c cs → Q (.int d) H') : tF (spDraw K) E (tCons ta (tCons tb tNil)) σ H Q :=
  ha H (Ex.refl _) _ fun H1 e1 => hb.evI H1 e1 _ fun H2 e2 => ⟨h, c, cs, m, rfl, hm.1, hm.2, hd.ex (e1.trans e2), fun d H' h1 h2 kp hh => by
    have k2 : Kp h H H' := (Ex.kp (e1.trans e2)).trans kp
    obtain ⟨_, _, _, _, _, hl, _⟩ := hd
    exact q d H' h1 h2 k2 (kp_t k2 hl) hh⟩
def spStay (K : PySem.W.Frag) : Sp := fun vs H Q _ => ∃ (h c : Addr) (cs : List Int) (v : V) (s : LSt), vs = [.ref h, v] ∧ HandR K H h c cs ∧ r K H v s ∧ (1 ≤ s.m ∧ s.m < 1000) ∧ ∀ (d : Nat) H', d ≤ s.g.length → (d : Int) < s.m → Kp h H H' → ExT H H' → HandR K H' h c cs → Q (.int (d : Int)) H'
theorem ok_law_stay (T : Tx w K mg) : FnAt P w K mg base 2 (He.fAd K ("_law_stay", none)) (spStay K) := by
  have S : FnScope ["_law_hand_here", "_law_state"] ["_law_hand_here", "_law_state"] (defScope s_law_stay) := ⟨rfl, rfl, rfl, by decide +kernel, rfl, by decide +kernel, by decide +kernel⟩
  have G_law_draw := ok_law_draw (P := P) (base := base) T
  refine mk0 1 T.f_law_stay S (fun _ _ _ _ _ _ us hl => match us, hl with | [_, _], _ => rfl) (fun vs H Q E h => by obtain ⟨_, _, _, _, _, rfl, _⟩ := h; rfl) fun cdv A outer s H vs Q E hr h => ?_
  obtain ⟨h, c, cs, v, s, rfl, hd, h_state, ⟨hm1, hm2⟩, q⟩ := h
  refine ⟨_, pss_one (ps_ret (pe_f G_law_draw T.g_law_draw hr (by decide) passN (pa_cons (pv 0) (pa_cons (pe_callB (call_min2 rfl) rfl T.z_min (by decide +kernel) (pa_cons (pe_op op_add (pe_callB (lenK (K := K) rfl) rfl T.z_len (by decide +kernel) (pa_cons (pe_ix (ixT (K := K) rfl) (pv 1) pe_int (fun _ _ => rfl)) pa_nil)) pe_int) (pa_cons (pe_ix (ixT (K := K) rfl) (pv 1) pe_int (fun _ _ => rfl)) pa_nil))) pa_nil)))), ?_⟩
  refine r_draw hd (ev_var rfl) (er_min (er_II (g := fun i j => i + j) (er_lenT (er_lG (er_var rfl h_state))) (er_i 1)) (er_lM (er_var rfl h_state))) (by split <;> omega) fun d H' h1 h2 kp et hh => ?_
  have := q d.toNat H' (by split at h2 <;> omega) (by split at h2 <;> omega) kp et hh
  rw [show ((d.toNat : Nat) : Int) = d by omega] at this
  exact this
theorem join_pw {ps : List PR} (hl : ps.length ≤ 1000) (hok : ∀ x ∈ ps, okPair x) : ((ps.map pwS).map (·.length)).sum + (ps.map pwS).length * ((" " : PySem.Str)).length ≤ 16777216 := by
  have := sum_le (l := (ps.map pwS).map (·.length)) (m := 13) fun n hm => by
    obtain ⟨z, hz, rfl⟩ := List.mem_map.mp hm
    obtain ⟨y, hy, rfl⟩ := List.mem_map.mp hz
    exact pwS_len (hok y hy)
  rw [List.length_map, List.length_map] at this
  rw [List.length_map, show ((" " : PySem.Str)).length = 1 by decide +kernel]
  omega
end
end Js
/-! ### the law's texts, sights -/
namespace Js
open PySem PySem.Spec PyProof.Rows L2 Evl SX
open Rp (r)
theorem cat_assoc (x y z : PySem.Str) : x ++ (y ++ z) = (x ++ y) ++ z := by
  rw [← S_tl x, ← S_tl y, ← S_tl z, S_cat, S_cat, S_cat, S_cat, List.append_assoc]
def sightC (al : List (Int × Option Int)) (c : List PR) : List (Int × Option Int) := c.foldl (fun a x => if x.2.isNone then dropA (putA a x.1 x.2) x.1 else putA a x.1 x.2) al
def sightL (bs : List (List PR)) : List (Int × Option Int) := bs.foldl sightC []
section
variable {P : Program} {w : World} {K : PySem.W.Frag} {mg : PySem.Str → Option Value} {base : Heap}
/-- a word of a batch -/
theorem er_word {k : Int} {o : Option Int} {ta tb : TE} {σ : L2.St} {H : Hp} (hk : Er K ta σ H k) (hv : Er K tb σ H o) (h : okPair (k, o)) :
    Er K (let s := fun t => tCB (fun xs H Q => ∃ i, xs = [.int i] ∧ i.natAbs.log2 < 1920 ∧ Q (.str (toString i)) H) (tCons t tNil); let cat := tOp (fun x y H Q => ∃ i j, x = .str i ∧ y = .str j ∧ i.length + j.length ≤ sizeLine ∧ Q (.str (i ++ j)) H);
      cat (s ta) (tIf (tTest (tOp (fun x y H Q => y = .non ∧ Q (.bl (decide (x = .non))) H) tb (tC .non))) (tC (.str "-")) (cat (tC (.str "=")) (s tb)))) σ H (pwS (k, o)) := by
  obtain ⟨h1, h2, h3⟩ := h
  have lk := strI_len (i := k) (by simp at h1; omega) (by simp at h2; omega)
  have l1 : (("=" : PySem.Str)).length = 1 := by decide +kernel
  have l2 : (("-" : PySem.Str)).length = 1 := by decide +kernel
  have kk := er_str' hk (by simp at h1; omega) (by simp at h2; omega)
  cases o with
  | none =>
    refine er_catS (i := strI k) (j := "-") kk (er_if (k := true) (et_t (K := K) (er_isN (o := none) nI hv)) (fun _ => er_s _) fun z => by cases z) ?_
    rw [l2]
    exact sz_of (by omega)
  | some v =>
    have b1 := (h3 v rfl).1
    have b2 := (h3 v rfl).2
    have lv := strI_len (i := v) b1 (by omega)
    rw [show pwS (k, some v) = strI k ++ ("=" ++ strI v) from (cat_assoc _ _ _).symm]
    refine er_catS (i := strI k) (j := "=" ++ strI v) kk (er_if (k := false) (et_t (K := K) (er_isN (o := some v) nI hv)) (fun z => by cases z) fun _ => er_catS (er_s _) (er_str' (i := v) hv b1 (by omega)) ?_) ?_
    · rw [l1]
      exact sz_of (by omega)
    · rw [len_cat, l1]
      exact sz_of (by omega)
theorem r_btext {ps : List PR} {ta : TE} {σ : L2.St} {H : Hp} {v : V} (hv : r K H v (Ls.mk (ps.map pwS))) (h : Ev ta σ H v) (hl : ps.length ≤ 1000) (hok : ∀ x ∈ ps, okPair x) :
    Er K (tIf (tTest (tOp (rI0 fun i j => .bl (decide (j < i))) (tCB (rLenS K) (tCons ta tNil)) (tC (.int 0)))) (tM1 (rJoin K) (tC (.str " ")) ta) (tC (.str "-"))) σ H (textL pwS "-" " " ps) := by
  have hw := er_ev h hv
  refine er_if (k := !decide (ps = [])) (et_t (K := K) (Er.is (er_IB (g := fun i j => decide (j < i)) (er_lenL hw) (er_i 0)) (by cases ps <;> simp))) (fun hn => ?_) fun hn => ?_
  · have hn' : ¬ ps = [] := by simpa using hn
    rw [show textL pwS "-" " " ps = Txt.join " " (ps.map pwS) from if_neg hn']
    exact er_join (z := " ") (er_s _) hw (join_pw hl hok)
  · have hn' : ps = [] := by simpa using hn
    rw [show textL pwS "-" " " ps = "-" from if_pos hn']
    exact er_s _
theorem ok_law_batch_text (T : Tx w K mg) : FnAt P w K mg base 1 (He.fAd K ("_law_batch_text", none)) (Pu1 K (fun (ps : List PR) => ps.length ≤ 1000 ∧ ∀ x ∈ ps, okPair x) fun ps => textL pwS "-" " " ps) := by
  have S : FnScope ["_law_batch_here", "_law_words", "_law_key", "_law_value"] ["_law_batch_here"] (defScope s_law_batch_text) := ⟨rfl, rfl, rfl, by decide +kernel, rfl, by decide +kernel, by decide +kernel⟩
  refine mk0 0 T.f_law_batch_text S (fun _ _ _ _ _ _ us hl => match us, hl with | [_], _ => rfl) (fun vs H Q E h => len1 h) fun cdv A outer s H vs Q E hr h => ?_
  obtain ⟨x, ps, rfl, h_batch, ⟨hl, hok⟩, q⟩ := h
  refine ⟨_, pss_cons (ps_setLc (i := 1) (own := [("_law_key", 2), ("_law_value", 3)]) (g := gTup K 2 (gCons (gName 2) (gCons (gName 3) gNil))) (tt := tYes) rfl S.nd rfl rfl (sw_true rfl rfl rfl (by decide +kernel)) (pi_tup (pv 0)) (blkOk_by (N := ["_law_batch_here", "_law_words", "_law_key", "_law_value"]) (sc := defScope s_law_batch_text) (own := [("_law_key", 2), ("_law_value", 3)]) (by decide +kernel)) (fun _ _ _ _ _ => pg_tup rfl (pgs_cons (pg_name (i := 2) S.nd rfl (Or.inl rfl)) (pgs_cons (pg_name (i := 3) S.nd rfl (Or.inl rfl)) pgs_nil))) (fun _ _ _ _ _ => pts_nil) (fun _ _ _ _ _ => pe_op op_add_str (pe_callTy call_str_int rfl T.z_str (by decide +kernel) (pa_cons (pv 2) pa_nil)) (pe_ifExp (pt_cmpR op_isN (pv 3) pe_non (nomark _)) pe_str (pe_op op_add_str pe_str (pe_callTy call_str_int rfl T.z_str (by decide +kernel) (pa_cons (pv 3) pa_nil))))))
      (pss_one (ps_ret (pe_ifExp (pt_cmpR op_gt (pe_callB (lenK (K := K) rfl) rfl T.z_len (by decide +kernel) (pa_cons (pv 1) pa_nil)) pe_int (nomark _)) (joinK (K := K) rfl pe_str (pv 1)) pe_str))), ?_⟩
  refine r_setL (K := K) (as := ps.map pwS) (el_lcY (f := pwS) (wr_tup (er_var rfl h_batch)) (by omega) fun d v H1 hd e1 hv Q q => ?_) fun p xs H1 e1 hn h1 h2 => ?_
  · have hk := hok d hd
    obtain ⟨d1, d2⟩ := d
    exact gb_pair hv fun y1 y2 g1 g2 => q _ _ (Ex.refl _) rfl (er_word (er_var (a := d1) rfl g1) (er_var (a := d2) rfl g2) hk)
  · exact r_ret (K := K) (r_btext ⟨p, xs, rfl, sq_of h1, h2⟩ (ev_var rfl) hl hok) fun v H2 e2 hv => q v H2 (e1.trans e2) hv
theorem ok_law_batch_text_L (T : Tx w K mg) : FnAt P w K mg base 1 (He.fAd K ("_law_batch_text", none)) (Pu1 K (fun (ps : Ls PR) => ps.l.length ≤ 1000 ∧ ∀ x ∈ ps.l, okPair x) fun ps => textL pwS "-" " " ps.l) := by
  have S : FnScope ["_law_batch_here", "_law_words", "_law_key", "_law_value"] ["_law_batch_here"] (defScope s_law_batch_text) := ⟨rfl, rfl, rfl, by decide +kernel, rfl, by decide +kernel, by decide +kernel⟩
  refine mk0 0 T.f_law_batch_text S (fun _ _ _ _ _ _ us hl => match us, hl with | [_], _ => rfl) (fun vs H Q E h => len1 h) fun cdv A outer s H vs Q E hr h => ?_
  obtain ⟨x, ⟨ps⟩, rfl, h_batch, ⟨hl, hok⟩, q⟩ := h
  dsimp only at hl hok q
  refine ⟨_, pss_cons (ps_setLc (i := 1) (own := [("_law_key", 2), ("_law_value", 3)]) (g := gTup K 2 (gCons (gName 2) (gCons (gName 3) gNil))) (tt := tYes) rfl S.nd rfl rfl (sw_true rfl rfl rfl (by decide +kernel)) (pi_list (pv 0)) (blkOk_by (N := ["_law_batch_here", "_law_words", "_law_key", "_law_value"]) (sc := defScope s_law_batch_text) (own := [("_law_key", 2), ("_law_value", 3)]) (by decide +kernel)) (fun _ _ _ _ _ => pg_tup rfl (pgs_cons (pg_name (i := 2) S.nd rfl (Or.inl rfl)) (pgs_cons (pg_name (i := 3) S.nd rfl (Or.inl rfl)) pgs_nil))) (fun _ _ _ _ _ => pts_nil) (fun _ _ _ _ _ => pe_op op_add_str (pe_callTy call_str_int rfl T.z_str (by decide +kernel) (pa_cons (pv 2) pa_nil)) (pe_ifExp (pt_cmpR op_isN (pv 3) pe_non (nomark _)) pe_str (pe_op op_add_str pe_str (pe_callTy call_str_int rfl T.z_str (by decide +kernel) (pa_cons (pv 3) pa_nil))))))
      (pss_one (ps_ret (pe_ifExp (pt_cmpR op_gt (pe_callB (lenK (K := K) rfl) rfl T.z_len (by decide +kernel) (pa_cons (pv 1) pa_nil)) pe_int (nomark _)) (joinK (K := K) rfl pe_str (pv 1)) pe_str))), ?_⟩
  refine r_setL (K := K) (as := ps.map pwS) (el_lcY (f := pwS) (wr_list (er_var rfl h_batch)) (by omega) fun d v H1 hd e1 hv Q q => ?_) fun p xs H1 e1 hn h1 h2 => ?_
  · have hk := hok d hd
    obtain ⟨d1, d2⟩ := d
    exact gb_pair hv fun y1 y2 g1 g2 => q _ _ (Ex.refl _) rfl (er_word (er_var (a := d1) rfl g1) (er_var (a := d2) rfl g2) hk)
  · exact r_ret (K := K) (r_btext ⟨p, xs, rfl, sq_of h1, h2⟩ (ev_var rfl) hl hok) fun v H2 e2 hv => q v H2 (e1.trans e2) hv
def spSight (K : PySem.W.Frag) : Sp := fun vs H Q _ => ∃ (x : V) (bs : List (List PR)) (n : Nat), vs = [x, .int ((n : Int) - 1)] ∧ r K H x bs ∧ (bs.length ≤ n ∧ n ≤ 100 ∧ ∀ c ∈ bs, c.length ≤ 10) ∧ ∀ d kvs H', Ex H H' → H d = none → H' d = some (.dK kvs) → DkR (FO K) Sum.inl kvs (sightL bs) → Q (.ref d) H'
theorem sightC_len (c : List PR) : ∀ al : List (Int × Option Int), (sightC al c).length ≤ al.length + c.length := by
  induction c with
  | nil => exact fun al => Nat.le_refl _
  | cons x c ih =>
    intro al
    have e : sightC al (x :: c) = sightC (if x.2.isNone then dropA (putA al x.1 x.2) x.1 else putA al x.1 x.2) c := rfl
    rw [e]
    refine Nat.le_trans (ih _) ?_
    have h1 := putA_len (al := al) (k := x.1) (b := x.2)
    have h2 : (dropA (putA al x.1 x.2) x.1).length ≤ (putA al x.1 x.2).length := List.length_filter_le _ _
    rw [List.length_cons]
    split <;> omega
theorem ok_law_sight (T : Tx w K mg) : FnAt P w K mg base 1 (He.fAd K ("_law_sight", none)) (spSight K) := by
  have S : FnScope ["_law_batches", "_law_hour", "_law_seen", "_law_batch_here", "_law_key", "_law_value"] ["_law_batches", "_law_hour"] (defScope s_law_sight) := ⟨rfl, rfl, rfl, by decide +kernel, rfl, by decide +kernel, by decide +kernel⟩
  refine mk0 0 T.f_law_sight S (fun _ _ _ _ _ _ us hl => match us, hl with | [_, _], _ => rfl) (fun vs H Q E h => by obtain ⟨_, _, _, rfl, _⟩ := h; rfl) fun cdv A outer s H vs Q E hr h => ?_
  obtain ⟨x, bs, n, rfl, h_batches, ⟨hn1, hn2, hc10⟩, q⟩ := h
  refine ⟨_, pss_cons (ps_set (i := 2) S.nd rfl (Or.inl rfl) pe_dnewK)
      (pss_cons (ps_for PassesOwn.never rfl (pi_tup (pe_slice (slT (K := K) rfl) (pv 0) po_none (po_some (pe_op op_add (pv 1) pe_int)))) (pg_name (i := 3) S.nd rfl (Or.inl rfl))
        (pss_one (ps_for PassesOwn.never rfl (pi_tup (pv 3)) (pg_tup rfl (pgs_cons (pg_name (i := 4) S.nd rfl (Or.inl rfl)) (pgs_cons (pg_name (i := 5) S.nd rfl (Or.inl rfl)) pgs_nil)))
          (pss_cons (ps_dput (hu_of hr) (pv 2) (pv 4) (pv 5) rfl)
          (pss_one (ps_if (pt_cmpR op_isN (pv 5) pe_non (nomark _))
            (pss_one (ps_expr (pe_dpop1 (pv 2) (pv 4) ⟨rfl, rfl, rfl, rfl⟩)))
            (pss_nil)))))))
      (pss_one (ps_ret (pv 2)))), ?_⟩
  intro d nd
  have e0 : Ex H (upd H d (.dK [])) := Ex.new nd
  have hbs : bs.take n = bs := List.take_of_length_le hn1
  have hslice : Er K (tSl (rSlA K) (tVar 0) tNoPart (tPart (tOp (rI0 fun i j => .int (i + j)) (tVar 1) (tC (.int 1))))) [some x, some (.int ((n : Int) - 1)), some (.ref d), none, none, none] (upd H d (.dK [])) bs := by
    have := er_slT (n := n) (er_var (K := K) (σ := [some x, some (.int ((n : Int) - 1)), some (.ref d), none, none, none]) (i := 0) rfl (Rp.mono e0 h_batches)) (Er.nat ((er_II (g := fun i j => i + j) (er_var (a := (n : Int) - 1) (i := 1) rfl rfl) (er_i 1)).is (by omega)))
    rw [hbs] at this
    exact this
  refine r_forT (K := K) hslice fun H2 e2 => ⟨fun i σ' H' => Ex H H' ∧ ExT H2 H' ∧ (∃ kvs, H' d = some (.dK kvs) ∧ DkR (FO K) Sum.inl kvs (sightL (bs.take i))) ∧ (sightL (bs.take i)).length ≤ 10 * i ∧ ∃ n3 n4 n5, σ' = [some x, some (.int ((n : Int) - 1)), some (.ref d), n3, n4, n5], ?_, ?_, ?_, ?_⟩
  · exact ⟨e0.trans e2, ExT.refl _, ⟨[], e2 _ _ upd_same, .nil⟩, Nat.zero_le _, none, none, none, rfl⟩
  · exact fun i σ' H' pv => pv.2.1
  · rintro i c v σ' H3 hi hr' ⟨e3, et3, ⟨kvs, k1, k2⟩, hlen, n3, n4, n5, rfl⟩
    have hcl := hc10 c (List.mem_of_getElem? hi)
    have hi100 : i < 100 := by
      have := (List.getElem?_eq_some_iff.mp hi).1
      omega
    refine gb_name ?_
    refine r_forT (K := K) (er_var rfl hr') fun H4 e4 => ⟨fun j σ' H' => Ex H H' ∧ ExT H4 H' ∧ (∃ kvs, H' d = some (.dK kvs) ∧ DkR (FO K) Sum.inl kvs (sightC (sightL (bs.take i)) (c.take j))) ∧ (sightC (sightL (bs.take i)) (c.take j)).length ≤ 10 * i + j ∧ ∃ n4 n5, σ' = [some x, some (.int ((n : Int) - 1)), some (.ref d), some v, n4, n5], ?_, ?_, ?_, ?_⟩
    · exact ⟨e3.trans e4, ExT.refl _, ⟨kvs, e4 _ _ k1, k2⟩, hlen, n4, n5, rfl⟩
    · exact fun j σ' H' pv => pv.2.1
    · rintro j ⟨k, o⟩ u σ' H5 hj hu ⟨e5, et5, ⟨kvs, k1, k2⟩, hlen, n4, n5, rfl⟩
      have hj2 : j < c.length := (List.getElem?_eq_some_iff.mp hj).1
      refine gb_pair hu fun y1 y2 w1 w2 => ?_
      obtain rfl : y1 = .int k := w1
      have hkl : kvs.length < 100000 := by
        rw [pd_len k2]
        omega
      have ef : sightC (sightL (bs.take i)) (c.take (j + 1)) = if o.isNone then dropA (putA (sightC (sightL (bs.take i)) (c.take j)) k o) k else putA (sightC (sightL (bs.take i)) (c.take j)) k o := take_fold (f := fun a (x : PR) => if x.2.isNone then dropA (putA a x.1 x.2) x.1 else putA a x.1 x.2) hj
      have hl2 : (sightC (sightL (bs.take i)) (c.take (j + 1))).length ≤ 10 * i + (j + 1) := by
        rw [ef]
        have h1 := putA_len (al := sightC (sightL (bs.take i)) (c.take j)) (k := k) (b := o)
        have h2 : (dropA (putA (sightC (sightL (bs.take i)) (c.take j)) k o) k).length ≤ (putA (sightC (sightL (bs.take i)) (c.take j)) k o).length := List.length_filter_le _ _
        split <;> omega
      refine r_dputI k1 hkl (ev_var rfl) (ev_var rfl) (ev_var rfl) fun H6 e6 => ?_
      have k3 := dk_put inl_inj k2 k (fo_of w2)
      have eA : Ex H (upd H6 d (.dK (putK kvs (Sum.inl k) y2))) := Ex.mut (e5.trans e6) nd
      have etA : ExT H4 (upd H6 d (.dK (putK kvs (Sum.inl k) y2))) := (et5.trans (Js.Ex.t e6)).trans (ext_dK (e6 _ _ k1))
      refine r_if (et_t (K := K) (er_isN (o := o) nI (er_var rfl (fo_of w2 _)))) (fun hb H7 e7 => ?_) fun hb H7 e7 => ?_
      · have hv : ∃ v, valV (putK kvs (Sum.inl k) y2) (Sum.inl k) = some v := by
          rcases dk_val inl_inj k3 k with ⟨_, z2⟩ | ⟨v', b, z1, _⟩
          · rw [lookA_put, if_pos rfl] at z2
            cases z2
          · exact ⟨v', z1⟩
        obtain ⟨v', hv⟩ := hv
        refine r_dpop (k := Sum.inl k) (e7 _ _ upd_same) (ev_var rfl) (fun H2 e2 => ev_var rfl) rfl hv fun H8 e8 => ?_
        refine ⟨Ex.mut ((eA.trans e7).trans e8) nd, (etA.trans (Js.Ex.t (e7.trans e8))).trans (ext_dK (e8 _ _ (e7 _ _ upd_same))), ⟨_, upd_same, ?_⟩, hl2, _, _, rfl⟩
        rw [ef, if_pos hb]
        exact dk_drop inl_inj k3 k
      · refine ⟨eA.trans e7, etA.trans (Js.Ex.t e7), ⟨_, e7 _ _ upd_same, ?_⟩, hl2, _, _, rfl⟩
        rw [ef, if_neg (by rw [hb]; exact fun z => by cases z)]
        exact k3
    · rintro σ' H5 ⟨e5, et5, ⟨kvs, k1, k2⟩, hlen, n4, n5, rfl⟩
      rw [List.take_length] at k2 hlen
      have ef : sightL (bs.take (i + 1)) = sightC (sightL (bs.take i)) c := take_fold hi
      refine ⟨e5, (et3.trans (Js.Ex.t e4)).trans et5, ⟨kvs, k1, by rw [ef]; exact k2⟩, ?_, _, _, _, rfl⟩
      rw [ef]
      omega
  · rintro σ' H3 ⟨e3, et3, ⟨kvs, k1, k2⟩, hlen, n3, n4, n5, rfl⟩
    rw [List.take_length] at k2
    exact ⟨.ref d, rfl, q d kvs H3 e3 nd k1 k2⟩
end
end Js
/-! ### drawn batches -/
namespace Js
open PySem PySem.Spec PyProof.Rows L2 Evl SX
open Rp (r)
structure BatOk (b : List PR) : Prop where
  l : b.length ≤ 4
  a : (b.map (·.1)).Pairwise (· < ·)
  k : ∀ x ∈ b, (0 : Int) ≤ x.1 ∧ x.1 < 8
  v : ∀ x ∈ b, ∀ i, x.2 = some i → (-3 : Int) ≤ i ∧ i ≤ 5
def spBatch (K : PySem.W.Frag) : Sp := fun vs H Q _ => ∃ (h c : Addr) (cs : List Int), vs = [.ref h, .int 8, .int 4] ∧ HandR K H h c cs ∧ ∀ v (b : List PR) H', Kp h H H' → ExT H H' → HandR K H' h c cs → r K H' v b → BatOk b → Q v H'
theorem nodup_le {l m : List Int} (h : l.Nodup) (hs : ∀ k ∈ l, k ∈ m) : l.length ≤ m.length := by
  induction l generalizing m with
  | nil => exact Nat.zero_le _
  | cons a l ih =>
    obtain ⟨h1, h2⟩ := List.nodup_cons.mp h
    have ha := hs a (List.mem_cons_self ..)
    have := ih (m := m.erase a) h2 fun k hk => (List.mem_erase_of_ne (fun e => h1 (by rw [← e]; exact hk))).mpr (hs k (List.mem_cons_of_mem _ hk))
    rw [List.length_erase_of_mem ha] at this
    have : 0 < m.length := List.length_pos_of_mem ha
    rw [List.length_cons]
    omega
section
variable {P : Program} {w : World} {K : PySem.W.Frag} {mg : PySem.Str → Option Value} {base : Heap}
theorem HandR.at_ {H : Hp} {h c : Addr} {cs : List Int} (d : HandR K H h c cs) : ∃ xs, H h = some (.lst xs) := by
  obtain ⟨_, _, _, _, _, z, _⟩ := d
  exact ⟨_, z⟩
theorem sql_kpL {h p : Addr} {xs : List V} {H H' : Hp} (k : Kp h H H') (ne : p ≠ h) (hp : H p = some (.lst xs)) : SqL K H' p xs := sq_of (k _ _ ne hp)
theorem HandR.sep {H : Hp} {h c D : Addr} {cs : List Int} (d : HandR K H h c cs) (nD : H D = none) : D ≠ c ∨ ∀ H', SqL K H' c (cs.map V.int) := by
  rcases d.1 with (z | ⟨o, z⟩) | z
  · exact .inl fun e => by rw [← e, nD] at z; cases z
  · exact .inl fun e => by rw [← e, nD] at z; cases z
  · exact .inr fun H' => .inr z
theorem HandR.upd' {H : Hp} {h c D : Addr} {cs : List Int} {o : HO} (d : HandR K H h c cs) (ne : D ≠ h) (hc : D ≠ c ∨ ∀ H', SqL K H' c (cs.map V.int)) : HandR K (upd H D o) h c cs := by
  obtain ⟨z1, i1, i2, i3, i4, z2, z3⟩ := d
  refine ⟨?_, i1, i2, i3, i4, by rw [upd_ne ne.symm]; exact z2, z3⟩
  rcases hc with ne | hall
  · rcases z1 with (z1 | ⟨o, z1⟩) | z1
    · exact .inl (.inl (by rw [upd_ne ne.symm]; exact z1))
    · exact .inl (.inr ⟨o, by rw [upd_ne ne.symm]; exact z1⟩)
    · exact .inr z1
  · exact hall _
theorem lc_draws {σ : L2.St} {H : Hp} {Q : VK} {h c : Addr} {cs : List Int} (hd : HandR K H h c cs) (hσ : σ = [some (.ref h), some (.int 8), some (.int 4), none, none, none])
    (q : ∀ (D : Addr) (ns : List Int) H', Kp h H H' → ExT H H' → HandR K H' h c cs → H D = none → H' D = some (.lst (ns.map V.int)) → ns.length ≤ 4 → (∀ k ∈ ns, (0 : Int) ≤ k ∧ k < 8) → Q (.ref D) H') :
    tLc (iRng1 (tCons (tF (spDraw K) eN (tCons (tVar 0) (tCons (tOp (rI0 fun i j => .int (i + j)) (tVar 2) (tC (.int 1))) tNil))) tNil)) (gName 5) tYes (tF (spDraw K) eN (tCons (tVar 0) (tCons (tVar 1) tNil))) [5] σ H Q := by
  subst hσ
  refine r_draw (m := 5) hd (ev_var rfl) ((er_II (K := K) (g := fun i j => i + j) (er_var (a := (4 : Int)) rfl rfl) (er_i 1)).is rfl) (by omega) fun d H1 d0 d1 kp1 et1 hd1 => ?_
  refine ⟨d, rfl, by omega, by omega, fun D nD => ?_⟩
  have nhD : D ≠ h := fun z => by
    obtain ⟨xs, hx⟩ := hd1.at_
    rw [z, hx] at nD
    cases nD
  have nHD : H D = none := by
    cases e : H D with
    | none => rfl
    | some o =>
      rw [kp1 _ _ nhD e] at nD
      cases nD
  have hcD := hd1.sep nD
  refine lc_range (lo := 0) (n := d.toNat) (fun i H' => Kp h H H' ∧ ExT H H' ∧ HandR K H' h c cs ∧ ∃ ns : List Int, H' D = some (.lst (ns.map V.int)) ∧ ns.length = i ∧ ∀ k ∈ ns, (0 : Int) ≤ k ∧ k < 8) ?_ ?_ ?_
  · have e2 : Ex H1 (upd H1 D (.lst [])) := Ex.new nD
    exact ⟨kp1.trans (Ex.kp e2), et1.trans (Js.Ex.t e2), hd1.ex e2, [], upd_same, rfl, fun k hk => by cases hk⟩
  · rintro i H2 hi ⟨kp2, et2, hd2, ns, n1, n2, n3⟩
    refine ⟨rfl, ?_⟩
    refine et_yes H2 (Ex.refl _) _ fun H3 e3 => ?_
    rw [if_pos rfl]
    refine r_draw (m := 8) (hd2.ex e3) (ev_var rfl) (er_var rfl rfl) (by omega) fun x H4 x0 x1 kp4 et4 hd4 => ?_
    have hD4 := kp4 _ _ nhD (e3 _ _ n1)
    refine ⟨ns.map V.int, hD4, sz_lt (by rw [List.length_map]; omega), ?_⟩
    have kp5 : Kp h H (upd H4 D (.lst (ns.map V.int ++ [.int x]))) := fun a o na ha => by
      rw [upd_ne (fun z => by rw [z, nHD] at ha; cases ha)]
      exact ((kp2.trans (Ex.kp e3)).trans kp4) a o na ha
    have et5 := ext_lst (u := .lst (ns.map V.int ++ [.int x])) hD4
    refine ⟨kp5, ((et2.trans (Js.Ex.t e3)).trans et4).trans et5, ?_, ns ++ [x], by rw [upd_same, List.map_append]; rfl, by simp [n2], fun k hk => ?_⟩
    · exact hd4.upd' nhD hcD
    · rcases List.mem_append.mp hk with hk | hk
      · exact n3 k hk
      · rw [List.mem_singleton] at hk
        subst hk
        exact ⟨x0, x1⟩
  · rintro H2 ⟨kp2, et2, hd2, ns, n1, n2, n3⟩
    exact q D ns H2 kp2 et2 hd2 nHD n1 (by omega) n3
theorem ok_law_batch (T : Tx w K mg) : FnAt P w K mg base 2 (He.fAd K ("_law_batch", none)) (spBatch K) := by
  have S : FnScope ["_law_hand_here", "_law_keys", "_law_most", "_law_some", "_law_key", "_law_turn"] ["_law_hand_here", "_law_keys", "_law_most"] (defScope s_law_batch) := ⟨rfl, rfl, rfl, by decide +kernel, rfl, by decide +kernel, by decide +kernel⟩
  have G_law_draw := ok_law_draw (P := P) (base := base) T
  refine mk0 1 T.f_law_batch S (fun _ _ _ _ _ _ us hl => match us, hl with | [_, _, _], _ => rfl) (fun vs H Q E h => by obtain ⟨_, _, _, rfl, _⟩ := h; rfl) fun cdv A outer s H vs Q E hr h => ?_
  obtain ⟨h, c, cs, rfl, hd, q⟩ := h
  refine ⟨_, pss_cons (ps_set (i := 3) S.nd rfl (Or.inl rfl) (pe_callB (cr_sortedSet rfl) rfl T.z_sorted (by decide +kernel) (pa_cons (pe_callTy (Jg.cr_setI rfl) rfl T.z_set (by decide +kernel) (pa_cons (pe_lc (own := [("_law_turn", 5)]) (g := gName 5) (tt := tYes) rfl S.nd (pi_range1 rfl T.z_range (pa_cons (pe_f G_law_draw T.g_law_draw hr (by decide) passN (pa_cons (pv 0) (pa_cons (pe_op op_add (pv 2) pe_int) pa_nil))) pa_nil)) (blkOk_by (N := ["_law_hand_here", "_law_keys", "_law_most", "_law_some", "_law_key", "_law_turn"]) (sc := defScope s_law_batch) (own := [("_law_turn", 5)]) (by decide +kernel)) (fun _ _ _ _ _ => pg_name (i := 5) S.nd rfl (Or.inl rfl)) (fun _ _ _ _ _ => pts_nil) (fun _ _ _ _ _ => pe_f G_law_draw T.g_law_draw hr (by decide) passN (pa_cons (pv 0) (pa_cons (pv 1) pa_nil)))) pa_nil)) pa_nil)))
      (pss_one (ps_ret (pe_callTy (tupK (K := K) rfl) rfl T.z_tuple (by decide +kernel) (pa_cons (pe_lc (own := [("_law_key", 4)]) (g := gName 4) (tt := tYes) rfl S.nd (pi_list (pv 3)) (blkOk_by (N := ["_law_hand_here", "_law_keys", "_law_most", "_law_some", "_law_key", "_law_turn"]) (sc := defScope s_law_batch) (own := [("_law_key", 4)]) (by decide +kernel)) (fun _ _ _ _ _ => pg_name (i := 4) S.nd rfl (Or.inl rfl)) (fun _ _ _ _ _ => pts_nil) (fun _ _ _ _ _ => pe_tup (pa_cons (pv 4) (pa_cons (pe_ifExp (pt_cmpR op_eq (pe_f G_law_draw T.g_law_draw hr (by decide) passN (pa_cons (pv 0) (pa_cons pe_int pa_nil))) pe_int (nomark _)) pe_non (pe_op op_sub (pe_f G_law_draw T.g_law_draw hr (by decide) passN (pa_cons (pv 0) (pa_cons pe_int pa_nil))) pe_int)) pa_nil)))) pa_nil)))), ?_⟩
  unfold tSeq tAsg tCB tCons
  refine lc_draws hd rfl fun D ns H1 kp1 et1 hd1 nD n1 n2 n3 => ?_
  refine el_sset (K := K) (w := w) (ns := ns) (ta := tC (.ref D)) (σ := [some (.ref h), some (.int 8), some (.int 4), none, none, none]) (er_c ⟨D, _, rfl, sq_of n1, pd_of (F := r K H1) (f := V.int) (fun b => (rfl : V.int b = V.int b)) ns⟩) (fun k hk => by have := n3 k hk; omega) (by omega) H1 (Ex.refl _) _ fun p xs H2 e2 np p1 p2 => ?_
  have hkl : (keyS ns).length ≤ 4 := Nat.le_trans (nodup_le (asc_nodup (keyS_pw ns)) fun k hk => (keyS_mem fun k hk => by have := n3 k hk; omega).mp hk) n2
  have hkm : ∀ k ∈ keyS ns, (0 : Int) ≤ k ∧ k < 8 := fun k hk => n3 k ((keyS_mem fun k hk => by have := n3 k hk; omega).mp hk)
  have hka := keyS_pw ns
  generalize keyS ns = ks at p2 hkl hkm hka
  have hd2 := hd1.ex e2
  have nph : p ≠ h := fun z => by
    obtain ⟨xs, hx⟩ := hd1.at_
    rw [z, hx] at np
    cases np
  refine ⟨.ref p, rfl, p, rfl, ⟨xs, sq_of p1⟩, fun D2 nD2 => ?_⟩
  have nD2h : D2 ≠ h := fun z => by
    obtain ⟨xs, hx⟩ := hd2.at_
    rw [z, hx] at nD2
    cases nD2
  have nD2p : D2 ≠ p := fun z => by rw [z, p1] at nD2; cases nD2
  have nHD2 : H D2 = none := by
    cases e : H D2 with
    | none => rfl
    | some o =>
      rw [e2 _ _ (kp1 _ _ nD2h e)] at nD2
      cases nD2
  have ex := ints_of p2
  subst ex
  refine lc_list (xs := ks.map V.int) (fun i H' => Kp h H2 H' ∧ ExT H2 H' ∧ HandR K H' h c cs ∧ ∃ (ys : List V) (b : List PR), H' D2 = some (.lst ys) ∧ Paired (r K H') ys b ∧ b.map (·.1) = ks.take i ∧ ∀ x ∈ b, ∀ i, x.2 = some i → (-3 : Int) ≤ i ∧ i ≤ 5) ?_ ?_ ?_ ?_
  · have e3 : Ex H2 (upd H2 D2 (.lst [])) := Ex.new nD2
    exact ⟨Ex.kp e3, Js.Ex.t e3, hd2.ex e3, [], [], upd_same, .nil, rfl, fun x hx => by cases hx⟩
  · exact fun i H' _ pv => sq_of (pv.1 _ _ nph p1)
  · rintro i u H3 hi ⟨kp3, et3, hd3, ys, b, b1, b2, b3, b4⟩
    obtain ⟨k, hk, rfl⟩ : ∃ k, ks[i]? = some k ∧ V.int k = u := by
      rw [List.getElem?_map] at hi
      exact Option.map_eq_some_iff.mp hi
    refine ⟨rfl, et_yes H3 (Ex.refl _) _ fun H4 e4 => ?_⟩
    rw [if_pos rfl]
    have hi4 : i < 4 := by
      have := (List.getElem?_eq_some_iff.mp hk).1
      omega
    have hlb : ys.length = b.length := pd_len b2
    have hbl : b.length ≤ i := by
      have : (b.map (·.1)).length = (ks.take i).length := by rw [b3]
      rw [List.length_map, List.length_take] at this
      omega
    -- what is done behind the value is drawn
    have fin : ∀ (o : Option Int) (vo : V) (H5 : Hp), (∀ H, r K H vo o) → (∀ j, o = some j → (-3 : Int) ≤ j ∧ j ≤ 5) → Kp h H4 H5 → ExT H4 H5 → HandR K H5 h c cs → 2 ≤ sizeLine ∧ ∀ t, H5 t = none → (fun y H6 => ∃ acc, H6 D2 = some (.lst acc) ∧ acc.length < sizeLine ∧ (fun i H' => Kp h H2 H' ∧ ExT H2 H' ∧ HandR K H' h c cs ∧ ∃ (ys : List V) (b : List PR), H' D2 = some (.lst ys) ∧ Paired (r K H') ys b ∧ b.map (·.1) = ks.take i ∧ ∀ x ∈ b, ∀ i, x.2 = some i → (-3 : Int) ≤ i ∧ i ≤ 5) (i + 1) (upd H6 D2 (.lst (acc ++ [y])))) (.ref t) (upd H5 t (.tup [.int k, vo])) := by
      intro o vo H5 ho hov kp5 et5 hd5
      refine ⟨by decide, fun t nt => ?_⟩
      have e6 : Ex H5 (upd H5 t (.tup [.int k, vo])) := Ex.new nt
      have hD5 := e6 _ _ (kp5 _ _ nD2h (e4 _ _ b1))
      have hd6 := hd5.ex e6
      have et6 := ext_lst (u := .lst (ys ++ [.ref t])) hD5
      refine ⟨ys, hD5, sz_lt (by omega), fun a o na ha => ?_, ?_, ?_, ys ++ [.ref t], b ++ [(k, o)], upd_same, ?_, ?_, ?_⟩
      · rw [upd_ne (fun z => by rw [z, nD2] at ha; cases ha)]
        exact e6 _ _ (kp5 _ _ na (e4 _ _ (kp3 _ _ na ha)))
      · exact (((et3.trans (Js.Ex.t e4)).trans et5).trans (Js.Ex.t e6)).trans et6
      · exact hd6.upd' nD2h (hd2.sep nD2)
      · refine pd_app (pd_map b2 fun _ _ z => RpT.t et6 (Rp.mono e6 (RpT.t et5 (Rp.mono e4 z)))) (pd_one ⟨t, _, _, rfl, ?_, rfl, ho _⟩)
        exact et6 _ _ _ (st_of upd_same)
      · rw [List.map_append, b3, take_snoc hk]
        rfl
      · intro x hx
        rcases List.mem_append.mp hx with hx | hx
        · exact b4 x hx
        · rw [List.mem_singleton] at hx
          subst hx
          exact hov
    refine ⟨.int k, rfl, ?_⟩
    refine r_draw (K := K) (m := 4) (hd3.ex e4) (ev_var rfl) (er_i 4) (by omega) fun x H5 x0 x1 kp5 et5 hd5 => ?_
    refine ⟨rfl, _, rfl, ?_⟩
    generalize decide (V.int x = V.int 0) = bb
    cases bb with
    | true => exact fin none .non H5 (fun _ => rfl) (fun j z => by cases z) kp5 et5 hd5
    | false =>
      refine r_draw (K := K) (E := eN) (m := 9) (σ := [some (.ref h), some (.int 8), some (.int 4), some (.ref p), some (.int k), none]) (ta := tVar 0) (tb := tC (.int 9)) hd5 (ev_var rfl) (er_i 9) (by omega) fun d H6 d0 d1 kp6 et6 hd6 => ?_
      exact ⟨d, 3, rfl, rfl, fin (some (d - 3)) (.int (d - 3)) H6 (fun _ => rfl) (fun j z => by injection z with z; omega) (kp5.trans kp6) (et5.trans et6) hd6⟩
  · rintro H3 ⟨kp3, et3, hd3, ys, b, b1, b2, b3, b4⟩
    rw [List.length_map, List.take_length] at b3
    refine ⟨D2, ys, rfl, .inl ⟨sq_of b1, fun l nl => ?_⟩⟩
    have e4 : Ex H3 (upd H3 l (.tup ys)) := Ex.new nl
    have hbm : ∀ x ∈ b, x.1 ∈ ks := fun x hx => by rw [← b3]; exact List.mem_map.mpr ⟨x, hx, rfl⟩
    refine q (.ref l) b _ (((kp1.trans (Ex.kp e2)).trans kp3).trans (Ex.kp e4)) (((et1.trans (Js.Ex.t e2)).trans et3).trans (Js.Ex.t e4)) (hd3.ex e4) ⟨l, ys, rfl, st_of upd_same, pd_map b2 fun _ _ z => Rp.mono e4 z⟩ ⟨?_, by rw [b3]; exact hka, fun x hx => hkm _ (hbm x hx), b4⟩
    have : (b.map (·.1)).length = ks.length := by rw [b3]
    rw [List.length_map] at this
    omega
end
end Js
/-! ### drawn lines -/
namespace Js
open PySem PySem.Spec PyProof.Rows L2 Evl SX
open Rp (r)
abbrev Bk := List (PySem.Str × LSt)
def names4 : List PySem.Str := ["a", "shop", "zz", "qwertyui"]
inductive ChgR (bl : Bk) : PySem.Str → Bk → Prop where
  | store (n : PySem.Str) (m : Int) (hn : n ∈ names4) (hm : 1 ≤ m ∧ m ≤ 30) : ChgR bl (Txt.join " " ["store", n, strI m]) (putA bl n (emptyL m))
  | drop (n : PySem.Str) (s : LSt) (hn : n ∈ names4) (hs : lookA bl n = some s) : ChgR bl ("drop " ++ n) (dropA bl n)
  | keep (n : PySem.Str) (s : LSt) (hn : n ∈ names4) (hs : lookA bl n = some s) (hk : canKeep s = true) : ChgR bl ("keep " ++ n) (putA bl n (keptL s))
  | put (n : PySem.Str) (s : LSt) (b : List PR) (stay : Nat) (hn : n ∈ names4) (hs : lookA bl n = some s) (hb : BatOk b) (h1 : stay ≤ s.g.length) (h2 : (stay : Int) < s.m) : ChgR bl (Txt.join " " ["put", n, strI stay, textL pwS "-" " " b]) (putA bl n (withBL s b stay))
structure ChgP (s : LSt) : Prop where
  m : 1 ≤ s.m ∧ s.m ≤ 30
  k : s.k.length ≤ 1000
  w : ∀ b n, BatOk b → n ≤ s.g.length → PreW s b n
/-- a book as it stands -/
def BkR (K : PySem.W.Frag) (H : Hp) (d : Addr) (bl : Bk) : Prop := ∃ kvs, H d = some (.dK kvs) ∧ DkR (r K H) Sum.inr kvs bl
def spChg (K : PySem.W.Frag) : Sp := fun vs H Q _ => ∃ (h c bk : Addr) (cs : List Int) (bl : Bk), vs = [.ref h, .ref bk] ∧ HandR K H h c cs ∧ BkR K H bk bl ∧ bl.length < 1000 ∧ (∀ n s, lookA bl n = some s → ChgP s) ∧
  ∀ t d line bl' H', Kp h H H' → ExT H H' → HandR K H' h c cs → H d = none → SqT K H' t [.str line, .ref d] → BkR K H' d bl' → ChgR bl line bl' → Q (.ref t) H'
theorem okPair_of {b : List PR} (h : BatOk b) : ∀ x ∈ b, okPair x := fun x hx => ⟨(h.k x hx).1, by have := (h.k x hx).2; omega, fun v hv => by have := h.v x hx v hv; omega⟩
section
variable {P : Program} {w : World} {K : PySem.W.Frag} {mg : PySem.Str → Option Value} {base : Heap}
theorem r_dputE {α : Type} [Rp α] {D : Ends} {σ : L2.St} {H : Hp} {d : Addr} {kvs : List (L2.Key × V)} {k : PySem.Str} {a : α} {td ty tv : TE} (hd : H d = some (.dK kvs)) (hl : kvs.length < 100000) (h1 : Er K tv σ H a) (h2 : Ev td σ H (.ref d)) (h3 : Ev ty σ H (.str k)) (q : ∀ v H1, Ex H H1 → r K H1 v a → D.nx σ (upd H1 d (.dK (putK kvs (Sum.inr k) v)))) :
    sDPut td ty tv D σ H := h1 H (Ex.refl _) _ fun v H1 e1 hv => h2 H1 e1 _ fun H2 e2 => h3 H2 (e1.trans e2) _ fun H3 e3 => ⟨d, _, rfl, DPut.k (k := Sum.inr k) ((e3 _ _ (e2 _ _ (e1 _ _ hd)))) (sz_lt hl), q v H3 ((e1.trans e2).trans e3) (Rp.mono (e2.trans e3) hv)⟩
theorem el_4 {α : Type} [Rp α] {a b c d : α} {ta tb tc td : TE} {σ : L2.St} {H : Hp} (ha : Er K ta σ H a) (hb : Er K tb σ H b) (hc : Er K tc σ H c) (hd : Er K td σ H d) : El K (tLst (tCons ta (tCons tb (tCons tc (tCons td tNil))))) σ H [a, b, c, d] := fun H1 e1 Q q => ha H1 e1 _ fun v H2 e2 hv => hb H2 (e1.trans e2) _ fun u H3 e3 hu => hc H3 ((e1.trans e2).trans e3) _ fun w H4 e4 hw => hd H4 (((e1.trans e2).trans e3).trans e4) _ fun y H5 e5 hy =>
  ⟨by show 4 ≤ sizeLine; decide, fun p hp => q p [v, u, w, y] _ ((((e2.trans e3).trans e4).trans e5).trans (Ex.new hp)) (fresh_back e2 (fresh_back e3 (fresh_back e4 (fresh_back e5 hp)))) upd_same
    (.cons (Rp.mono (((e3.trans e4).trans e5).trans (Ex.new hp)) hv) (.cons (Rp.mono ((e4.trans e5).trans (Ex.new hp)) hu) (.cons (Rp.mono (e5.trans (Ex.new hp)) hw) (pd_one (Rp.mono (Ex.new hp) hy)))))⟩
theorem r_setDraw {i : Nat} {E : L2.St → XK} {D : Ends} {σ : L2.St} {H : Hp} {h c : Addr} {cs : List Int} {m : Int} {ta tb : TE} (hd : HandR K H h c cs) (ha : Ev ta σ H (.ref h)) (hb : Er K tb σ H m) (hm : 1 ≤ m ∧ m < 1000) (q : ∀ d H', 0 ≤ d → d < m → Kp h H H' → ExT H H' → HandR K H' h c cs → D.nx (σ.set i (some (.int d))) H') : tAsg (tF (spDraw K) E (tCons ta (tCons tb tNil))) (gName i) D σ H := r_draw hd ha hb hm q
theorem r_most {D : Ends} {σ : L2.St} {H : Hp} {h c : Addr} {cs : List Int} (hd : HandR K H h c cs) (h0 : σ[0]? = some (some (.ref h))) (q : ∀ m H', 1 ≤ m → m ≤ 30 → Kp h H H' → ExT H H' → HandR K H' h c cs → D.nx (σ.set 6 (some (.int m))) H') :
    tAsg (tOp (rI0 fun i j => .int (i + j)) (tC (.int 1)) (tF (spDraw K) eN (tCons (tVar 0) (tCons (tOp (rIxL K) (tLst (tCons (tC (.int 4)) (tCons (tC (.int 30)) tNil))) (tF (spDraw K) eN (tCons (tVar 0) (tCons (tC (.int 2)) tNil)))) tNil)))) (gName 6) D σ H := by
  unfold tAsg tOp
  unfold tF
  unfold tCons
  refine ⟨.ref h, h0, ?_⟩
  refine el_2 (K := K) (a := (4 : Int)) (a2 := (30 : Int)) (er_i 4) (er_i 30) H (Ex.refl _) _ fun pl xl H6 e6 npl p1 p2 => ?_
  refine r_draw (K := K) (E := eN) (m := 2) (σ := σ) (ta := tVar 0) (tb := tC (.int 2)) (hd.ex e6) (ev_var h0) (er_i 2) (by omega) fun d H7 d0 d1 kp7 et7 hd7 => ?_
  have nph : pl ≠ h := fun z => by
    obtain ⟨xs, hx⟩ := hd.at_
    rw [z, hx] at npl
    cases npl
  obtain ⟨M, hM, hMb⟩ : ∃ M : Int, ([4, 30] : List Int)[d.toNat]? = some M ∧ (1 ≤ M ∧ M ≤ 30) := by
    have hdc : d.toNat = 0 ∨ d.toNat = 1 := by omega
    rcases hdc with z | z
    · exact ⟨4, by rw [z]; rfl, by decide, by decide⟩
    · exact ⟨30, by rw [z]; rfl, by decide, by decide⟩
  obtain ⟨xv, hx1, hx2⟩ := pd_get' p2 hM
  obtain rfl : xv = .int M := hx2
  refine ⟨pl, xl, d, .int M, rfl, rfl, sq_of (kp7 _ _ nph p1), at_of' (j := d.toNat) (by omega) hx1, ?_⟩
  refine ⟨h, c, cs, M, rfl, by omega, by omega, hd7, fun x H8 x0 x1 kp8 hd8 => ⟨1, x, rfl, rfl, ?_⟩⟩
  obtain ⟨xs7, hx7⟩ := hd7.at_
  exact q (1 + x) H8 (by omega) (by omega) (((Ex.kp e6).trans kp7).trans kp8) (((Js.Ex.t e6).trans et7).trans (kp_t kp8 hx7)) hd8
theorem r_setGet {i : Nat} {D : Ends} {σ : L2.St} {H : Hp} {d : Addr} {k : L2.Key} {kvs : List (L2.Key × V)} {v y : V} {td ty : TE} (hd : H d = some (.dK kvs)) (h1 : Ev td σ H (.ref d)) (h2 : ∀ H1, Ex H H1 → Ev ty σ H1 y) (hy : y = kV k) (hv : valV kvs k = some v) (q : ∀ H1, Ex H H1 → D.nx (σ.set i (some v)) H1) : tAsg (tDGet td ty) (gName i) D σ H := r_get hd h1 h2 hy hv q
theorem BkR.ex {H H' : Hp} {d : Addr} {bl : Bk} (h : BkR K H d bl) (e : Ex H H') : BkR K H' d bl := by
  obtain ⟨kvs, h1, h2⟩ := h
  exact ⟨kvs, e _ _ h1, dk_mono h2 fun _ _ z => Rp.mono e z⟩
theorem n4_len {n : PySem.Str} (h : n ∈ names4) : n.length ≤ 8 := by
  have : ∀ n ∈ names4, n.length ≤ 8 := by decide +kernel
  exact this n h
theorem join_le' (sep : PySem.Str) : ∀ l : List PySem.Str, (PySem.Str.join sep l).length ≤ (l.map (·.length)).sum + l.length * sep.length
  | [] => Nat.zero_le _
  | [x] => by
    show x.length ≤ _
    simp
  | x :: y :: l => by
    have h := join_le' sep (y :: l)
    have e : PySem.Str.join sep (x :: y :: l) = (x ++ sep) ++ PySem.Str.join sep (y :: l) := rfl
    rw [e, len_cat, len_cat]
    simp only [List.map_cons, List.sum_cons, List.length_cons, Nat.succ_mul] at h ⊢
    omega
theorem join_le (sep : PySem.Str) (l : List PySem.Str) : (Txt.join sep l).length ≤ (l.map (·.length)).sum + l.length * sep.length := by
  rw [TL.join_eq]
  exact join_le' sep l
theorem textL_len {b : List PR} (h : BatOk b) : (textL pwS "-" " " b).length ≤ 1000 := by
  unfold textL
  split
  · decide +kernel
  · have h1 := join_le " " (b.map pwS)
    have h2 := sum_le (l := (b.map pwS).map (·.length)) (m := 13) fun n hm => by
      obtain ⟨z, hz, rfl⟩ := List.mem_map.mp hm
      obtain ⟨y, hy, rfl⟩ := List.mem_map.mp hz
      exact pwS_len (okPair_of h y hy)
    rw [List.length_map, List.length_map] at h2
    rw [List.length_map, show ((" " : PySem.Str)).length = 1 by decide +kernel] at h1
    have := h.l
    omega
theorem r_ret2 {D : Ends} {σ : L2.St} {H : Hp} {z : PySem.Str} {d : Addr} {ta tb : TE} (ha : Er K ta σ H z) (hb : ∀ H1, Ex H H1 → Ev tb σ H1 (.ref d)) (q : ∀ t H1, Ex H H1 → SqT K H1 t [.str z, .ref d] → D.rt (.ref t) H1) : tRet (tTup (tCons ta (tCons tb tNil))) D σ H :=
  ha.evS H (Ex.refl _) _ fun H1 e1 => hb H1 e1 H1 (Ex.refl _) _ fun H2 e2 => ⟨by show 2 ≤ sizeLine; decide, fun p hp => q p _ ((e1.trans e2).trans (Ex.new hp)) (st_of upd_same)⟩
theorem ok_law_change (T : Tx w K mg) : FnAt P w K mg base 3 (He.fAd K ("_law_change", none)) (spChg K) := by
  have S : FnScope ["_law_hand_here", "_law_book", "_law_names_here", "_law_name", "_law_later", "_law_kind", "_law_most", "_law_state", "_law_batch_here", "_law_stay_here"] ["_law_hand_here", "_law_book"] (defScope s_law_change) := ⟨rfl, rfl, rfl, by decide +kernel, rfl, by decide +kernel, by decide +kernel⟩
  have G_law_batch_text_L := ok_law_batch_text_L (P := P) (base := base) T
  have G_law_draw := ok_law_draw (P := P) (base := base) T
  have G_law_empty := ok_law_empty (P := P) (base := base) T
  have G_law_can_keep := ok_law_can_keep (P := P) (base := base) T
  have G_law_with_kept := ok_law_with_kept (P := P) (base := base) T
  have G_law_batch := ok_law_batch (P := P) (base := base) T
  have G_law_stay := ok_law_stay (P := P) (base := base) T
  have G_law_with_batch := ok_law_with_batch (P := P) (base := base) T
  have G_law_batch_text := ok_law_batch_text (P := P) (base := base) T
  refine mk0 2 T.f_law_change S (fun _ _ _ _ _ _ us hl => match us, hl with | [_, _], _ => rfl) (fun vs H Q E h => by obtain ⟨_, _, _, _, _, rfl, _⟩ := h; rfl) fun cdv A outer s H vs Q E hr h => ?_
  obtain ⟨h, c, bk, cs, bl, rfl, hd, ⟨kvs, hk1, hk2⟩, hbl, hP, q⟩ := h
  refine ⟨_, pss_cons (ps_set (i := 2) S.nd rfl (Or.inl rfl) (pe_lst (pa_cons pe_str (pa_cons pe_str (pa_cons pe_str (pa_cons pe_str pa_nil))))))
      (pss_cons (ps_set (i := 3) S.nd rfl (Or.inl rfl) (pe_ix (ixL (K := K) rfl) (pv 2) (pe_f G_law_draw T.g_law_draw hr (by decide) passN (pa_cons (pv 0) (pa_cons pe_int pa_nil))) (fun _ _ => rfl)))
      (pss_cons (ps_set (i := 4) S.nd rfl (Or.inl rfl) (pe_callTy call_dictD rfl T.z_dict (by decide +kernel) (pa_cons (pv 1) pa_nil)))
      (pss_cons (ps_set (i := 5) S.nd rfl (Or.inl rfl) (pe_f G_law_draw T.g_law_draw hr (by decide) passN (pa_cons (pv 0) (pa_cons pe_int pa_nil))))
      (pss_cons (ps_if (PW.pt (pw_or (pt_cmp (pc_dnotin (hu_of hr) (pv 3) (pv 1))) (pw_or1 (pt_cmpR op_eq (pv 5) pe_int (nomark _)))))
        (pss_cons (ps_set (i := 6) S.nd rfl (Or.inl rfl) (pe_op op_add pe_int (pe_f G_law_draw T.g_law_draw hr (by decide) passN (pa_cons (pv 0) (pa_cons (pe_ix (ixL (K := K) rfl) (pe_lst (pa_cons pe_int (pa_cons pe_int pa_nil))) (pe_f G_law_draw T.g_law_draw hr (by decide) passN (pa_cons (pv 0) (pa_cons pe_int pa_nil))) (fun _ _ => rfl)) pa_nil)))))
        (pss_cons (ps_dput (hu_of hr) (pv 4) (pv 3) (pe_f G_law_empty T.g_law_empty hr (by decide) passN (pa_cons (pv 6) pa_nil)) rfl)
        (pss_one (ps_ret (pe_tup (pa_cons (joinK (K := K) rfl pe_str (pe_lst (pa_cons pe_str (pa_cons (pv 3) (pa_cons (pe_callTy call_str_int rfl T.z_str (by decide +kernel) (pa_cons (pv 6) pa_nil)) pa_nil))))) (pa_cons (pv 4) pa_nil)))))))
        (pss_nil))
      (pss_cons (ps_set (i := 7) S.nd rfl (Or.inl rfl) (pe_dget (hu_of hr) (pv 1) (pv 3) (fun _ _ => rfl)))
      (pss_cons (ps_if (pt_cmpR op_eq (pv 5) pe_int (nomark _))
        (pss_cons (ps_expr (pe_dpop1 (pv 4) (pv 3) ⟨rfl, rfl, rfl, rfl⟩))
        (pss_one (ps_ret (pe_tup (pa_cons (pe_op op_add_str pe_str (pv 3)) (pa_cons (pv 4) pa_nil))))))
        (pss_nil))
      (pss_cons (ps_if (PW.pt (pw_and (pt_cmpR op_lt (pv 5) pe_int (nomark _)) (pw_and1 (pt_val (pe_f G_law_can_keep T.g_law_can_keep hr (by decide) passN (pa_cons (pv 7) pa_nil))))))
        (pss_cons (ps_dput (hu_of hr) (pv 4) (pv 3) (pe_f G_law_with_kept T.g_law_with_kept hr (by decide) passN (pa_cons (pv 7) pa_nil)) rfl)
        (pss_one (ps_ret (pe_tup (pa_cons (pe_op op_add_str pe_str (pv 3)) (pa_cons (pv 4) pa_nil))))))
        (pss_nil))
      (pss_cons (ps_set (i := 8) S.nd rfl (Or.inl rfl) (pe_f G_law_batch T.g_law_batch hr (by decide) passN (pa_cons (pv 0) (pa_cons pe_int (pa_cons pe_int pa_nil)))))
      (pss_cons (ps_set (i := 9) S.nd rfl (Or.inl rfl) (pe_f G_law_stay T.g_law_stay hr (by decide) passN (pa_cons (pv 0) (pa_cons (pv 7) pa_nil))))
      (pss_cons (ps_dput (hu_of hr) (pv 4) (pv 3) (pe_f G_law_with_batch T.g_law_with_batch hr (by decide) passN (pa_cons (pv 7) (pa_cons (pv 8) (pa_cons (pv 9) pa_nil)))) rfl)
      (pss_one (ps_ret (pe_tup (pa_cons (joinK (K := K) rfl pe_str (pe_lst (pa_cons pe_str (pa_cons (pv 3) (pa_cons (pe_callTy call_str_int rfl T.z_str (by decide +kernel) (pa_cons (pv 9) pa_nil)) (pa_cons (pe_f G_law_batch_text T.g_law_batch_text hr (by decide) passN (pa_cons (pv 8) pa_nil)) pa_nil)))))) (pa_cons (pv 4) pa_nil))))))))))))))), ?_⟩
  have nbh : bk ≠ h := fun z => by
    obtain ⟨xs, hx⟩ := hd.at_
    rw [← z, hk1] at hx
    cases hx
  refine r_setL (K := K) (el_4 (er_s "a") (er_s "shop") (er_s "zz") (er_s "qwertyui")) fun pn xn H1 e1 nn hn1 hn2 => ?_
  have hd1 := hd.ex e1
  have nph : pn ≠ h := fun z => by
    obtain ⟨xs, hx⟩ := hd.at_
    rw [z, hx] at nn
    cases nn
  refine ⟨.ref pn, rfl, ?_⟩
  refine r_draw (K := K) (m := 4) hd1 (ev_var rfl) (er_i 4) (by omega) fun d H2 d0 d1 kp2 et2 hd2 => ?_
  have hdn : d.toNat < names4.length := by show d.toNat < 4; omega
  obtain ⟨n, hnm⟩ : ∃ n, names4[d.toNat]? = some n := ⟨_, List.getElem?_eq_getElem hdn⟩
  have hn4 : n ∈ names4 := List.mem_of_getElem? hnm
  obtain ⟨xv, hx1, hx2⟩ := pd_get' hn2 (show (["a", "shop", "zz", "qwertyui"] : List PySem.Str)[d.toNat]? = some n from hnm)
  obtain rfl : xv = .str n := hx2
  refine ⟨pn, xn, d, .str n, rfl, rfl, sq_of (kp2 _ _ nph hn1), at_of' (j := d.toNat) (by omega) hx1, ?_⟩
  have hk1' := kp2 _ _ nbh (e1 _ _ hk1)
  refine ⟨.ref bk, rfl, bk, kvs, rfl, .inl hk1', fun ld nld => ?_⟩
  have e3 : Ex H2 (upd H2 ld (.dK kvs)) := Ex.new nld
  have hl3 : upd H2 ld (.dK kvs) ld = some (.dK kvs) := upd_same
  have nldh : ld ≠ h := fun z => by
    obtain ⟨xs, hx⟩ := hd2.at_
    rw [z, hx] at nld
    cases nld
  have nHl : H ld = none := by
    cases e : H ld with
    | none => rfl
    | some o =>
      rw [kp2 _ _ nldh (e1 _ _ e)] at nld
      cases nld
  have hd3 := hd2.ex e3
  have hk3 := e3 _ _ hk1'
  have kp3 : Kp h H (upd H2 ld (.dK kvs)) := ((Ex.kp e1).trans kp2).trans (Ex.kp e3)
  have et3 : ExT H (upd H2 ld (.dK kvs)) := ((Js.Ex.t e1).trans et2).trans (Js.Ex.t e3)
  generalize upd H2 ld (.dK kvs) = H3 at hl3 hd3 hk3 kp3 et3
  refine r_setDraw (K := K) (m := 9) hd3 (ev_var rfl) (er_i 9) (by omega) fun kind H4 c0 c1 kp4' et4' hd4 => ?_
  have hl4 := kp4' _ _ nldh hl3
  have hk4 := kp4' _ _ nbh hk3
  have kp4 := kp3.trans kp4'
  have et4 := et3.trans et4'
  have hkl : kvs.length = bl.length := pd_len hk2
  have hstr : ∀ {H1 : Hp}, ExT H H1 → DkR (r K H1) Sum.inr kvs bl := fun et => dk_mono hk2 fun _ _ z => RpT.t et z
  clear hd3 hk3 kp3 et3 hl3 e3 nld
  -- a book with a name's store put, and the line told
  have putB : ∀ {H1 H2 : Hp} {s : LSt} {v : V}, ExT H H1 → H1 ld = some (.dK kvs) → Ex H1 H2 → r K H2 v s → BkR K (upd H2 ld (.dK (putK kvs (Sum.inr n) v))) ld (putA bl n s) := by
    intro H1 H2 s v et h1 e hv
    have e' := (et.trans (Js.Ex.t e)).trans (ext_dK (u := .dK (putK kvs (Sum.inr n) v)) (e _ _ h1))
    exact ⟨_, upd_same, dk_put inr_inj (hstr e') n (RpT.t (ext_dK (e _ _ h1)) hv)⟩
  have hupd : ∀ {H1 : Hp} {o : HO}, HandR K H1 h c cs → H1 ld = some (.dK kvs) → HandR K (upd H1 ld o) h c cs := by
    intro H1 o hh h1
    refine hh.upd' nldh ?_
    rcases hd.sep nHl with z | z
    · exact .inl z
    · exact .inr z
  have kpu : ∀ {H1 : Hp} {o : HO}, Kp h H H1 → Kp h H (upd H1 ld o) := fun k a o na ha => by
    rw [upd_ne (fun z => by rw [z, nHl] at ha; cases ha)]
    exact k a o na ha
  refine r_if (et_or (et_notIn (k := Sum.inr n) hk4 (ev_var rfl) (ev_var rfl) rfl) fun _ => et_t (K := K) (er_eqI (er_var (a := kind) rfl rfl) (er_i 0))) (fun hb H5 e5 => ?_) fun hb H5 e5 => ?_
  · have hd5 := hd4.ex e5
    refine r_most hd5 rfl fun m H6 m1 m2 kp6 et6 hd6 => ?_
    have hl6 := kp6 _ _ nldh (e5 _ _ hl4)
    refine r_dputE (a := emptyL m) (k := n) hl6 (by omega) (er_f1 (er_var (a := m) rfl rfl) trivial) (ev_var rfl) (ev_var rfl) fun v H7 e7 hv => ?_
    have et06 : ExT H H6 := (et4.trans (Js.Ex.t e5)).trans et6
    have kp06 : Kp h H H6 := (kp4.trans (Ex.kp e5)).trans kp6
    have hB := putB et06 hl6 e7 hv
    have hh := hupd (o := .dK (putK kvs (Sum.inr n) v)) (hd6.ex e7) (e7 _ _ hl6)
    have kpB : Kp h H (upd H7 ld (.dK (putK kvs (Sum.inr n) v))) := kpu (kp06.trans (Ex.kp e7))
    have etB : ExT H (upd H7 ld (.dK (putK kvs (Sum.inr n) v))) := (et06.trans (Js.Ex.t e7)).trans (ext_dK (e7 _ _ hl6))
    generalize upd H7 ld (.dK (putK kvs (Sum.inr n) v)) = H8 at hB hh kpB etB
    refine r_ret2 (K := K) (d := ld) (z := Txt.join " " ["store", n, strI m]) (er_join (er_s " ") (El.er' (el_3 (er_s "store") (er_var (a := n) rfl rfl) (er_str' (er_var (a := m) rfl rfl) (by omega) (by omega)))) ?_) (fun _ _ => ev_var rfl) fun t H9 e9 ht => q t ld _ _ H9 (kpB.trans (Ex.kp e9)) (etB.trans (Js.Ex.t e9)) (hh.ex e9) nHl ht (hB.ex e9) (.store n m hn4 ⟨m1, m2⟩)
    have l1 := n4_len hn4
    have l2 := strI_len (i := m) (by omega) (by omega)
    have l3 : (("store" : PySem.Str)).length = 5 := by decide +kernel
    have l4 : ((" " : PySem.Str)).length = 1 := by decide +kernel
    simp only [List.map_cons, List.map_nil, List.sum_cons, List.sum_nil, List.length_cons, List.length_nil]
    rw [l3, l4]
    omega
  · rw [Bool.or_eq_false_iff] at hb
    obtain ⟨vs, s, hv1, hv2, hvr⟩ : ∃ v s, valV kvs (Sum.inr n) = some v ∧ lookA bl n = some s ∧ r K H v s := by
      rcases dk_val inr_inj hk2 n with ⟨z1, z2⟩ | z
      · rw [z1] at hb
        cases hb.1
      · exact z
    have hp := hP n s hv2
    have n8 := n4_len hn4
    have hl5 := e5 _ _ hl4
    have hd5 := hd4.ex e5
    have et5 := et4.trans (Js.Ex.t e5)
    have kp5 := kp4.trans (Ex.kp e5)
    refine r_setGet (k := Sum.inr n) (e5 _ _ hk4) (ev_var rfl) (fun H2 e2 => ev_var rfl) rfl hv1 fun H6 e6 => ?_
    have hl6 := e6 _ _ hl5
    have hd6 := hd5.ex e6
    have et6 := et5.trans (Js.Ex.t e6)
    have kp6 := kp5.trans (Ex.kp e6)
    have hvr6 : r K H6 vs s := RpT.t et6 hvr
    refine r_if (et_t (K := K) (er_eqI (er_var (a := kind) rfl rfl) (er_i 1))) (fun hb H7 e7 => ?_) fun hb H7 e7 => ?_
    · have hl7 := e7 _ _ hl6
      have et7 := et6.trans (Js.Ex.t e7)
      have kp7 := kp6.trans (Ex.kp e7)
      refine r_dpop (k := Sum.inr n) hl7 (ev_var rfl) (fun H2 e2 => ev_var rfl) rfl hv1 fun H8 e8 => ?_
      have hl8 := e8 _ _ hl7
      have etB := (et7.trans (Js.Ex.t e8)).trans (ext_dK (u := .dK (dropK kvs (Sum.inr n))) hl8)
      have hB : BkR K (upd H8 ld (.dK (dropK kvs (Sum.inr n)))) ld (dropA bl n) := ⟨_, upd_same, dk_drop inr_inj (hstr etB) n⟩
      have hh := hupd (o := .dK (dropK kvs (Sum.inr n))) ((hd6.ex e7).ex e8) hl8
      have kpB : Kp h H (upd H8 ld (.dK (dropK kvs (Sum.inr n)))) := kpu (kp7.trans (Ex.kp e8))
      generalize upd H8 ld (.dK (dropK kvs (Sum.inr n))) = H9 at hB hh kpB etB
      refine r_ret2 (K := K) (d := ld) (z := "drop " ++ n) (er_catS (er_s "drop ") (er_var (a := n) rfl rfl) ?_) (fun _ _ => ev_var rfl) fun t H9 e9 ht => q t ld _ _ H9 (kpB.trans (Ex.kp e9)) (etB.trans (Js.Ex.t e9)) (hh.ex e9) nHl ht (hB.ex e9) (.drop n s hn4 hv2)
      rw [show (("drop " : PySem.Str)).length = 5 by decide +kernel]
      exact sz_of (by omega)
    · have hl7 := e7 _ _ hl6
      have et7 := et6.trans (Js.Ex.t e7)
      have kp7 := kp6.trans (Ex.kp e7)
      have hd7 := hd6.ex e7
      have hvr7 := Rp.mono e7 hvr6
      refine r_if (k := decide (kind < 4) && canKeep s) (et_and (et_t (K := K) (er_IB (g := fun i j => decide (i < j)) (er_var (a := kind) rfl rfl) (er_i 4))) fun _ => et_v (K := K) (er_f1 (er_var rfl hvr7) trivial)) (fun hb H8 e8 => ?_) fun hb H8 e8 => ?_
      · rw [Bool.and_eq_true] at hb
        have hl8 := e8 _ _ hl7
        have et8 := et7.trans (Js.Ex.t e8)
        refine r_dputE (a := keptL s) (k := n) hl8 (by omega) (er_f1 (er_var rfl (Rp.mono e8 hvr7)) hp.k) (ev_var rfl) (ev_var rfl) fun v H9 e9 hv => ?_
        have hB := putB et8 hl8 e9 hv
        have hh := hupd (o := .dK (putK kvs (Sum.inr n) v)) ((hd7.ex e8).ex e9) (e9 _ _ hl8)
        have kpB : Kp h H (upd H9 ld (.dK (putK kvs (Sum.inr n) v))) := kpu ((kp7.trans (Ex.kp e8)).trans (Ex.kp e9))
        have etB : ExT H (upd H9 ld (.dK (putK kvs (Sum.inr n) v))) := (et8.trans (Js.Ex.t e9)).trans (ext_dK (e9 _ _ hl8))
        generalize upd H9 ld (.dK (putK kvs (Sum.inr n) v)) = H10 at hB hh kpB etB
        refine r_ret2 (K := K) (d := ld) (z := "keep " ++ n) (er_catS (er_s "keep ") (er_var (a := n) rfl rfl) ?_) (fun _ _ => ev_var rfl) fun t H9 e9 ht => q t ld _ _ H9 (kpB.trans (Ex.kp e9)) (etB.trans (Js.Ex.t e9)) (hh.ex e9) nHl ht (hB.ex e9) (.keep n s hn4 hv2 hb.2)
        rw [show (("keep " : PySem.Str)).length = 5 by decide +kernel]
        exact sz_of (by omega)
      · have hd8 := hd7.ex e8
        have hm1 := hp.m.1
        have hm2 := hp.m.2
        refine ⟨.ref h, rfl, h, c, cs, rfl, hd8, fun vb b H9 kp9 et9 hd9 hvb hbo => ?_⟩
        refine ⟨.ref h, rfl, vs, rfl, h, c, cs, vs, s, rfl, hd9, RpT.t et9 (Rp.mono e8 hvr7), ⟨by omega, by omega⟩, fun stay H10 s1 s2 kp10 et10 hd10 => ?_⟩
        have hl10 := kp10 _ _ nldh (kp9 _ _ nldh (e8 _ _ hl7))
        have et0 := ((et7.trans (Js.Ex.t e8)).trans et9).trans et10
        have kp0 := ((kp7.trans (Ex.kp e8)).trans kp9).trans kp10
        have hvs10 : r K H10 vs s := RpT.t et10 (RpT.t et9 (Rp.mono e8 hvr7))
        have hvb10 : r K H10 vb b := RpT.t et10 hvb
        refine r_dputE (a := withBL s b stay) (k := n) hl10 (by omega) (er_f3 (er_var rfl hvs10) (er_var rfl hvb10) (er_var (a := stay) rfl rfl) (hp.w b stay hbo s1)) (ev_var rfl) (ev_var rfl) fun v H11 e11 hv => ?_
        have hB := putB et0 hl10 e11 hv
        have hh := hupd (o := .dK (putK kvs (Sum.inr n) v)) (hd10.ex e11) (e11 _ _ hl10)
        have kpB : Kp h H (upd H11 ld (.dK (putK kvs (Sum.inr n) v))) := kpu (kp0.trans (Ex.kp e11))
        have etB : ExT H (upd H11 ld (.dK (putK kvs (Sum.inr n) v))) := (et0.trans (Js.Ex.t e11)).trans (ext_dK (e11 _ _ hl10))
        have hvbB : r K (upd H11 ld (.dK (putK kvs (Sum.inr n) v))) vb b := RpT.t (ext_dK (e11 _ _ hl10)) (Rp.mono e11 hvb10)
        generalize upd H11 ld (.dK (putK kvs (Sum.inr n) v)) = H12 at hB hh kpB etB hvbB
        have hbl4 := hbo.l
        refine r_ret2 (K := K) (d := ld) (z := Txt.join " " ["put", n, strI stay, textL pwS "-" " " b]) (er_join (er_s " ") (El.er' (el_4 (er_s "put") (er_var (a := n) rfl rfl) (er_str' (er_var (a := (stay : Int)) rfl rfl) (by omega) (by omega)) (er_f1 (er_var rfl hvbB) ⟨by omega, okPair_of hbo⟩))) ?_) (fun _ _ => ev_var rfl) fun t H9 e9 ht => q t ld _ _ H9 (kpB.trans (Ex.kp e9)) (etB.trans (Js.Ex.t e9)) (hh.ex e9) nHl ht (hB.ex e9) (.put n s b stay hn4 hv2 hbo s1 s2)
        have l2 := strI_len (i := (stay : Int)) (by omega) (by omega)
        have l3 : (("put" : PySem.Str)).length = 3 := by decide +kernel
        have l4 : ((" " : PySem.Str)).length = 1 := by decide +kernel
        have l5 := textL_len hbo
        simp only [List.map_cons, List.map_nil, List.sum_cons, List.sum_nil, List.length_cons, List.length_nil]
        rw [l3, l4]
        omega
end
end Js
/-! ### runs: what a store makes is what the law tells (no program in sight) -/
namespace Js
open PySem PySem.Spec PyProof.Rows L2 Evl SX
section
theorem asc_eq {α : Type} [DecidableEq α] {f : α → Int} {l m : List α} (hl : l.Pairwise (fun x y => f x < f y)) (hm : m.Pairwise (fun x y => f x < f y)) (h : ∀ x, x ∈ l ↔ x ∈ m) : l = m :=
  pw_uniq ((List.perm_ext_iff_of_nodup (hl.imp fun {a b} z e => by rw [e] at z; omega) (hm.imp fun {a b} z e => by rw [e] at z; omega)).mpr h) hl hm fun x _ y _ p q => by omega
/-! versions by keys -/
def vw (al : List (Int × List PR)) (k : Int) : List PR := (lookA al k).getD []
def NE (al : List (Int × List PR)) : Prop := ∀ p ∈ al, p.2 ≠ []
theorem look_map {al : List (Int × List PR)} {k j : Int} {x : PR} (h : j ≠ k) : lookA (al.map fun a => if a.1 = k then (a.1, a.2 ++ [x]) else a) j = lookA al j := by
  induction al with
  | nil => rfl
  | cons p al ih =>
    rw [List.map_cons, lookA_cons, lookA_cons, ih]
    by_cases hp : p.1 = k
    · have : ¬ p.1 = j := fun e => h (e.symm.trans hp)
      have hk : ¬ k = j := fun e => h e.symm
      simp [hp, hk]
    · simp [hp]
theorem look_snoc {al : List (Int × List PR)} {q : Int × List PR} {j : Int} : lookA (al ++ [q]) j = match lookA al j with
    | some v => some v
    | none => if q.1 = j then some q.2 else none := by
  induction al with
  | nil =>
    rw [List.nil_append, lookA_cons]
    rfl
  | cons p al ih =>
    rw [List.cons_append, lookA_cons, lookA_cons, ih]
    by_cases hp : p.1 = j <;> simp [hp]
theorem look_any {al : List (Int × List PR)} {k : Int} (h : ¬ (al.any fun a => decide (a.1 = k)) = true) : lookA al k = none := by
  induction al with
  | nil => rfl
  | cons p al ih =>
    have hp : ¬ p.1 = k := fun e => by simp [e] at h
    rw [lookA_cons, if_neg hp]
    exact ih (by simpa [hp] using h)
theorem look_insV {al : List (Int × List PR)} {k j : Int} {x : PR} : lookA (insV al k x) j = if j = k then some (vw al k ++ [x]) else lookA al j := by
  unfold insV
  split
  · rename_i h
    by_cases hj : j = k
    · subst hj
      rw [if_pos rfl]
      unfold vw
      induction al with
      | nil => simp at h
      | cons p al ih =>
        rw [List.map_cons, lookA_cons, lookA_cons]
        by_cases hp : p.1 = j
        · simp [hp]
        · have h' : (al.any fun a => decide (a.1 = j)) = true := by simpa [hp] using h
          simp only [hp, if_false]
          exact ih h'
    · rw [if_neg hj]
      exact look_map hj
  · rename_i h
    rw [look_snoc]
    by_cases hj : j = k
    · subst hj
      rw [look_any h, if_pos rfl]
      unfold vw
      rw [look_any h]
      simp
    · rw [if_neg hj]
      have hk : ¬ k = j := fun e => hj e.symm
      cases e : lookA al j <;> simp [hk]
theorem vw_insV {al : List (Int × List PR)} {k j : Int} {x : PR} : vw (insV al k x) j = vw al j ++ (if k = j then [x] else []) := by
  show (lookA (insV al k x) j).getD [] = _
  rw [look_insV]
  by_cases h : j = k
  · subst h
    simp
  · have hk : ¬ k = j := fun e => h e.symm
    rw [if_neg h, if_neg hk, List.append_nil]
    rfl
theorem nodup_insV {al : List (Int × List PR)} {k : Int} {x : PR} (h : NodupA al) : NodupA (insV al k x) := by
  unfold NodupA insV at *
  split
  · rw [List.map_map]
    have : ((fun x : Int × List PR => x.1) ∘ fun a => if a.1 = k then (a.1, a.2 ++ [x]) else a) = fun x : Int × List PR => x.1 := by
      funext y
      simp only [Function.comp]
      split <;> rfl
    rw [this]
    exact h
  · rename_i hn
    rw [List.map_append, List.nodup_append]
    refine ⟨h, by simp, ?_⟩
    intro a ha c hc
    have hc' : c = k := by simpa using hc
    subst hc'
    rintro rfl
    obtain ⟨p, hp, rfl⟩ := List.mem_map.mp ha
    exact hn (List.any_eq_true.mpr ⟨p, hp, by simp⟩)
theorem ne_insV {al : List (Int × List PR)} {k : Int} {x : PR} (h : NE al) : NE (insV al k x) := by
  unfold NE insV at *
  split
  · intro p hp
    obtain ⟨q, hq, rfl⟩ := List.mem_map.mp hp
    split
    · simp
    · exact h q hq
  · intro p hp
    rcases List.mem_append.mp hp with hp | hp
    · exact h p hp
    · rw [List.mem_singleton] at hp
      subst hp
      simp
theorem versB_all {h : Int} {j : Int} (b : List PR) : ∀ al : List (Int × List PR), NodupA al → NE al → NodupA (versB al h b) ∧ NE (versB al h b) ∧ vw (versB al h b) j = vw al j ++ ((b.filter fun x => decide (x.1 = j)).map fun x => (h, x.2)) := by
  induction b with
  | nil => exact fun al h1 h2 => ⟨h1, h2, by show vw al j = _; simp⟩
  | cons x b ih =>
    intro al h1 h2
    obtain ⟨q1, q2, q3⟩ := ih (insV al x.1 (h, x.2)) (nodup_insV h1) (ne_insV h2)
    refine ⟨q1, q2, q3.trans ?_⟩
    rw [vw_insV]
    by_cases hx : x.1 = j
    · rw [if_pos hx, List.filter_cons_of_pos (by simp [hx]), List.map_cons, List.append_assoc]
      rfl
    · rw [if_neg hx, List.filter_cons_of_neg (by simp [hx]), List.append_nil]
theorem versR_all {bs : List (List PR)} {a : Nat} {j : Int} : ∀ n, NodupA (versR bs (a : Int) n) ∧ NE (versR bs (a : Int) n) ∧ vw (versR bs (a : Int) n) j = ownL bs a j n
  | 0 => ⟨List.nodup_nil, fun p hp => (List.not_mem_nil hp).elim, rfl⟩
  | n + 1 => by
    obtain ⟨q1, q2, q3⟩ := versR_all (bs := bs) (a := a) (j := j) n
    obtain ⟨r1, r2, r3⟩ := versB_all (h := (a : Int) + (n : Nat)) (j := j) (bs.getD ((a : Int).toNat + n) []) _ q1 q2
    refine ⟨r1, r2, r3.trans ?_⟩
    rw [q3]
    rfl
theorem mem_versR {bs : List (List PR)} {a n : Nat} {k : Int} {l : List PR} : (k, l) ∈ versR bs (a : Int) n ↔ l = ownL bs a k n ∧ l ≠ [] := by
  obtain ⟨q1, q2, q3⟩ := versR_all (bs := bs) (a := a) (j := k) n
  constructor
  · intro h
    have h2 := (mem_lookA q1).mp h
    refine ⟨?_, q2 _ h⟩
    rw [← q3]
    unfold vw
    rw [h2]
    rfl
  · rintro ⟨rfl, h⟩
    rw [mem_lookA q1]
    unfold vw at q3
    cases e : lookA (versR bs (a : Int) n) k with
    | none => rw [e] at q3; exact absurd q3.symm h
    | some v => rw [e] at q3; rw [← q3]; rfl
/-! one key's versions -/
def BO (bs : List (List PR)) : Prop := ∀ c ∈ bs, BatOk c
theorem BO.at_ {bs : List (List PR)} (h : BO bs) (i : Nat) : BatOk (bs.getD i []) := by
  rw [List.getD_eq_getElem?_getD]
  cases e : bs[i]? with
  | none => exact ⟨Nat.zero_le _, List.Pairwise.nil, fun x hx => (List.not_mem_nil hx).elim, fun x hx => (List.not_mem_nil hx).elim⟩
  | some c => exact h c (List.mem_of_getElem? e)
theorem one_of {c : List PR} (h : BatOk c) (k : Int) : (c.filter fun x => decide (x.1 = k)).length ≤ 1 := by
  have h1 : (c.filter fun x => decide (x.1 = k)).Pairwise (fun x y => x.1 < y.1) := (List.pairwise_map.mp h.a).filter _
  have h2 : ∀ x ∈ c.filter fun x => decide (x.1 = k), x.1 = k := fun x hx => by simpa using (List.mem_filter.mp hx).2
  generalize (c.filter fun x => decide (x.1 = k)) = f at h1 h2
  match f with
  | [] => exact Nat.zero_le _
  | [_] => exact Nat.le_refl _
  | x :: y :: r =>
    have a1 := h2 x (List.mem_cons_self ..)
    have a2 := h2 y (List.mem_cons_of_mem _ (List.mem_cons_self ..))
    have a3 := (List.pairwise_cons.mp h1).1 y (List.mem_cons_self ..)
    omega
theorem own_all {bs : List (List PR)} (h : BO bs) {a : Nat} {k : Int} : ∀ n, (ownL bs a k n).Pairwise (fun x y => x.1 < y.1) ∧ (∀ x ∈ ownL bs a k n, (a : Int) ≤ x.1 ∧ x.1 < a + (n : Nat)) ∧ (ownL bs a k n).length ≤ n
  | 0 => ⟨List.Pairwise.nil, fun x hx => (List.not_mem_nil hx).elim, Nat.le_refl _⟩
  | n + 1 => by
    obtain ⟨q1, q2, q3⟩ := own_all h (a := a) (k := k) n
    have o1 := one_of (h.at_ (a + n)) k
    have e : ownL bs a k (n + 1) = ownL bs a k n ++ ((bs.getD (a + n) []).filter fun x => decide (x.1 = k)).map fun x => ((a : Int) + (n : Nat), x.2) := rfl
    rw [e]
    generalize (bs.getD (a + n) []).filter (fun x => decide (x.1 = k)) = f at o1
    refine ⟨List.pairwise_append.mpr ⟨q1, ?_, fun x hx y hy => ?_⟩, fun x hx => ?_, ?_⟩
    · match f, o1 with
      | [], _ => exact List.Pairwise.nil
      | [_], _ => exact List.pairwise_singleton _ _
      | _ :: _ :: _, o1 => simp at o1
    · obtain ⟨z, _, rfl⟩ := List.mem_map.mp hy
      exact (q2 x hx).2
    · rcases List.mem_append.mp hx with hx | hx
      · have := q2 x hx
        exact ⟨this.1, by omega⟩
      · obtain ⟨z, _, rfl⟩ := List.mem_map.mp hx
        exact ⟨by show (a : Int) ≤ a + (n : Int); omega, by show (a : Int) + (n : Int) < a + ((n + 1 : Nat) : Int); omega⟩
    · rw [List.length_append, List.length_map]
      omega
theorem own_mem {bs : List (List PR)} {a : Nat} {k : Int} {x : PR} : ∀ {n}, x ∈ ownL bs a k n ↔ ∃ j, j < n ∧ x.1 = (a : Int) + (j : Nat) ∧ (k, x.2) ∈ bs.getD (a + j) []
  | 0 => ⟨fun h => (List.not_mem_nil h).elim, fun ⟨_, h, _⟩ => by omega⟩
  | n + 1 => by
    have e : ownL bs a k (n + 1) = ownL bs a k n ++ ((bs.getD (a + n) []).filter fun x => decide (x.1 = k)).map fun x => ((a : Int) + (n : Nat), x.2) := rfl
    rw [e, List.mem_append, own_mem (n := n)]
    constructor
    · rintro (⟨j, h1, h2⟩ | h)
      · exact ⟨j, by omega, h2⟩
      · obtain ⟨⟨z1, z2⟩, hz, rfl⟩ := List.mem_map.mp h
        obtain ⟨hz1, hz2⟩ := List.mem_filter.mp hz
        have : z1 = k := by simpa using hz2
        subst this
        exact ⟨n, by omega, rfl, hz1⟩
    · rintro ⟨j, h1, h2, h3⟩
      by_cases hj : j < n
      · exact .inl ⟨j, hj, h2, h3⟩
      · have : j = n := by omega
        subst this
        refine .inr (List.mem_map.mpr ⟨(k, x.2), List.mem_filter.mpr ⟨h3, by simp⟩, ?_⟩)
        exact Prod.ext h2.symm rfl
theorem own_app {bs cs : List (List PR)} {a : Nat} {k : Int} : ∀ {n}, a + n ≤ bs.length → ownL (bs ++ cs) a k n = ownL bs a k n
  | 0, _ => rfl
  | n + 1, h => by
    have e : ∀ bs : List (List PR), ownL bs a k (n + 1) = ownL bs a k n ++ ((bs.getD (a + n) []).filter fun x => decide (x.1 = k)).map fun x => ((a : Int) + (n : Nat), x.2) := fun _ => rfl
    rw [e, e, own_app (n := n) (by omega), List.getD_eq_getElem?_getD, List.getD_eq_getElem?_getD, List.getElem?_append_left (by omega)]
theorem own_split {bs : List (List PR)} {k : Int} {a : Nat} : ∀ n, ownL bs 0 k (a + n) = ownL bs 0 k a ++ ownL bs a k n
  | 0 => by show _ = _ ++ []; rw [List.append_nil]; rfl
  | n + 1 => by
    have e : ownL bs 0 k (a + (n + 1)) = ownL bs 0 k (a + n) ++ ((bs.getD (0 + (a + n)) []).filter fun x => decide (x.1 = k)).map fun x => (((0 : Nat) : Int) + ((a + n : Nat) : Int), x.2) := rfl
    have e2 : ownL bs a k (n + 1) = ownL bs a k n ++ ((bs.getD (a + n) []).filter fun x => decide (x.1 = k)).map fun x => ((a : Int) + (n : Nat), x.2) := rfl
    rw [e, e2, own_split n, List.append_assoc, Nat.zero_add]
    have : (((0 : Nat) : Int) + ((a + n : Nat) : Int)) = (a : Int) + (n : Nat) := by omega
    rw [this]
theorem keys_own {bs : List (List PR)} {a b : Nat} {k : Int} (hab : a ≤ b) (hb : b < bs.length) : k ∈ keysL bs a b ↔ ownL bs a k (b + 1 - a) ≠ [] := by
  constructor
  · intro h
    obtain ⟨c, hc, hk⟩ := List.mem_flatMap.mp h
    obtain ⟨x, hx, rfl⟩ := List.mem_map.mp hk
    obtain ⟨j, hj⟩ := List.mem_iff_getElem?.mp hc
    rw [List.getElem?_drop] at hj
    have hlt : a + j < b + 1 := by
      have := (List.getElem?_eq_some_iff.mp hj).1
      rw [List.length_take] at this
      omega
    rw [List.getElem?_take_of_lt hlt] at hj
    have hm : ((a : Int) + (j : Nat), x.2) ∈ ownL bs a x.1 (b + 1 - a) := own_mem.mpr ⟨j, by omega, rfl, by rw [List.getD_eq_getElem?_getD, hj]; exact hx⟩
    exact List.ne_nil_of_mem hm
  · intro h
    obtain ⟨x, hx⟩ := List.exists_mem_of_ne_nil _ h
    obtain ⟨j, h1, h2, h3⟩ := own_mem.mp hx
    refine List.mem_flatMap.mpr ⟨bs.getD (a + j) [], ?_, List.mem_map.mpr ⟨_, h3, rfl⟩⟩
    refine List.mem_iff_getElem?.mpr ⟨j, ?_⟩
    rw [List.getElem?_drop, List.getElem?_take_of_lt (by omega), List.getD_eq_getElem?_getD, List.getElem?_eq_getElem (by omega)]
    rfl
/-! the needed ones -/
theorem last_mem {α : Type} {l : List α} {z : α} (h : l.getLast? = some z) : z ∈ l := List.mem_of_getLast? h
theorem last_split {α : Type} {l : List α} {z : α} (h : l.getLast? = some z) : ∃ l', l = l' ++ [z] := by
  have hne : l ≠ [] := fun e => by rw [e] at h; cases h
  refine ⟨l.dropLast, ?_⟩
  rw [List.getLast?_eq_some_getLast hne] at h
  have := List.dropLast_concat_getLast hne
  rw [Option.some.inj h] at this
  exact this.symm
theorem last_max {l : List PR} (hl : l.Pairwise (fun x y => x.1 < y.1)) {z x : PR} (h : l.getLast? = some z) (hx : x ∈ l) : x = z ∨ x.1 < z.1 := by
  obtain ⟨l', rfl⟩ := last_split h
  rcases List.mem_append.mp hx with hx | hx
  · exact .inr ((List.pairwise_append.mp hl).2.2 x hx z (List.mem_singleton.mpr rfl))
  · exact .inl (List.mem_singleton.mp hx)
theorem asc_inj {l : List PR} (hl : l.Pairwise (fun x y => x.1 < y.1)) {x y : PR} (hx : x ∈ l) (hy : y ∈ l) (h : x.1 = y.1) : x = y := by
  induction hl with
  | nil => cases hx
  | @cons a l ha hl ih =>
    rcases List.mem_cons.mp hx with e1 | hx2
    · rcases List.mem_cons.mp hy with e2 | hy2
      · rw [e1, e2]
      · have := ha y hy2
        rw [e1] at h
        omega
    · rcases List.mem_cons.mp hy with e2 | hy2
      · have := ha x hx2
        rw [e2] at h
        omega
      · exact ih hx2 hy2
def lastP (l : List PR) (m : Int) : Option PR := (l.filter fun x => decide (x.1 ≤ m)).getLast?
theorem needS_mem {l acc : List PR} {m : Int} {x : PR} : x ∈ needS l acc m ↔ x ∈ acc ∨ lastP l m = some x := by
  unfold needS lastP
  cases h : (l.filter fun x => decide (x.1 ≤ m)).getLast? with
  | none => simp
  | some z =>
    dsimp only
    split
    · rename_i hz
      constructor
      · exact .inl
      · rintro (h | h)
        · exact h
        · cases h; exact hz
    · rw [List.mem_append, List.mem_singleton]
      constructor
      · rintro (h | rfl)
        · exact .inl h
        · exact .inr rfl
      · rintro (h | h)
        · exact .inl h
        · cases h; exact .inr rfl
theorem needF_mem {l : List PR} {x : PR} : ∀ {ms : List Int} {acc : List PR}, x ∈ ms.foldl (needS l) acc ↔ x ∈ acc ∨ ∃ m ∈ ms, lastP l m = some x
  | [], acc => by simp
  | m :: ms, acc => by
    rw [List.foldl_cons, needF_mem (ms := ms), needS_mem]
    constructor
    · rintro ((h | h) | ⟨m', h1, h2⟩)
      · exact .inl h
      · exact .inr ⟨m, List.mem_cons_self .., h⟩
      · exact .inr ⟨m', List.mem_cons_of_mem _ h1, h2⟩
    · rintro (h | ⟨m', h1, h2⟩)
      · exact .inl (.inl h)
      · rcases List.mem_cons.mp h1 with rfl | h1
        · exact .inl (.inr h2)
        · exact .inr ⟨m', h1, h2⟩
theorem needL_mem {l : List PR} {ms : List Int} {x : PR} : x ∈ needL l ms ↔ ∃ m ∈ ms, lastP l m = some x := by
  unfold needL
  rw [needF_mem]
  simp
theorem needF_asc {l : List PR} (hl : l.Pairwise (fun x y => x.1 < y.1)) : ∀ {ms : List Int} {acc : List PR}, ms.Pairwise (· ≤ ·) → acc.Pairwise (fun x y => x.1 < y.1) → (∀ x ∈ acc, x ∈ l ∧ ∀ m ∈ ms, x.1 ≤ m) → (ms.foldl (needS l) acc).Pairwise (fun x y => x.1 < y.1)
  | [], acc, _, h, _ => h
  | m :: ms, acc, hm, ha, hx => by
    rw [List.foldl_cons]
    obtain ⟨hm1, hm2⟩ := List.pairwise_cons.mp hm
    refine needF_asc hl hm2 ?_ fun x hx' => ?_
    · unfold needS
      cases h : (l.filter fun x => decide (x.1 ≤ m)).getLast? with
      | none => exact ha
      | some z =>
        dsimp only
        split
        · exact ha
        · rename_i hz
          refine List.pairwise_append.mpr ⟨ha, List.pairwise_singleton _ _, fun x hx1 y hy => ?_⟩
          rw [List.mem_singleton] at hy
          subst hy
          have := hx x hx1
          rcases last_max (hl.filter _) h (List.mem_filter.mpr ⟨this.1, by simpa using this.2 m (List.mem_cons_self ..)⟩) with e | e
          · rw [e] at hx1
            exact absurd hx1 hz
          · exact e
    · rcases needS_mem.mp hx' with h | h
      · exact ⟨(hx x h).1, fun m' hm' => (hx x h).2 m' (List.mem_cons_of_mem _ hm')⟩
      · have := List.mem_filter.mp (last_mem h)
        refine ⟨this.1, fun m' hm' => ?_⟩
        have h2 : x.1 ≤ m := by simpa using this.2
        have := hm1 m' hm'
        omega
theorem needL_asc {l : List PR} {ms : List Int} (hl : l.Pairwise (fun x y => x.1 < y.1)) (hm : ms.Pairwise (· ≤ ·)) : (needL l ms).Pairwise (fun x y => x.1 < y.1) := needF_asc hl hm List.Pairwise.nil fun x hx => (List.not_mem_nil hx).elim
theorem drop_last {α : Type} (l : List α) : l.drop (l.length - 1) = l.getLast?.toList := by
  cases h : l.getLast? with
  | none => rw [List.getLast?_eq_none_iff.mp h]; rfl
  | some z =>
    obtain ⟨l', rfl⟩ := last_split h
    rw [show (l' ++ [z]).length - 1 = l'.length by simp, List.drop_left]
    rfl
theorem lastH_mem {l : List PR} {m h : Int} : h ∈ lastH l m ↔ ∃ x, lastP l m = some x ∧ x.1 = h := by
  unfold lastH lastP
  rw [← List.map_drop, drop_last]
  cases (l.filter fun x => decide (x.1 ≤ m)).getLast? with
  | none => simp
  | some z => simp [eq_comm]
theorem needH_mem {l : List PR} {ms : List Int} {h : Int} : h ∈ needH l ms ↔ ∃ m ∈ ms, ∃ x, lastP l m = some x ∧ x.1 = h := by
  unfold needH
  rw [List.mem_flatMap]
  constructor
  · rintro ⟨m, h1, h2⟩
    exact ⟨m, h1, lastH_mem.mp h2⟩
  · rintro ⟨m, h1, h2⟩
    exact ⟨m, h1, lastH_mem.mpr h2⟩
theorem lastP_mem {l : List PR} {m : Int} {x : PR} (h : lastP l m = some x) : x ∈ l := (List.mem_filter.mp (last_mem h)).1
theorem need_is {l : List PR} {ms ms' : List Int} (hl : l.Pairwise (fun x y => x.1 < y.1)) (hm : ms.Pairwise (· ≤ ·)) (hs : ∀ m, m ∈ ms ↔ m ∈ ms') : needL l ms = l.filter fun x => decide (x.1 ∈ needH l ms') := by
  refine asc_eq (f := fun x : PR => x.1) (needL_asc hl hm) (hl.filter _) fun x => ?_
  rw [needL_mem, List.mem_filter, decide_eq_true_eq, needH_mem]
  constructor
  · rintro ⟨m, h1, h2⟩
    exact ⟨lastP_mem h2, m, (hs m).mp h1, x, h2, rfl⟩
  · rintro ⟨h0, m, h1, y, h2, h3⟩
    have : y = x := asc_inj hl (lastP_mem h2) h0 h3
    subst this
    exact ⟨m, (hs m).mpr h1, h2⟩
theorem found_t {key : Int} {nd : List Int} : ∀ l : List PR, foundL key nd true l = (l.filter fun x => decide (x.1 ∈ nd)).map fun x => ⟨key, x.1, x.2⟩
  | [] => rfl
  | x :: l => by
    unfold foundL
    by_cases h : x.1 ∈ nd
    · rw [if_pos (by simp [h]), found_t l, List.filter_cons_of_pos (by simp [h])]
      rfl
    · rw [if_neg (by simp [h]), found_t l, List.filter_cons_of_neg (by simp [h])]
theorem found_f {key : Int} {nd : List Int} : ∀ l : List PR, foundL key nd false l = ((l.filter fun x => decide (x.1 ∈ nd)).dropWhile fun x => x.2.isNone).map fun x => ⟨key, x.1, x.2⟩
  | [] => rfl
  | x :: l => by
    unfold foundL
    by_cases h : x.1 ∈ nd
    · rw [List.filter_cons_of_pos (by simp [h])]
      by_cases h2 : x.2.isSome = true
      · have h3 : ¬ (fun x : PR => x.2.isNone) x = true := fun z => by
          have z2 : x.2.isNone = true := z
          rw [Option.isNone_iff_eq_none] at z2
          rw [z2] at h2
          cases h2
        rw [if_pos (by simp [h, h2]), found_t l, List.dropWhile_cons_of_neg (p := fun x : PR => x.2.isNone) (a := x) h3]
        rfl
      · have h3 : (fun x : PR => x.2.isNone) x = true := by
          show x.2.isNone = true
          cases e : x.2 with
          | none => rfl
          | some v => rw [e] at h2; exact absurd rfl h2
        rw [if_neg (by simp [h2]), found_f l, List.dropWhile_cons_of_pos (p := fun x : PR => x.2.isNone) (a := x) h3]
    · rw [if_neg (by simp [h]), found_f l, List.filter_cons_of_neg (by simp [h])]
theorem marksL_asc {ks : List Int} {a b : Int} (hk : ks.Pairwise (· < ·)) : (marksL ks a b).Pairwise (· ≤ ·) := by
  unfold marksL
  refine List.pairwise_append.mpr ⟨(hk.filter _).imp fun {x y} z => by omega, List.pairwise_singleton _ _, fun x hx y hy => ?_⟩
  rw [List.mem_singleton] at hy
  subst hy
  have := (List.mem_filter.mp hx).2
  simp at this
  omega
theorem marks_mem {ks : List Int} {a b : Int} (m : Int) : m ∈ marksL ks a b ↔ m ∈ marksB ks a b := by
  unfold marksL marksB
  rw [List.mem_append, List.mem_append, List.mem_filter, List.mem_filter, List.mem_singleton]
  simp only [Bool.and_eq_true, decide_eq_true_eq]
  constructor
  · rintro (⟨h1, h2, h3⟩ | h)
    · exact .inl ⟨h1, h2, by omega⟩
    · exact .inr h
  · rintro (⟨h1, h2, h3⟩ | h)
    · by_cases e : m = b
      · exact .inr e
      · exact .inl ⟨h1, h2, by omega⟩
    · exact .inr h
structure RunOk (bs : List (List PR)) (ks : List Int) (a b : Nat) : Prop where
  bo : BO bs
  ks : ks.Pairwise (· < ·)
  ab : a ≤ b
  bl : b < bs.length
section
variable {bs : List (List PR)} {ks : List Int} {a b : Nat}
theorem oneK_is (R : RunOk bs ks a b) (k : Int) : oneK (marksL ks a b) a (k, ownL bs a k (b + 1 - a)) = oneL bs ks a b k := by
  have hl := (own_all R.bo (a := a) (k := k) (b + 1 - a)).1
  unfold oneK oneL
  dsimp only
  rw [need_is hl (marksL_asc R.ks) marks_mem]
  unfold strk
  by_cases h : a = 0
  · subst h
    rw [if_pos (show ((0 : Nat) : Int) = 0 from rfl)]
    exact (found_f _).symm
  · rw [if_neg (by omega), show decide (0 < a) = true from decide_eq_true (by omega)]
    exact (found_t _).symm
theorem oneL_mem {k : Int} {x : TR} (h : x ∈ oneL bs ks a b k) : x.a = k ∧ (x.b, x.c) ∈ ownL bs a k (b + 1 - a) := by
  unfold oneL at h
  have key : ∀ {nd : List Int} {s : Bool} {l : List PR}, x ∈ foundL k nd s l → x.a = k ∧ (x.b, x.c) ∈ l := by
    intro nd s l
    induction l generalizing s with
    | nil => exact fun h => (List.not_mem_nil h).elim
    | cons y l ih =>
      intro h
      unfold foundL at h
      split at h
      · rcases List.mem_cons.mp h with rfl | h
        · exact ⟨rfl, List.mem_cons_self ..⟩
        · exact ⟨(ih h).1, List.mem_cons_of_mem _ (ih h).2⟩
      · exact ⟨(ih h).1, List.mem_cons_of_mem _ (ih h).2⟩
  exact key h
theorem BO.key {bs : List (List PR)} (h : BO bs) {a n : Nat} {k : Int} {x : PR} (hx : x ∈ ownL bs a k n) : (0 : Int) ≤ k ∧ k < 8 := by
  obtain ⟨j, _, _, h3⟩ := own_mem.mp hx
  exact (h.at_ _).k _ h3
theorem keysL_b (R : RunOk bs ks a b) : ∀ k ∈ keysL bs a b, (0 : Int) ≤ k ∧ k < 8 := fun k hk => by
  obtain ⟨x, hx⟩ := List.exists_mem_of_ne_nil _ ((keys_own R.ab R.bl).mp hk)
  exact R.bo.key hx
theorem keyS_is (R : RunOk bs ks a b) {k : Int} : k ∈ keyS (keysL bs a b) ↔ ownL bs a k (b + 1 - a) ≠ [] := by
  rw [keyS_mem fun k hk => by have := keysL_b R k hk; omega]
  exact keys_own R.ab R.bl
theorem toN (R : RunOk bs ks a b) : ((b : Int) + 1 - (a : Int)).toNat = b + 1 - a := by have := R.ab; omega
theorem raw_perm (R : RunOk bs ks a b) : (madeRaw bs ks a b).Perm (runL bs ks a b) := by
  unfold madeRaw runL
  rw [toN R]
  have e : (versR bs (a : Int) (b + 1 - a)).flatMap (oneK (marksL ks a b) a) = ((versR bs (a : Int) (b + 1 - a)).map (·.1)).flatMap (oneL bs ks a b) := by
    rw [List.flatMap_map]
    have : ∀ l : List (Int × List PR), (∀ kv ∈ l, oneK (marksL ks a b) a kv = oneL bs ks a b kv.1) → l.flatMap (oneK (marksL ks a b) a) = l.flatMap fun kv => oneL bs ks a b kv.1 := by
      intro l
      induction l with
      | nil => exact fun _ => rfl
      | cons kv l ih => exact fun h => by rw [List.flatMap_cons, List.flatMap_cons, h kv (List.mem_cons_self ..), ih fun z hz => h z (List.mem_cons_of_mem _ hz)]
    refine this _ fun kv hkv => ?_
    obtain ⟨k, l⟩ := kv
    obtain ⟨rfl, _⟩ := mem_versR.mp hkv
    exact oneK_is R k
  rw [e]
  refine List.Perm.flatMap_right _ ((List.perm_ext_iff_of_nodup (versR_all (bs := bs) (a := a) (j := 0) _).1 (asc_nodup (keyS_pw _))).mpr fun k => ?_)
  rw [keyS_is R, List.mem_map]
  constructor
  · rintro ⟨⟨k, l⟩, h, rfl⟩
    obtain ⟨rfl, h2⟩ := mem_versR.mp h
    exact h2
  · intro h
    exact ⟨(k, ownL bs a k (b + 1 - a)), mem_versR.mpr ⟨rfl, h⟩, rfl⟩
theorem run_inj (R : RunOk bs ks a b) : ∀ x ∈ runL bs ks a b, ∀ y ∈ runL bs ks a b, kT x = kT y → x = y := by
  intro x hx y hy e
  obtain ⟨k, _, h1⟩ := List.mem_flatMap.mp hx
  obtain ⟨k', _, h2⟩ := List.mem_flatMap.mp hy
  obtain ⟨a1, a2⟩ := oneL_mem h1
  obtain ⟨b1, b2⟩ := oneL_mem h2
  have e1 : x.a = y.a := congrArg Prod.fst e
  have e2 : x.b = y.b := congrArg Prod.snd e
  have ek : k' = k := by rw [← a1, ← b1, e1]
  subst ek
  have := asc_inj (own_all R.bo (a := a) (k := k') (b + 1 - a)).1 a2 b2 e2
  obtain ⟨xa, xb, xc⟩ := x
  obtain ⟨ya, yb, yc⟩ := y
  cases this
  cases e1
  rfl
theorem raw_inj (R : RunOk bs ks a b) : RawInj bs ks a b := fun x hx y hy => run_inj R x ((raw_perm R).mem_iff.mp hx) y ((raw_perm R).mem_iff.mp hy)
theorem oneL_asc (R : RunOk bs ks a b) (k : Int) : (oneL bs ks a b k).Pairwise (fun x y => x.b < y.b) := by
  have hl := (own_all R.bo (a := a) (k := k) (b + 1 - a)).1
  unfold oneL
  generalize needH _ _ = nd
  generalize decide (0 < a) = s
  cases s with
  | true =>
    rw [found_t]
    exact List.pairwise_map.mpr (hl.filter _)
  | false =>
    rw [found_f]
    exact List.pairwise_map.mpr ((hl.filter _).sublist (List.dropWhile_sublist _))
theorem run_sorted (R : RunOk bs ks a b) : (runL bs ks a b).Pairwise (fun x y => SrtO.lexB (kT y) (kT x) = false) := by
  unfold runL
  refine List.pairwise_flatMap.mpr ⟨fun k hk => (List.pairwise_iff_forall_sublist.mpr fun {x y} hs => ?_), (keyS_pw _).imp fun {k k'} h x hx y hy => ?_⟩
  · have hx := hs.subset (List.mem_cons_self ..)
    have hy := hs.subset (List.mem_cons_of_mem _ (List.mem_cons_self ..))
    have h1 := List.pairwise_iff_forall_sublist.mp (oneL_asc R k) hs
    have e1 := (oneL_mem hx).1
    have e2 := (oneL_mem hy).1
    refine SrtO.lexB_no.mpr ?_
    show _
    unfold kT
    omega
  · have e1 := (oneL_mem hx).1
    have e2 := (oneL_mem hy).1
    refine SrtO.lexB_no.mpr ?_
    unfold kT
    omega
theorem made_is (R : RunOk bs ks a b) : madeL bs ks a b = runL bs ks a b := (sortT_is (raw_perm R).symm (run_sorted R) (raw_inj R)).symm
theorem run_len (R : RunOk bs ks a b) : (runL bs ks a b).length ≤ 8 * bs.length := by
  unfold runL
  have h8 : (keyS (keysL bs a b)).length ≤ 8 := by
    have := nodup_le (m := upI 0 8) (asc_nodup (keyS_pw (keysL bs a b))) fun k hk => by
      have hk2 := keysL_b R k ((keyS_mem fun k hk => by have := keysL_b R k hk; omega).mp hk)
      exact mem_upI.mpr ⟨by omega, by omega⟩
    rwa [upI_len] at this
  have h1 : ∀ k, (oneL bs ks a b k).length ≤ bs.length := fun k => by
    have h2 := foundL_len (key := k) (nd := needH (ownL bs a k (b + 1 - a)) (marksB ks a b)) (l := ownL bs a k (b + 1 - a)) (s := decide (0 < a))
    have h3 := (own_all R.bo (a := a) (k := k) (b + 1 - a)).2.2
    have := R.bl
    unfold oneL
    omega
  have : ∀ l : List Int, (l.flatMap (oneL bs ks a b)).length ≤ l.length * bs.length := by
    intro l
    induction l with
    | nil => simp
    | cons k l ih =>
      have := h1 k
      rw [List.flatMap_cons, List.length_append, List.length_cons, Nat.succ_mul]
      omega
  exact Nat.le_trans (this _) (Nat.mul_le_mul_right _ h8)
/-! what stays -/
theorem found_congr {key : Int} {nd nd' : List Int} (h : ∀ x, x ∈ nd ↔ x ∈ nd') : ∀ {s : Bool} {l : List PR}, foundL key nd s l = foundL key nd' s l
  | _, [] => rfl
  | s, x :: l => by
    unfold foundL
    have e : decide (x.1 ∈ nd) = decide (x.1 ∈ nd') := by simp [h]
    rw [e]
    split
    · rw [found_congr h]
    · rw [found_congr h]
theorem run_app (h : b < bs.length) (hab : a ≤ b) (cs : List (List PR)) : runL (bs ++ cs) ks a b = runL bs ks a b := by
  have ek : keysL (bs ++ cs) a b = keysL bs a b := by
    unfold keysL
    rw [List.take_append_of_le_length (by omega)]
  unfold runL
  rw [ek]
  have eo : oneL (bs ++ cs) ks a b = oneL bs ks a b := by
    funext k
    unfold oneL
    rw [own_app (by omega)]
  rw [eo]
theorem run_kept {h : Int} (hh : (b : Int) ≤ h) : runL bs (ks ++ [h]) a b = runL bs ks a b := by
  unfold runL
  have eo : oneL bs (ks ++ [h]) a b = oneL bs ks a b := by
    funext k
    unfold oneL
    refine found_congr fun x => ?_
    rw [needH_mem, needH_mem]
    have hm : ∀ m, m ∈ marksB (ks ++ [h]) a b ↔ m ∈ marksB ks a b := fun m => by
      unfold marksB
      rw [List.filter_append]
      simp only [List.mem_append, List.mem_filter, List.mem_singleton, Bool.and_eq_true, decide_eq_true_eq]
      constructor
      · rintro ((z | ⟨z1, z2, z3⟩) | z)
        · exact .inl z
        · exact .inr (by omega)
        · exact .inr z
      · rintro (z | z)
        · exact .inl (.inl z)
        · exact .inr z
    constructor
    · rintro ⟨m, h1, h2⟩
      exact ⟨m, (hm m).mp h1, h2⟩
    · rintro ⟨m, h1, h2⟩
      exact ⟨m, (hm m).mpr h1, h2⟩
  rw [eo]
end
end
end Js
/-! ### what is seen: stretch and sight -/
namespace Js
open PySem PySem.Spec PyProof.Rows L2 Evl SX
section
def lastV (bs : List (List PR)) (k : Int) (n : Nat) : Option (Option Int) := (ownL bs 0 k n).getLast?.map (·.2)
theorem seenS_look (k : Int) : ∀ (l : List TR) (acc : List (Int × Option Int)), lookA (seenS acc l) k = match (l.filter fun x => decide (x.a = k)).getLast? with
    | some x => some x.c
    | none => lookA acc k
  | [], acc => rfl
  | x :: l, acc => by
    show lookA (seenS (putA acc x.a x.c) l) k = _
    rw [seenS_look k l]
    by_cases h : x.a = k
    · rw [List.filter_cons_of_pos (by simp [h]), List.getLast?_cons]
      cases (l.filter fun x => decide (x.a = k)).getLast? with
      | none => simp [lookA_put, h]
      | some y => rfl
    · rw [List.filter_cons_of_neg (by simp [h])]
      cases (l.filter fun x => decide (x.a = k)).getLast? with
      | none =>
        have hk : ¬ k = x.a := fun e => h e.symm
        simp [lookA_put, hk]
      | some y => rfl
theorem seenS_nodup : ∀ (l : List TR) (acc : List (Int × Option Int)), NodupA acc → NodupA (seenS acc l)
  | [], _, h => h
  | x :: l, acc, h => seenS_nodup l _ (nodup_put h)
theorem seenD_nodup : ∀ (rs : List (List TR)) (acc : List (Int × Option Int)), NodupA acc → NodupA (rs.foldl seenS acc)
  | [], _, h => h
  | x :: l, acc, h => seenD_nodup l _ (seenS_nodup x acc h)
section
variable {bs : List (List PR)} {ks : List Int} {a b : Nat}
theorem run_filter (R : RunOk bs ks a b) (k : Int) : (runL bs ks a b).filter (fun x => decide (x.a = k)) = oneL bs ks a b k := by
  have key : ∀ l : List Int, l.Nodup → ((l.flatMap (oneL bs ks a b)).filter fun x => decide (x.a = k)) = if k ∈ l then oneL bs ks a b k else [] := by
    intro l
    induction l with
    | nil => exact fun _ => rfl
    | cons j l ih =>
      intro hn
      obtain ⟨h1, h2⟩ := List.nodup_cons.mp hn
      rw [List.flatMap_cons, List.filter_append, ih h2]
      by_cases hj : j = k
      · subst hj
        rw [if_neg h1, if_pos (List.mem_cons_self ..), List.append_nil, List.filter_eq_self]
        exact fun x hx => by simp [(oneL_mem hx).1]
      · have hk : ¬ k = j := fun e => hj e.symm
        have e0 : (oneL bs ks a b j).filter (fun x => decide (x.a = k)) = [] := by
          rw [List.filter_eq_nil_iff]
          intro x hx
          simp [(oneL_mem hx).1, hj]
        rw [e0, List.nil_append]
        by_cases hm : k ∈ l
        · rw [if_pos hm, if_pos (List.mem_cons_of_mem _ hm)]
        · rw [if_neg hm, if_neg (by simp [hk, hm])]
  unfold runL
  rw [key _ (asc_nodup (keyS_pw _))]
  split
  · rfl
  · rename_i h
    have h0 : ownL bs a k (b + 1 - a) = [] := by
      by_cases e : ownL bs a k (b + 1 - a) = []
      · exact e
      · exact absurd ((keyS_is R).mpr e) h
    unfold oneL
    rw [h0]
    rfl
theorem filter_last {l : List PR} {p : PR → Bool} {z : PR} (h : l.getLast? = some z) (hp : p z = true) : (l.filter p).getLast? = some z := by
  obtain ⟨l', rfl⟩ := last_split h
  rw [List.filter_append, List.filter_cons_of_pos hp, List.filter_nil, List.getLast?_concat]
theorem last_needed (R : RunOk bs ks a b) {k : Int} {z : PR} (h : (ownL bs a k (b + 1 - a)).getLast? = some z) : z.1 ∈ needH (ownL bs a k (b + 1 - a)) (marksB ks a b) := by
  refine needH_mem.mpr ⟨(b : Int), by unfold marksB; simp, z, ?_, rfl⟩
  unfold lastP
  have e : (ownL bs a k (b + 1 - a)).filter (fun x => decide (x.1 ≤ (b : Int))) = ownL bs a k (b + 1 - a) := by
    rw [List.filter_eq_self]
    intro x hx
    have := ((own_all R.bo (a := a) (k := k) (b + 1 - a)).2.1 x hx).2
    have := R.ab
    exact decide_eq_true (by omega)
  rw [e]
  exact h
theorem dropW {l : List PR} {p : PR → Bool} {z : PR} (h : l.getLast? = some z) : (p z = false → (l.dropWhile p).getLast? = some z) ∧ ((l.dropWhile p).getLast? = some z ∨ (l.dropWhile p = [] ∧ p z = true)) := by
  induction l with
  | nil => cases h
  | cons x l ih =>
    by_cases hx : p x = true
    · rw [List.dropWhile_cons_of_pos hx]
      cases l with
      | nil =>
        have : x = z := by simpa using h
        subst this
        exact ⟨fun e => (by rw [hx] at e; cases e), .inr ⟨rfl, hx⟩⟩
      | cons y l =>
        rw [List.getLast?_cons_cons] at h
        exact ih h
    · rw [List.dropWhile_cons_of_neg hx]
      exact ⟨fun _ => h, .inl h⟩
/-- a run more -/
theorem seen_step (R : RunOk bs ks a b) (k : Int) {acc : List (Int × Option Int)} (h : (lookA acc k).join = (lastV bs k a).join) (h0 : a = 0 → acc = []) : (lookA (seenS acc (runL bs ks a b)) k).join = (lastV bs k (b + 1)).join := by
  rw [seenS_look, run_filter R]
  have hab := R.ab
  have es : ownL bs 0 k (b + 1) = ownL bs 0 k a ++ ownL bs a k (b + 1 - a) := by
    have := own_split (bs := bs) (k := k) (a := a) (b + 1 - a)
    rwa [show a + (b + 1 - a) = b + 1 by omega] at this
  unfold lastV
  rw [es, List.getLast?_append]
  cases hz : (ownL bs a k (b + 1 - a)).getLast? with
  | none =>
    have e0 : oneL bs ks a b k = [] := by
      unfold oneL
      rw [List.getLast?_eq_none_iff.mp hz]
      rfl
    rw [e0]
    exact h
  | some z =>
    have hn := last_needed R hz
    show _ = (some z.2).join
    unfold oneL
    by_cases ha : a = 0
    · rw [show decide (0 < a) = false from decide_eq_false (by omega), found_f]
      have hf := filter_last (p := fun x => decide (x.1 ∈ needH (ownL bs a k (b + 1 - a)) (marksB ks a b))) hz (by simpa using hn)
      rcases (dropW (p := fun x : PR => x.2.isNone) hf).2 with h1 | ⟨h1, h2⟩
      · rw [List.getLast?_map, h1]
        rfl
      · rw [h1, h0 ha]
        have : z.2 = none := by cases e : z.2 with
          | none => rfl
          | some v => rw [e] at h2; cases h2
        rw [this]
        rfl
    · rw [show decide (0 < a) = true from decide_eq_true (by omega), found_t, List.getLast?_map, filter_last (p := fun x => decide (x.1 ∈ needH (ownL bs a k (b + 1 - a)) (marksB ks a b))) hz (by simpa using hn)]
      rfl
end
/-! the law's sight -/
theorem sightC_look (k : Int) : ∀ (c : List PR) (al : List (Int × Option Int)), lookA (sightC al c) k = match (c.filter fun x => decide (x.1 = k)).getLast? with
    | some x => if x.2.isNone then none else some x.2
    | none => lookA al k
  | [], al => rfl
  | x :: c, al => by
    show lookA (sightC (if x.2.isNone then dropA (putA al x.1 x.2) x.1 else putA al x.1 x.2) c) k = _
    rw [sightC_look k c]
    have e0 : lookA (if x.2.isNone then dropA (putA al x.1 x.2) x.1 else putA al x.1 x.2) k = if x.1 = k then (if x.2.isNone then none else some x.2) else lookA al k := by
      by_cases h : x.1 = k
      · subst h
        split <;> simp [lookA_drop, lookA_put]
      · have hk : ¬ k = x.1 := fun e => h e.symm
        split <;> simp [lookA_drop, lookA_put, hk, h]
    by_cases h : x.1 = k
    · rw [List.filter_cons_of_pos (by simp [h]), List.getLast?_cons]
      cases (c.filter fun x => decide (x.1 = k)).getLast? with
      | none => rw [e0]; simp [h]
      | some y => rfl
    · rw [List.filter_cons_of_neg (by simp [h])]
      cases (c.filter fun x => decide (x.1 = k)).getLast? with
      | none => rw [e0]; simp [h]
      | some y => rfl
theorem sightC_nodup : ∀ (c : List PR) (al : List (Int × Option Int)), NodupA al → NodupA (sightC al c)
  | [], _, h => h
  | x :: c, al, h => by
    show NodupA (sightC (if x.2.isNone then dropA (putA al x.1 x.2) x.1 else putA al x.1 x.2) c)
    refine sightC_nodup c _ ?_
    split
    · exact nodup_drop (nodup_put h)
    · exact nodup_put h
theorem sightL_nodup (bs : List (List PR)) : NodupA (sightL bs) := by
  unfold sightL
  have : ∀ (bs : List (List PR)) (al : List (Int × Option Int)), NodupA al → NodupA (bs.foldl sightC al) := by
    intro bs
    induction bs with
    | nil => exact fun _ h => h
    | cons c bs ih => exact fun al h => ih _ (sightC_nodup c al h)
  exact this bs [] List.nodup_nil
/-- of a value or a strike: what is seen -/
def seenO : Option (Option Int) → Option (Option Int)
  | some (some v) => some (some v)
  | _ => none
theorem sight_look (bs : List (List PR)) (k : Int) : ∀ n, n ≤ bs.length → lookA (sightL (bs.take n)) k = seenO (lastV bs k n)
  | 0, _ => rfl
  | n + 1, h => by
    have hat : bs[n]? = some (bs.getD n []) := by rw [List.getD_eq_getElem?_getD, List.getElem?_eq_getElem (by omega)]; rfl
    have ef : sightL (bs.take (n + 1)) = sightC (sightL (bs.take n)) (bs.getD n []) := take_fold hat
    rw [ef, sightC_look, sight_look bs k n (by omega)]
    unfold lastV
    have e : ownL bs 0 k (n + 1) = ownL bs 0 k n ++ ((bs.getD (0 + n) []).filter fun x => decide (x.1 = k)).map fun x => (((0 : Nat) : Int) + (n : Nat), x.2) := rfl
    rw [e, Nat.zero_add, List.getLast?_append, List.getLast?_map]
    cases ((bs.getD n []).filter fun x => decide (x.1 = k)).getLast? with
    | none => rfl
    | some z =>
      obtain ⟨z1, z2⟩ := z
      cases z2 <;> rfl
/-! shelves as tiles -/
def tiles (n : Int) : List Int → List (Int × Int)
  | [] => []
  | x :: l => (x, l.headD n - 1) :: tiles n l
def Til (n : Int) : Int → List Int → Prop
  | e, [] => e = n
  | e, x :: l => x = e ∧ x < l.headD n ∧ Til n (l.headD n) l
theorem tiles_fst (n : Int) : ∀ l, (tiles n l).map (·.1) = l
  | [] => rfl
  | x :: l => by rw [tiles, List.map_cons, tiles_fst n l]
theorem runs_tiles (h : Int) : ∀ l : List Int, runsL l h = tiles (h + 1) l
  | [] => rfl
  | [x] => rfl
  | x :: y :: l => by
    have := runs_tiles h (y :: l)
    unfold runsL at this ⊢
    show (x, y - 1) :: _ = (x, y - 1) :: tiles (h + 1) (y :: l)
    rw [← this]
    rfl
theorem til_le {n : Int} : ∀ {l e}, Til n e l → e ≤ n
  | [], e, h => by
    have : e = n := h
    omega
  | x :: l, e, h => by
    have := til_le h.2.2
    have := h.1
    have := h.2.1
    omega
theorem til_mem {n : Int} : ∀ {l e}, Til n e l → ∀ x ∈ tiles n l, e ≤ x.1 ∧ x.1 ≤ x.2 ∧ x.2 < n
  | [], e, h, x, hx => (List.not_mem_nil hx).elim
  | y :: l, e, h, x, hx => by
    have h1 := h.1
    have h2 := h.2.1
    have h3 := til_le h.2.2
    rcases List.mem_cons.mp hx with rfl | hx
    · exact ⟨by show e ≤ y; omega, by show y ≤ l.headD n - 1; omega, by show l.headD n - 1 < n; omega⟩
    · have := til_mem h.2.2 x hx
      omega
theorem headD_take {n n' : Int} : ∀ (l : List Int) (m : Nat), m ≤ l.length → ((l.take m) ++ [(l[m]?).getD n]).headD n' = l.headD n
  | [], 0, _ => rfl
  | [], m + 1, h => by simp at h
  | x :: l, 0, _ => rfl
  | x :: l, m + 1, _ => rfl
theorem til_put {n : Int} : ∀ {l : List Int} {e : Int} {m : Nat}, m ≤ l.length → Til n e l → Til (n + 1) e (l.take m ++ [(l[m]?).getD n]) ∧ tiles (n + 1) (l.take m ++ [(l[m]?).getD n]) = (tiles n l).take m ++ [((l[m]?).getD n, n)]
  | [], e, 0, _, h => by
    have he : e = n := h
    refine ⟨⟨he.symm, by show n < n + 1; omega, rfl⟩, ?_⟩
    show [(n, n + 1 - 1)] = [(n, n)]
    rw [show n + 1 - 1 = n by omega]
  | [], e, m + 1, hm, _ => by simp at hm
  | x :: l, e, 0, _, h => by
    have h1 := h.1
    have h3 := til_le h.2.2
    have h2 := h.2.1
    refine ⟨⟨h1, by show x < n + 1; omega, rfl⟩, ?_⟩
    show [(x, n + 1 - 1)] = [(x, n)]
    rw [show n + 1 - 1 = n by omega]
  | x :: l, e, m + 1, hm, h => by
    obtain ⟨i1, i2⟩ := til_put (m := m) (by simpa using hm) h.2.2
    have e1 : (x :: l)[m + 1]? = l[m]? := rfl
    have hd := headD_take (n := n) (n' := n + 1) l m (by simpa using hm)
    rw [e1]
    refine ⟨⟨h.1, ?_, ?_⟩, ?_⟩
    · show x < (l.take m ++ [(l[m]?).getD n]).headD (n + 1)
      rw [hd]
      exact h.2.1
    · show Til (n + 1) ((l.take m ++ [(l[m]?).getD n]).headD (n + 1)) _
      rw [hd]
      exact i1
    · show (x, (l.take m ++ [(l[m]?).getD n]).headD (n + 1) - 1) :: tiles (n + 1) (l.take m ++ [(l[m]?).getD n]) = (x, l.headD n - 1) :: _
      rw [hd, i2]
      rfl
/-! a law's store, and the store that it tells of -/
structure Good (N : Nat) (s : LSt) : Prop where
  m : 1 ≤ s.m ∧ s.m ≤ 30
  b : s.b.length ≤ N
  bo : BO s.b
  kp : s.k.Pairwise (· < ·)
  kr : ∀ h ∈ s.k, 0 ≤ h ∧ h < (s.b.length : Int)
  kl : s.k.length ≤ N
  t : Til s.b.length 0 s.g
  gl : s.g.length ≤ N
  wl : s.w.length ≤ N
  wr : ∀ x ∈ s.w, 0 ≤ x ∧ x < 100
  n : 0 ≤ s.n ∧ s.n ≤ 1000 * (N : Int)
  wb : s.w.length = s.b.length
def madeOf (s : LSt) : List (T3 Int Int (List TR)) := (tiles s.b.length s.g).map fun x => ⟨x.1, x.2, runL s.b s.k x.1.toNat x.2.toNat⟩
def stOf (s : LSt) : StateD := ⟨s.b, s.k, s.w, madeOf s, s.n⟩
theorem Good.mono {N N' : Nat} {s : LSt} (h : Good N s) (hN : N ≤ N') : Good N' s := ⟨h.m, by have := h.b; omega, h.bo, h.kp, h.kr, by have := h.kl; omega, h.t, by have := h.gl; omega, by have := h.wl; omega, h.wr, by have := h.n; omega, h.wb⟩
theorem good_empty {N : Nat} {m : Int} (h : 1 ≤ m ∧ m ≤ 30) : Good N (emptyL m) := ⟨h, Nat.zero_le _, fun c hc => (List.not_mem_nil hc).elim, List.Pairwise.nil, fun x hx => (List.not_mem_nil hx).elim, Nat.zero_le _, rfl, Nat.zero_le _, Nat.zero_le _, fun x hx => (List.not_mem_nil hx).elim, by show (0 : Int) ≤ 0 ∧ (0 : Int) ≤ _; omega, rfl⟩
section
variable {N : Nat} {s : LSt}
theorem Good.run (h : Good N s) {x : Int × Int} (hx : x ∈ tiles s.b.length s.g) : RunOk s.b s.k x.1.toNat x.2.toNat := by
  have := til_mem h.t x hx
  exact ⟨h.bo, h.kp, by omega, by omega⟩
theorem shelf_is (h : Good N s) : shelfL s = tiles s.b.length s.g := by
  unfold shelfL
  split
  · rename_i e
    have ht := h.t
    rw [e] at ht ⊢
    cases hg : s.g with
    | nil => rfl
    | cons x l =>
      rw [hg] at ht
      have h1 := ht.1
      have h2 := ht.2.1
      have h3 := til_le ht.2.2
      have h4 : ((([] : List (List PR)).length : Nat) : Int) = 0 := rfl
      rw [h4] at h2 h3
      omega
  · rw [runs_tiles]
    congr 1
    omega
theorem first_is : firstL s stay = (s.g[stay]?).getD (s.b.length : Int) := by
  unfold firstL
  cases s.g[stay]? <;> rfl
theorem first_made : firstOf (stOf s) stay = firstL s stay := by
  have e : (tiles s.b.length s.g)[stay]?.map (·.1) = s.g[stay]? := by rw [← List.getElem?_map, tiles_fst]
  unfold firstOf firstL
  show (match (madeOf s)[stay]? with | some x => x.a | none => ((s.b.length : Nat) : Int)) = _
  unfold madeOf
  rw [List.getElem?_map, ← e]
  cases (tiles s.b.length s.g)[stay]? <;> rfl
theorem til_get {n : Int} : ∀ {l : List Int} {e : Int} {m : Nat}, Til n e l → e ≤ (l[m]?).getD n ∧ (l[m]?).getD n ≤ n
  | [], e, m, h => by
    have : e = n := h
    exact ⟨by show e ≤ n; omega, Int.le_refl _⟩
  | x :: l, e, 0, h => by
    have h1 := h.1
    have h2 := h.2.1
    have h3 := til_le h.2.2
    exact ⟨by show e ≤ x; omega, by show x ≤ n; omega⟩
  | x :: l, e, m + 1, h => by
    have h1 := h.1
    have h2 := h.2.1
    have := til_get (m := m) h.2.2
    exact ⟨by show e ≤ (l[m]?).getD n; omega, this.2⟩
theorem first_b (h : Good N s) (n : Nat) : 0 ≤ firstL s n ∧ firstL s n ≤ s.b.length := by
  rw [first_is]
  exact til_get h.t
theorem Good.put (h : Good N s) {c : List PR} (hc : BatOk c) (n : Nat) : RunOk (s.b ++ [c]) s.k (firstL s n).toNat s.b.length := by
  have := first_b h n
  refine ⟨fun x hx => ?_, h.kp, by omega, by simp⟩
  rcases List.mem_append.mp hx with hx | hx
  · exact h.bo x hx
  · rw [List.mem_singleton] at hx
    subst hx
    exact hc
theorem good_put (h : Good N s) (hN : N < 60) {c : List PR} (hc : BatOk c) {n : Nat} (hn : n ≤ s.g.length) : Good (N + 1) (withBL s c n) := by
  have hf := first_b h n
  have R := h.put hc n
  have hl := run_len R
  have hb := h.b
  obtain ⟨t1, t2⟩ := til_put hn h.t
  have hsn := h.n
  have hgl := h.gl
  have hkl := h.kl
  have hwl := h.wl
  refine ⟨h.m, by show (s.b ++ [c]).length ≤ _; simp; omega, R.bo, h.kp, fun x hx => ?_, by show s.k.length ≤ _; omega, ?_, ?_, ?_, fun x hx => ?_, ?_, ?_⟩
  · have := h.kr x hx
    show 0 ≤ x ∧ x < (((s.b ++ [c]).length : Nat) : Int)
    rw [List.length_append, List.length_singleton]
    omega
  · show Til (((s.b ++ [c]).length : Nat) : Int) 0 (s.g.take n ++ [firstL s n])
    rw [first_is, List.length_append, List.length_singleton]
    exact t1
  · show (s.g.take n ++ [firstL s n]).length ≤ _
    rw [List.length_append, List.length_take, List.length_singleton]
    omega
  · show (s.w ++ [firstL s n]).length ≤ _
    rw [List.length_append, List.length_singleton]
    omega
  · rcases List.mem_append.mp (show x ∈ s.w ++ [firstL s n] from hx) with hx | hx
    · exact h.wr x hx
    · rw [List.mem_singleton] at hx
      subst hx
      omega
  · show 0 ≤ s.n + ((runL (s.b ++ [c]) s.k (firstL s n).toNat s.b.length).length : Int) ∧ s.n + ((runL (s.b ++ [c]) s.k (firstL s n).toNat s.b.length).length : Int) ≤ _
    rw [List.length_append, List.length_singleton] at hl
    omega
  · show (s.w ++ [firstL s n]).length = (s.b ++ [c]).length
    rw [List.length_append, List.length_append, List.length_singleton, List.length_singleton, h.wb]
theorem put_is (h : Good N s) {c : List PR} (hc : BatOk c) {n : Nat} (hn : n ≤ s.g.length) : withB (stOf s) c n = stOf (withBL s c n) := by
  have hf := first_b h n
  have R := h.put hc n
  obtain ⟨t1, t2⟩ := til_put hn h.t
  have hmade : madeL (s.b ++ [c]) s.k (firstL s n) s.b.length = runL (s.b ++ [c]) s.k (firstL s n).toNat s.b.length := by
    have := made_is R
    rwa [show (((firstL s n).toNat : Nat) : Int) = firstL s n by omega] at this
  unfold withB
  rw [first_made]
  show StateD.mk (s.b ++ [c]) s.k (s.w ++ [firstL s n]) ((madeOf s).take n ++ [⟨firstL s n, s.b.length, madeL (s.b ++ [c]) s.k (firstL s n) s.b.length⟩]) (s.n + (madeL (s.b ++ [c]) s.k (firstL s n) s.b.length).length) = StateD.mk (s.b ++ [c]) s.k (s.w ++ [firstL s n]) (madeOf (withBL s c n)) (s.n + (runL (s.b ++ [c]) s.k (firstL s n).toNat s.b.length).length)
  rw [hmade]
  congr 1
  unfold madeOf
  show _ = (tiles (((s.b ++ [c]).length : Nat) : Int) (s.g.take n ++ [firstL s n])).map fun x => (⟨x.1, x.2, runL (s.b ++ [c]) s.k x.1.toNat x.2.toNat⟩ : T3 Int Int (List TR))
  rw [first_is, List.length_append, List.length_singleton]
  rw [show (((s.b.length + 1 : Nat)) : Int) = (s.b.length : Int) + 1 by omega, t2, List.map_append, ← List.map_take]
  congr 1
  refine List.map_congr_left fun x hx => ?_
  have := til_mem h.t x (List.mem_of_mem_take hx)
  rw [run_app (by omega) (by omega)]
theorem good_keep (h : Good N s) (hk : canKeep s = true) : Good (N + 1) (keptL s) := by
  unfold canKeep at hk
  rw [Bool.and_eq_true, decide_eq_true_eq, Bool.not_eq_true', decide_eq_false_iff_not] at hk
  obtain ⟨h0, h1⟩ := hk
  have hsn := h.n
  have hgl := h.gl
  have hkl := h.kl
  have hwl := h.wl
  have hb := h.b
  refine ⟨h.m, by show s.b.length ≤ _; omega, h.bo, ?_, fun x hx => ?_, ?_, h.t, by show s.g.length ≤ _; omega, by show s.w.length ≤ _; omega, h.wr, by show 0 ≤ s.n ∧ s.n ≤ _; omega, h.wb⟩
  · show (s.k ++ [(s.b.length : Int) - 1]).Pairwise (· < ·)
    refine List.pairwise_append.mpr ⟨h.kp, List.pairwise_singleton _ _, fun x hx y hy => ?_⟩
    rw [List.mem_singleton] at hy
    subst hy
    have := h.kr x hx
    have : x ≠ (s.b.length : Int) - 1 := fun e => h1 (e ▸ hx)
    omega
  · rcases List.mem_append.mp (show x ∈ s.k ++ [(s.b.length : Int) - 1] from hx) with hx | hx
    · exact h.kr x hx
    · rw [List.mem_singleton] at hx
      subst hx
      show 0 ≤ (s.b.length : Int) - 1 ∧ (s.b.length : Int) - 1 < (s.b.length : Int)
      omega
  · show (s.k ++ [(s.b.length : Int) - 1]).length ≤ _
    rw [List.length_append, List.length_singleton]
    omega
theorem keep_is (h : Good N s) : withK (stOf s) = stOf (keptL s) := by
  show StateD.mk s.b (s.k ++ [(s.b.length : Int) - 1]) s.w (madeOf s) s.n = StateD.mk s.b (s.k ++ [(s.b.length : Int) - 1]) s.w (madeOf (keptL s)) s.n
  congr 1
  unfold madeOf
  refine List.map_congr_left fun x hx => ?_
  have := til_mem h.t x hx
  show (⟨x.1, x.2, runL s.b s.k x.1.toNat x.2.toNat⟩ : T3 Int Int (List TR)) = ⟨x.1, x.2, runL s.b (s.k ++ [(s.b.length : Int) - 1]) x.1.toNat x.2.toNat⟩
  rw [run_kept (by omega)]
/-! what the walks ask -/
theorem BatOk.bB {c : List PR} (h : BatOk c) : c.length ≤ 10 ∧ batchB c = true := by
  have hl := h.l
  refine ⟨by omega, ?_⟩
  unfold batchB
  rw [Bool.and_eq_true, Bool.and_eq_true, decide_eq_true_eq]
  refine ⟨⟨by omega, ?_⟩, ?_⟩
  · rw [List.all_eq_true]
    intro x hx
    have := h.k x hx
    unfold toldB
    rw [Bool.and_eq_true, decide_eq_true_eq, decide_eq_true_eq]
    omega
  · exact asc_of h.a fun k hk => by
      obtain ⟨x, hx, rfl⟩ := List.mem_map.mp hk
      have := h.k x hx
      omega
where
  asc_of {m : Int} : ∀ {l : List Int} {lo : Int}, l.Pairwise (· < ·) → (∀ k ∈ l, lo ≤ k ∧ k ≤ m) → ascB lo m l = true
  | [], _, _, _ => rfl
  | a :: l, lo, h, hb => by
    obtain ⟨h1, h2⟩ := List.pairwise_cons.mp h
    have := hb a (List.mem_cons_self ..)
    unfold ascB
    rw [Bool.and_eq_true, Bool.and_eq_true, decide_eq_true_eq, decide_eq_true_eq]
    exact ⟨this, asc_of h2 fun k hk => ⟨by have := h1 k hk; omega, (hb k (List.mem_cons_of_mem _ hk)).2⟩⟩
theorem ascB_of {m : Int} : ∀ {l : List Int} {lo : Int}, l.Pairwise (· < ·) → (∀ k ∈ l, lo ≤ k ∧ k ≤ m) → ascB lo m l = true
  | [], _, _, _ => rfl
  | a :: l, lo, h, hb => by
    obtain ⟨h1, h2⟩ := List.pairwise_cons.mp h
    have := hb a (List.mem_cons_self ..)
    unfold ascB
    rw [Bool.and_eq_true, Bool.and_eq_true, decide_eq_true_eq, decide_eq_true_eq]
    exact ⟨this, ascB_of h2 fun k hk => ⟨by have := h1 k hk; omega, (hb k (List.mem_cons_of_mem _ hk)).2⟩⟩
theorem Good.ok (h : Good N s) (hN : N ≤ 28) : StOk (stOf s) := by
  have hb := h.b
  have hk := h.kl
  have hw := h.wl
  have hg := h.gl
  refine ⟨by show s.b.length ≤ 28; omega, fun c hc => (h.bo c hc).bB, by show s.k.length ≤ 60; omega, ascB_of h.kp fun k hk => ?_, by show s.w.length ≤ 60; omega, ?_, fun x hx => ?_⟩
  · have := h.kr k hk
    show 0 ≤ k ∧ k ≤ (s.b.length : Int) - 1
    omega
  · show (madeOf s).length ≤ 60
    unfold madeOf
    have e : (tiles s.b.length s.g).length = s.g.length := by
      have := congrArg List.length (tiles_fst s.b.length s.g)
      rwa [List.length_map] at this
    rw [List.length_map, e]
    omega
  · obtain ⟨y, hy, rfl⟩ := List.mem_map.mp (show x ∈ madeOf s from hx)
    have := til_mem h.t y hy
    show 0 ≤ y.1 ∧ y.1 ≤ (s.b.length : Int)
    omega
theorem Good.preB (h : Good N s) (hN : N ≤ 28) {c : List PR} (hc : BatOk c) (n : Nat) : PreB (stOf s) c n := by
  refine ⟨h.ok hN, hc.bB.1, hc.bB.2, ?_⟩
  rw [first_made]
  have := raw_inj (h.put hc n)
  have hf := first_b h n
  rw [show (((firstL s n).toNat : Nat) : Int) = firstL s n by omega] at this
  exact this
theorem BO.preR {bs : List (List PR)} (h : BO bs) : ∀ c ∈ bs, c.length ≤ 10 ∧ ∀ x ∈ c, (0 : Int) ≤ x.1 ∧ x.1 < 60 := fun c hc => ⟨(h c hc).bB.1, fun x hx => by have := (h c hc).k x hx; omega⟩
theorem Good.preW (h : Good N s) (hN : N ≤ 28) {c : List PR} (hc : BatOk c) (n : Nat) : PreW s c n := by
  have hf := first_b h n
  have hb := h.b
  have hk := h.kl
  have hw := h.wl
  have hg := h.gl
  have R := h.put hc n
  exact ⟨hf.1, ⟨R.ab, R.bl, by rw [List.length_append, List.length_singleton]; omega, R.bo.preR, by omega⟩, by omega, by omega⟩
theorem Good.chg (h : Good N s) (hN : N ≤ 28) : ChgP s := ⟨h.m, by have := h.kl; omega, fun b n hb _ => h.preW hN hb n⟩
theorem Good.preS (h : Good N s) (hN : N ≤ 28) : PreS s := by
  have hb := h.b
  have hk := h.kl
  refine ⟨by have := h.gl; omega, fun x hx => ?_⟩
  rw [shelf_is h] at hx
  have := til_mem h.t x hx
  have R := h.run hx
  exact ⟨by omega, R.ab, R.bl, by omega, R.bo.preR, by omega⟩
/-! the stretch of all keys is the sight -/
theorem seen_tiles (h : Good N s) (k : Int) : ∀ (l : List Int) (e : Nat) (acc : List (Int × Option Int)), Til s.b.length e l → (∀ x ∈ tiles s.b.length l, RunOk s.b s.k x.1.toNat x.2.toNat) → (lookA acc k).join = (lastV s.b k e).join → (e = 0 → acc = []) →
    (lookA (((tiles s.b.length l).map fun x => runL s.b s.k x.1.toNat x.2.toNat).foldl seenS acc) k).join = (lastV s.b k s.b.length).join
  | [], e, acc, ht, _, ha, _ => by
    have : (e : Int) = (s.b.length : Int) := ht
    have : e = s.b.length := by omega
    subst this
    exact ha
  | x :: l, e, acc, ht, hr, ha, h0 => by
    have h1 := ht.1
    have h2 := ht.2.1
    have h3 := til_le ht.2.2
    have R := hr _ (List.mem_cons_self ..)
    dsimp only at R
    have ex : x.toNat = e := by omega
    have en : (l.headD (s.b.length : Int) - 1).toNat + 1 = (l.headD (s.b.length : Int)).toNat := by omega
    rw [ex] at R
    have st := seen_step R k ha h0
    rw [en] at st
    show (lookA (((tiles s.b.length l).map fun x => runL s.b s.k x.1.toNat x.2.toNat).foldl seenS (seenS acc (runL s.b s.k x.toNat (l.headD (s.b.length : Int) - 1).toNat))) k).join = _
    rw [ex]
    refine seen_tiles h k l (l.headD (s.b.length : Int)).toNat _ ?_ (fun y hy => hr y (List.mem_cons_of_mem _ hy)) st fun z => by omega
    have : (((l.headD (s.b.length : Int)).toNat : Nat) : Int) = l.headD (s.b.length : Int) := by omega
    rw [this]
    exact ht.2.2
theorem runsD_is (h : Good N s) (d : StoreD) (hd : d.s = stOf s) : runsD d = (tiles s.b.length s.g).map fun x => runL s.b s.k x.1.toNat x.2.toNat := by
  unfold runsD
  rw [hd]
  show ((madeOf s).filter fun x => decide (x.a ≤ (s.b.length : Int) - 1)).map (fun x => x.c) = _
  rw [List.filter_eq_self.mpr, madeOf, List.map_map]
  · rfl
  · intro x hx
    obtain ⟨y, hy, rfl⟩ := List.mem_map.mp hx
    have := til_mem h.t y hy
    exact decide_eq_true (by show y.1 ≤ _; omega)
theorem seen_is (h : Good N s) (d : StoreD) (hd : d.s = stOf s) (k : Int) : (lookA (seenD (runsD d)) k).join = (lastV s.b k s.b.length).join := by
  rw [runsD_is h d hd]
  exact seen_tiles h k s.g 0 [] h.t (fun x hx => h.run hx) rfl fun _ => rfl
theorem last_bat (h : Good N s) {k v : Int} (hv : lastV s.b k s.b.length = some (some v)) : ((0 : Int) ≤ k ∧ k < 8) ∧ (-3 : Int) ≤ v ∧ v ≤ 5 := by
  unfold lastV at hv
  obtain ⟨x, hx, e⟩ := Option.map_eq_some_iff.mp hv
  have hm := last_mem hx
  refine ⟨h.bo.key hm, ?_⟩
  obtain ⟨j, _, _, h3⟩ := own_mem.mp hm
  exact (h.bo.at_ _).v _ h3 v e
theorem seenO_iff {o : Option (Option Int)} {v : Int} : seenO o = some (some v) ↔ o = some (some v) := by
  cases o with
  | none => exact ⟨fun h => (by cases h), fun h => (by cases h)⟩
  | some o => cases o with
    | none => exact ⟨fun h => (by cases h), fun h => (by cases h)⟩
    | some w => exact Iff.rfl
theorem seenO_some {o : Option (Option Int)} {z : Option Int} (h : seenO o = some z) : ∃ v, z = some v ∧ o = some (some v) := by
  cases o with
  | none => cases h
  | some o => cases o with
    | none => cases h
    | some w => cases h; exact ⟨w, rfl, rfl⟩
theorem join_some {o : Option (Option Int)} {v : Int} : o.join = some v ↔ o = some (some v) := by
  cases o with
  | none => exact ⟨fun h => (by cases h), fun h => (by cases h)⟩
  | some o => exact ⟨fun h => congrArg some h, fun h => Option.some.inj h⟩
/-- the law's list of what is due -/
def dueL (bs : List (List PR)) (ys : List Int) : List PR := ys.map fun k => (k, (lookA (sightL bs) k).join)
theorem str_is (h : Good N s) {d : StoreD} (hd : d.s = stOf s) {ys : List Int} (hp : ys.Perm ((sightL s.b).map (·.1))) (hs : ys.Pairwise (· ≤ ·)) : strD d 0 999 = dueL s.b ys := by
  have hN := sightL_nodup s.b
  have hy : ys.Pairwise (· < ·) := by
    have hn : ys.Nodup := hp.nodup_iff.mpr hN
    exact (List.pairwise_and_iff.mpr ⟨hs, hn⟩).imp fun {a b} z => by
      have h1 := z.1
      have h2 : a ≠ b := z.2
      omega
  have hsl : ∀ k, lookA (sightL s.b) k = seenO (lastV s.b k s.b.length) := fun k => by
    have := sight_look s.b k s.b.length (Nat.le_refl _)
    rwa [List.take_length] at this
  have hky : ∀ k, k ∈ ys ↔ ∃ v, lastV s.b k s.b.length = some (some v) := fun k => by
    rw [hp.mem_iff, List.mem_map]
    constructor
    · rintro ⟨⟨k, z⟩, hz, rfl⟩
      have h1 := (mem_lookA hN).mp hz
      rw [hsl] at h1
      obtain ⟨v, _, h2⟩ := seenO_some h1
      exact ⟨v, h2⟩
    · rintro ⟨v, hv⟩
      refine ⟨(k, some v), (mem_lookA hN).mpr ?_, rfl⟩
      rw [hsl, hv]
      rfl
  have hD : NodupA (seenD (runsD d)) := seenD_nodup _ _ List.nodup_nil
  have hsel : ∀ k v, (k, v) ∈ selD 0 999 (seenD (runsD d)) ↔ lastV s.b k s.b.length = some (some v) := fun k v => by
    unfold selD
    rw [List.mem_map]
    have hk := seen_is h d hd k
    constructor
    · rintro ⟨⟨k', z⟩, hz, e⟩
      obtain ⟨h1, h2⟩ := List.mem_filter.mp hz
      cases e
      unfold selP at h2
      cases z with
      | none => simp at h2
      | some v =>
        have h3 := (mem_lookA hD).mp h1
        rw [h3] at hk
        exact join_some.mp hk.symm
    · intro hv
      have hb := last_bat h hv
      rw [hv] at hk
      have h3 := join_some.mp hk
      refine ⟨(k, some v), List.mem_filter.mpr ⟨(mem_lookA hD).mpr h3, ?_⟩, rfl⟩
      unfold selP
      simp
      omega
  have hseln : ((selD 0 999 (seenD (runsD d))).map (·.1)).Nodup := by
    unfold selD
    rw [List.map_map]
    exact (show ((seenD (runsD d)).filter (selP 0 999) |>.map (·.1)).Nodup from hD.sublist (List.filter_sublist.map _))
  have hsp : (sortPP (selD 0 999 (seenD (runsD d)))).Perm (selD 0 999 (seenD (runsD d))) := List.mergeSort_perm _ _
  refine asc_eq (f := fun x : PR => x.1) ?_ ?_ fun x => ?_
  · unfold strD
    refine List.pairwise_map.mpr ?_
    have h1 : (sortPP (selD 0 999 (seenD (runsD d)))).Pairwise (fun a b => (!SrtO.lexB b a) = true) := List.pairwise_mergeSort (fun a b c h1 h2 => by
      rw [Bool.not_eq_true'] at *
      have p := SrtO.lexB_no.mp h1
      have q := SrtO.lexB_no.mp h2
      exact SrtO.lexB_no.mpr (by omega)) (fun a b => by
      rw [Bool.or_eq_true, Bool.not_eq_true', Bool.not_eq_true']
      by_cases h : SrtO.lexB b a = false
      · exact .inl h
      · right
        have p := SrtO.lexB_iff.mp (by simpa using h)
        exact SrtO.lexB_no.mpr (by omega)) _
    have h2 : (sortPP (selD 0 999 (seenD (runsD d)))).Pairwise (fun a b => a.1 ≠ b.1) := by
      have h20 : ((sortPP (selD 0 999 (seenD (runsD d)))).map (fun x : Int × Int => x.1)).Nodup := (hsp.map (fun x : Int × Int => x.1)).nodup_iff.mpr hseln
      exact List.pairwise_map.mp h20
    exact (List.pairwise_and_iff.mpr ⟨h1, h2⟩).imp fun {a b} z => by
      have p := SrtO.lexB_no.mp (by simpa using z.1)
      have q : a.1 ≠ b.1 := z.2
      show a.1 < b.1
      omega
  · unfold dueL
    exact List.pairwise_map.mpr hy
  · unfold strD dueL
    rw [List.mem_map, List.mem_map]
    constructor
    · rintro ⟨⟨k, v⟩, hz, rfl⟩
      have hv := (hsel k v).mp (hsp.mem_iff.mp hz)
      refine ⟨k, (hky k).mpr ⟨v, hv⟩, ?_⟩
      rw [hsl, hv]
      rfl
    · rintro ⟨k, hk, rfl⟩
      obtain ⟨v, hv⟩ := (hky k).mp hk
      refine ⟨(k, v), hsp.mem_iff.mpr ((hsel k v).mpr hv), ?_⟩
      rw [hsl, hv]
      rfl
theorem due_ok (h : Good N s) {ys : List Int} (hp : ys.Perm ((sightL s.b).map (·.1))) : (dueL s.b ys).length ≤ 8 ∧ ∀ x ∈ dueL s.b ys, okPair x := by
  have hN := sightL_nodup s.b
  have hsl : ∀ k, lookA (sightL s.b) k = seenO (lastV s.b k s.b.length) := fun k => by
    have := sight_look s.b k s.b.length (Nat.le_refl _)
    rwa [List.take_length] at this
  have hky : ∀ k ∈ ys, ∃ v, lastV s.b k s.b.length = some (some v) := fun k hk => by
    obtain ⟨⟨k, z⟩, hz, rfl⟩ := List.mem_map.mp (hp.mem_iff.mp hk)
    have h1 := (mem_lookA hN).mp hz
    rw [hsl] at h1
    obtain ⟨v, _, h2⟩ := seenO_some h1
    exact ⟨v, h2⟩
  constructor
  · unfold dueL
    rw [List.length_map]
    have := nodup_le (m := upI 0 8) (hp.nodup_iff.mpr hN) fun k hk => by
      obtain ⟨v, hv⟩ := hky k hk
      have := last_bat h hv
      exact mem_upI.mpr (by omega)
    rwa [upI_len] at this
  · intro x hx
    obtain ⟨k, hk, rfl⟩ := List.mem_map.mp hx
    obtain ⟨v, hv⟩ := hky k hk
    have hb := last_bat h hv
    rw [hsl, hv]
    refine ⟨by show (0 : Int) ≤ k; omega, by show k < 1000; omega, fun w hw => ?_⟩
    have : v = w := by
      have : (some v : Option Int) = some w := hw
      cases this
      rfl
    omega
theorem Good.ans (h : Good N s) (hN : N ≤ 28) {d : StoreD} (hd : d.s = stOf s) {ys : List Int} (hp : ys.Perm ((sightL s.b).map (·.1))) (hs : ys.Pairwise (· ≤ ·)) : AnsOk d := by
  have ok := h.ok hN
  have hb := h.b
  have hsn := h.n
  have hst := str_is h hd hp hs
  have hdu := due_ok h hp
  refine ⟨by rw [hd]; exact ok.md, fun x hx => ?_, by rw [hd]; exact Nat.le_trans ok.pl (by decide), fun x hx => ?_, ?_, ?_⟩
  · rw [hd] at hx
    obtain ⟨y, hy, rfl⟩ := List.mem_map.mp (show x ∈ madeOf s from hx)
    have := til_mem h.t y hy
    have := run_len (h.run hy)
    exact ⟨by show 0 ≤ y.1 ∧ y.1 < 1000; omega, by show 0 ≤ y.2 ∧ y.2 < 1000; omega, by show (runL s.b s.k y.1.toNat y.2.toNat).length ≤ 1000; omega⟩
  · rw [hd] at hx
    have := h.wr x hx
    omega
  · rw [hd]
    show 0 ≤ s.n ∧ s.n < 100000
    omega
  · rw [hst]
    exact ⟨by omega, hdu.2⟩
end
end
end Js
/-! ### split with a limit -/
namespace SM
open PySem PySem.Spec PyProof.Rows L2 SX
open PySem.StrLaws PySem.Builtin PySem.Builtin.Str
theorem tight_runL (s sub : Str) (hi limit lo : Nat) (hw : 1 ≤ sub.length) : ∀ (m cur : Nat) (st : Array Nat × Nat), ChainG s sub hi lo st.fst.toList st.snd → st.fst.size ≤ limit → (st.fst.size = limit ∨ ∀ k, st.snd ≤ k → k < cur → ¬ At s sub hi k) →
    ChainG s sub hi lo (forIn (List.range' cur m) st (occBody s sub hi limit)).run.fst.toList (forIn (List.range' cur m) st (occBody s sub hi limit)).run.snd ∧ (forIn (List.range' cur m) st (occBody s sub hi limit)).run.fst.size ≤ limit ∧
    ((forIn (List.range' cur m) st (occBody s sub hi limit)).run.fst.size = limit ∨ ∀ k, (forIn (List.range' cur m) st (occBody s sub hi limit)).run.snd ≤ k → k < cur + m → ¬ At s sub hi k)
  | 0, cur, st, h, hl, hn => ⟨h, hl, hn⟩
  | m + 1, cur, st, h, hl, hn => by
    rw [List.range'_succ, List.forIn_cons]
    unfold occBody
    have e : cur + (m + 1) = (cur + 1) + m := by omega
    rw [e]
    split
    · rename_i hc
      have hn' : ∀ k, st.snd ≤ k → k < cur → ¬ At s sub hi k := by
        rcases hn with hn | hn
        · have := hc.1.1.1
          omega
        · exact hn
      refine tight_runL s sub hi limit lo hw m (cur + 1) _ ?_ ?_ (.inr ?_)
      · show ChainG s sub hi lo (st.fst.push cur).toList (cur + sub.length)
        rw [Array.toList_push]
        exact chainG_snoc h hc.1.1.2 ⟨hc.1.2, hc.2⟩ hn'
      · show (st.fst.push cur).size ≤ limit
        have := hc.1.1.1
        rw [Array.size_push]; omega
      · intro k h1 h2
        have h1' : cur + sub.length ≤ k := h1
        omega
    · rename_i hc
      refine tight_runL s sub hi limit lo hw m (cur + 1) _ h hl ?_
      rcases hn with hn | hn
      · exact .inl hn
      · by_cases hf : st.fst.size = limit
        · exact .inl hf
        · right
          intro k h1 h2 hA
          by_cases hk : k < cur
          · exact hn k h1 hk hA
          · have ek : k = cur := by omega
            subst ek
            exact hc ⟨⟨⟨by omega, h1⟩, hA.1⟩, hA.2⟩
theorem occ_tightL (x y : Str) (limit : Nat) (hw : 1 ≤ y.length) : ∃ f, ChainG x y x.length 0 (occurrences x y 0 x.length limit) f ∧ (occurrences x y 0 x.length limit).length ≤ limit ∧ ((occurrences x y 0 x.length limit).length = limit ∨ ∀ k, f ≤ k → ¬ At x y x.length k) := by
  rw [occ_eq]
  have key := tight_runL x y x.length limit 0 hw (x.length + 1 - 0) 0 ((#[] : Array Nat), 0) rfl (Nat.zero_le _) (.inr fun k _ h => by omega)
  refine ⟨_, key.1, key.2.1, ?_⟩
  rcases key.2.2 with h | h
  · exact .inl h
  · exact .inr fun k hk hA => h k hk (by have := hA.1; omega) hA
/-- cut at the first so many separators -/
def splM (S : List Nat) : Nat → List Nat → List (List Nat)
  | 0, l => [l]
  | k + 1, l => match TL.par S [] l with
    | none => [l]
    | some (p, q) => p :: splM S k q
theorem splM_none {S : List Nat} {l : List Nat} (h : TL.par S [] l = none) : ∀ k, splM S k l = [l]
  | 0 => rfl
  | k + 1 => by
    show (match TL.par S [] l with | none => [l] | some (p, q) => p :: splM S k q) = [l]
    rw [h]
theorem parts_splM {x y : Str} (hy : TL.tl y ≠ []) : ∀ (cuts : List Nat) (L a f : Nat), a ≤ (TL.tl x).length → ChainG x y x.length a cuts f → cuts.length ≤ L → (cuts.length = L ∨ ∀ k, f ≤ k → ¬ At x y x.length k) →
    (partsFrom x y.length a cuts).map TL.tl = splM (TL.tl y) L ((TL.tl x).drop a)
  | [], L, a, f, ha, h, hl, hn => by
    have e : f = a := h
    subst e
    show [TL.tl (strSub x f x.length)] = _
    rw [TL.tl_strSub_end]
    rcases hn with hn | hn
    · have : L = 0 := hn.symm
      subst this
      rfl
    · refine (splM_none ?_ L).symm
      have run := TL.par_run (TL.tl y) (TL.tl x) ((TL.tl x).length - f) f [] (by omega) (fun k h1 _ => TL.no_at hy (hn k h1))
      rw [run]
      have e2 : f + ((TL.tl x).length - f) = (TL.tl x).length := by omega
      rw [e2, List.drop_length]
      rfl
  | c :: r, L, a, f, ha, h, hl, hn => by
    obtain ⟨h1, h2, h3, h4⟩ := h
    have hc : c + y.length ≤ x.length := h2.1
    have hx := TL.len_tl x
    have hly := TL.len_tl y
    obtain ⟨L', rfl⟩ : ∃ L', L = L' + 1 := ⟨L - 1, by simp at hl; omega⟩
    have ih := parts_splM hy r L' (c + y.length) f (by omega) h4 (by simpa using hl) (hn.imp (fun z => by simpa using z) id)
    show TL.tl (strSub x a c) :: (partsFrom x y.length (c + y.length) r).map TL.tl = _
    have run := TL.par_run (TL.tl y) (TL.tl x) (c - a) a [] (by omega) (fun k k1 k2 => TL.no_at hy (h3 k k1 (by omega)))
    have e2 : a + (c - a) = c := by omega
    rw [e2, List.nil_append, TL.par_at hy ((TL.at_iff hy c).mp h2)] at run
    show _ = (match TL.par (TL.tl y) [] ((TL.tl x).drop a) with | none => [(TL.tl x).drop a] | some (p, q) => p :: splM (TL.tl y) L' q)
    rw [run, ih, TL.tl_strSub, hly]
theorem splitMax_splM (x y : Str) (k : Nat) (hy : TL.tl y ≠ []) (hk : ¬ Builtin.Str.strKind x < Builtin.Str.strKind y) : (Txt.splitMax x y (k : Int)).map TL.tl = splM (TL.tl y) k (TL.tl x) := by
  have hlim : limitOf x (k : Int) = k := by
    unfold limitOf
    rw [if_neg (by omega)]
    simp
  obtain ⟨f, g, gl, hn⟩ := occ_tightL x y k (TL.len1 hy)
  have key := parts_splM hy _ k 0 f (Nat.zero_le _) g gl hn
  rw [List.drop_zero] at key
  have none_case : occurrences x y 0 x.length k = [] → [x].map TL.tl = splM (TL.tl y) k (TL.tl x) := fun ho => by
    rw [ho] at key
    rw [← key]
    show [TL.tl x] = [TL.tl (strSub x 0 x.length)]
    rw [TL.tl_strSub_end, List.drop_zero]
  unfold Txt.splitMax
  rw [hlim]
  by_cases h1 : (decide (x.length < y.length) || decide (Builtin.Str.strKind x < Builtin.Str.strKind y)) = true
  · rw [if_pos h1]
    have hlt : x.length < y.length := by
      simp only [Bool.or_eq_true, decide_eq_true_eq] at h1
      rcases h1 with h | h
      · exact h
      · exact absurd h hk
    refine none_case ?_
    cases ho : occurrences x y 0 x.length k with
    | nil => rfl
    | cons c r =>
      rw [ho] at g
      have hc : c + y.length ≤ x.length := g.2.1.1
      omega
  · rw [if_neg h1]
    by_cases h2 : (occurrences x y 0 x.length k).isEmpty = true
    · rw [if_pos h2]
      exact none_case (List.isEmpty_iff.mp h2)
    · rw [if_neg h2, partsBetween_eq]
      exact key
/-- three words, and the rest of the line as it stands -/
theorem splitMax3 {a b c : List Nat} {t : List Nat} (ha : 32 ∉ a) (hb : 32 ∉ b) (hc : 32 ∉ c) : Txt.splitMax (S (a ++ ([32] ++ (b ++ ([32] ++ (c ++ ([32] ++ t))))))) (S [32]) 3 = [S a, S b, S c, S t] := by
  refine TL.map_tl_inj ?_
  have h := splitMax_splM (S (a ++ ([32] ++ (b ++ ([32] ++ (c ++ ([32] ++ t))))))) (S [32]) 3 (by show [32] ≠ []; simp) (TL.kind_ok (by decide +kernel))
  have e3 : ((3 : Nat) : Int) = 3 := rfl
  rw [e3] at h
  rw [h]
  show splM [32] 3 (a ++ ([32] ++ (b ++ ([32] ++ (c ++ ([32] ++ t)))))) = [a, b, c, t]
  have p1 := TL.par_part1 (s := 32) (S := []) (p := a) (rest := b ++ ([32] ++ (c ++ ([32] ++ t)))) (acc := []) ha
  have p2 := TL.par_part1 (s := 32) (S := []) (p := b) (rest := c ++ ([32] ++ t)) (acc := []) hb
  have p3 := TL.par_part1 (s := 32) (S := []) (p := c) (rest := t) (acc := []) hc
  rw [List.nil_append] at p1 p2 p3
  unfold splM
  rw [show a ++ ([32] ++ (b ++ ([32] ++ (c ++ ([32] ++ t))))) = a ++ (32 :: [] ++ (b ++ ([32] ++ (c ++ ([32] ++ t))))) from rfl, p1]
  unfold splM
  rw [show b ++ ([32] ++ (c ++ ([32] ++ t))) = b ++ (32 :: [] ++ (c ++ ([32] ++ t))) from rfl]
  simp only [p2]
  unfold splM
  rw [show c ++ ([32] ++ t) = c ++ (32 :: [] ++ t) from rfl]
  simp only [p3]
  rfl
end SM
/-! ### lines that are read as they were told -/
namespace Js
open PySem PySem.Spec PyProof.Rows L2 Evl SX
section
theorem blankS : (" " : PySem.Str) = S [32] := by decide +kernel
theorem tl_blank : TL.tl (" " : PySem.Str) = 32 :: [] := by decide +kernel
theorem split_words {ws : List PySem.Str} (hne : ws ≠ []) (h : ∀ z ∈ ws, 32 ∉ z.cps.toList) : Txt.split (Txt.join " " ws) " " = ws := TL.split_join (y := " ") (s := 32) (S := []) tl_blank (by decide +kernel) hne h
theorem join_one (z : PySem.Str) : Txt.join " " [z] = z := by
  rw [TL.join_eq]
  rfl
theorem slice_bl (z : PySem.Str) : (Txt.slice z none (some (-1))).length ≤ z.length := by
  rw [← S_tl z]
  by_cases h : z.cps.toList = []
  · rw [h]
    decide +kernel
  · rw [slice_butlast h, S_len, S_len, List.length_take]
    omega
theorem slice_f1 (z : PySem.Str) : (Txt.slice z (some 1) none).length ≤ z.length := by
  rw [← S_tl z, slice_from (by decide), S_len, S_len, List.length_drop]
  omega
theorem shP_of {z : PySem.Str} (h : z.length ≤ 1000) : shP z := by
  refine ⟨by omega, by have := slice_bl z; omega, fun a ha => ?_⟩
  have := part_short ha
  exact ⟨by omega, by have := slice_f1 a; omega⟩
theorem shW_of {z : PySem.Str} (h0 : 32 ∉ z.cps.toList) (h : z.length ≤ 1000) : shW z := by
  have e : Txt.split z " " = [z] := by
    have := split_words (ws := [z]) (by simp) fun y hy => by rw [List.mem_singleton] at hy; rw [hy]; exact h0
    rwa [join_one] at this
  refine ⟨by omega, by rw [e]; simp, fun a ha => ?_⟩
  rw [e, List.mem_singleton] at ha
  rw [ha]
  exact shP_of h
theorem joinL_mem {c : Nat} {sep : List Nat} : ∀ {ps : List (List Nat)}, c ∈ TL.joinL sep ps → c ∈ sep ∨ ∃ p ∈ ps, c ∈ p
  | [], h => (List.not_mem_nil h).elim
  | [p], h => .inr ⟨p, List.mem_cons_self .., h⟩
  | p :: q :: r, h => by
    rcases List.mem_append.mp (show c ∈ p ++ (sep ++ TL.joinL sep (q :: r)) from h) with h | h
    · exact .inr ⟨p, List.mem_cons_self .., h⟩
    · rcases List.mem_append.mp h with h | h
      · exact .inl h
      · rcases joinL_mem h with h | ⟨z, hz, h⟩
        · exact .inl h
        · exact .inr ⟨z, List.mem_cons_of_mem _ hz, h⟩
theorem join_nl {ws : List PySem.Str} (h : ∀ z ∈ ws, 10 ∉ z.cps.toList) : 10 ∉ (Txt.join " " ws).cps.toList := fun hm => by
  rw [TL.join_eq] at hm
  have hm2 : 10 ∈ TL.tl (PySem.Str.join " " ws) := hm
  rw [TL.tl_join, tl_blank] at hm2
  rcases joinL_mem hm2 with z | ⟨p, hp, z⟩
  · simp at z
  · obtain ⟨y, hy, rfl⟩ := List.mem_map.mp hp
    exact h y hy z
theorem join_len {ws : List PySem.Str} (h : ∀ z ∈ ws, z.length ≤ 1000) (hl : ws.length ≤ 10) : (Txt.join " " ws).length ≤ 80000 := by
  have h1 := join_le " " ws
  have h2 := sum_le (l := ws.map (·.length)) (m := 1000) fun n hn => by
    obtain ⟨z, hz, rfl⟩ := List.mem_map.mp hn
    exact h z hz
  rw [show ((" " : PySem.Str)).length = 1 by decide +kernel] at h1
  rw [List.length_map] at h2
  omega
def plainW (z : PySem.Str) : Prop := 32 ∉ z.cps.toList ∧ 10 ∉ z.cps.toList ∧ z.length ≤ 1000
instance (z : PySem.Str) : Decidable (plainW z) := by unfold plainW; infer_instance
/-- a line of plain words -/
theorem line_plain {z first : PySem.Str} {rest sorts : List PySem.Str} {vals : List Val} (hz : z = Txt.join " " (first :: rest)) (hw : ("words" : PySem.Str) ∉ sorts) (hp : ∀ y ∈ first :: rest, plainW y) (hl : rest.length = sorts.length) (h9 : rest.length ≤ 9)
    (ht : (sorts.zip rest).map (fun p => toldOf p.1 p.2) = vals.map some) : LineOk z first sorts vals := by
  have hs : Txt.split z " " = first :: rest := by
    rw [hz]
    exact split_words (by simp) fun y hy => (hp y hy).1
  have hwo : wordsOf z sorts = first :: rest := by
    unfold wordsOf
    rw [if_neg hw, hs]
  refine ⟨?_, ?_, by rw [hs]; rfl, by rw [hwo, List.length_cons, hl], fun a ha => ?_, by omega, by rw [hwo]; exact ht⟩
  · rw [hz]
    exact join_len (fun y hy => (hp y hy).2.2) (by simp; omega)
  · rw [hz]
    exact join_nl fun y hy => (hp y hy).2.1
  · rw [hwo] at ha
    have := hp a ha
    exact shW_of this.1 this.2.2
theorem nums32 : ∀ n : Fin 32, numberOf (strI (n.val : Int)) = some (n.val : Int) ∧ plainW (strI (n.val : Int)) := by decide +kernel
theorem num_told {i : Int} (h : 0 ≤ i) (h2 : i < 32) : toldOf "number" (strI i) = some (.i i) ∧ plainW (strI i) := by
  have := nums32 ⟨i.toNat, by omega⟩
  have e : ((i.toNat : Nat) : Int) = i := by omega
  dsimp only at this
  rw [e] at this
  refine ⟨?_, this.2⟩
  unfold toldOf
  rw [if_pos rfl, this.1]
  rfl
def names5 : List PySem.Str := ["a", "shop", "zz", "qwertyui", "nobody"]
theorem name_told : ∀ n ∈ names5, toldOf "name" n = some (.s n) ∧ plainW n := by decide +kernel
theorem n45 {n : PySem.Str} (h : n ∈ names4) : n ∈ names5 := by
  have : ∀ n ∈ names4, n ∈ names5 := by decide +kernel
  exact this n h
theorem line_undo : LineOk "undo" "undo" [] [] := line_plain (rest := []) (join_one _).symm (by simp) (by decide +kernel) rfl (by simp) rfl
theorem line_names : LineOk "names" "names" [] [] := line_plain (rest := []) (join_one _).symm (by simp) (by decide +kernel) rfl (by simp) rfl
theorem line_store {n : PySem.Str} {m : Int} (hn : n ∈ names5) (h : 0 ≤ m) (h2 : m < 32) : LineOk (Txt.join " " ["store", n, strI m]) "store" ["name", "number"] [.s n, .i m] := by
  have h1 := name_told n hn
  have h3 := num_told h h2
  refine line_plain (rest := [n, strI m]) rfl (by decide +kernel) (fun y hy => ?_) rfl (by simp) ?_
  · simp only [List.mem_cons, List.not_mem_nil, or_false] at hy
    rcases hy with rfl | rfl | rfl
    · decide +kernel
    · exact h1.2
    · exact h3.2
  · show [toldOf "name" n, toldOf "number" (strI m)] = _
    rw [h1.1, h3.1]
    rfl
theorem line_a31 : LineOk "store a 31" "store" ["name", "number"] [.s "a", .i 31] := by
  have := line_store (n := "a") (m := 31) (by decide +kernel) (by decide) (by decide)
  rwa [show Txt.join " " ["store", "a", strI 31] = "store a 31" by decide +kernel] at this
/-- a line of a word and a name -/
theorem line_one {c n z : PySem.Str} (hz : z = Txt.join " " [c, n]) (hc : plainW c) (hn : n ∈ names5) : LineOk z c ["name"] [.s n] := by
  have h1 := name_told n hn
  refine line_plain (rest := [n]) hz (by decide +kernel) (fun y hy => ?_) rfl (by simp) ?_
  · simp only [List.mem_cons, List.not_mem_nil, or_false] at hy
    rcases hy with rfl | rfl
    · exact hc
    · exact h1.2
  · show [toldOf "name" n] = _
    rw [h1.1]
    rfl
theorem one_eq : ∀ n ∈ names4, ("drop " : PySem.Str) ++ n = Txt.join " " ["drop", n] ∧ ("keep " : PySem.Str) ++ n = Txt.join " " ["keep", n] ∧ ("runs " : PySem.Str) ++ n = Txt.join " " ["runs", n] ∧ ("rows " : PySem.Str) ++ n = Txt.join " " ["rows", n] ∧ ("plan " : PySem.Str) ++ n = Txt.join " " ["plan", n] ∧ (("stretch " : PySem.Str) ++ n) ++ " 0 999" = Txt.join " " ["stretch", n, "0", "999"] := by decide +kernel
theorem line_nobody : LineOk "drop nobody" "drop" ["name"] [.s "nobody"] := line_one (by decide +kernel) (by decide +kernel) (by decide +kernel)
theorem line_drop {n : PySem.Str} (h : n ∈ names4) : LineOk ("drop " ++ n) "drop" ["name"] [.s n] := line_one (one_eq n h).1 (by decide +kernel) (n45 h)
theorem line_keep {n : PySem.Str} (h : n ∈ names4) : LineOk ("keep " ++ n) "keep" ["name"] [.s n] := line_one (one_eq n h).2.1 (by decide +kernel) (n45 h)
theorem line_runs {n : PySem.Str} (h : n ∈ names4) : LineOk ("runs " ++ n) "runs" ["name"] [.s n] := line_one (one_eq n h).2.2.1 (by decide +kernel) (n45 h)
theorem line_rows {n : PySem.Str} (h : n ∈ names4) : LineOk ("rows " ++ n) "rows" ["name"] [.s n] := line_one (one_eq n h).2.2.2.1 (by decide +kernel) (n45 h)
theorem line_planN {n : PySem.Str} (h : n ∈ names4) : LineOk ("plan " ++ n) "plan" ["name"] [.s n] := line_one (one_eq n h).2.2.2.2.1 (by decide +kernel) (n45 h)
theorem line_stretch {n : PySem.Str} (h : n ∈ names4) : LineOk (("stretch " ++ n) ++ " 0 999") "stretch" ["name", "number", "number"] [.s n, .i 0, .i 999] := by
  have h1 := name_told n (n45 h)
  refine line_plain (rest := [n, "0", "999"]) (one_eq n h).2.2.2.2.2 (by decide +kernel) (fun y hy => ?_) rfl (by simp) ?_
  · simp only [List.mem_cons, List.not_mem_nil, or_false] at hy
    rcases hy with rfl | rfl | rfl | rfl
    · decide +kernel
    · exact h1.2
    · decide +kernel
    · decide +kernel
  · show [toldOf "name" n, toldOf "number" "0", toldOf "number" "999"] = _
    rw [h1.1, show toldOf "number" "0" = some (.i 0) by decide +kernel, show toldOf "number" "999" = some (.i 999) by decide +kernel]
    rfl
/-! a batch told and read -/
def pairF (k : Fin 8) (o : Option (Fin 9)) : PR := ((k.val : Int), o.map fun v => (v.val : Int) - 3)
theorem pairs_told : ∀ k : Fin 8, ∀ o ∈ (none :: (List.finRange 9).map some : List (Option (Fin 9))), pairOf (pwS (pairF k o)) = some (pairF k o) ∧ plainW (pwS (pairF k o)) ∧ (pwS (pairF k o)).cps.toList.head? ≠ some 45 ∧ (pwS (pairF k o)).cps.toList ≠ [] := by decide +kernel
theorem pair_told {b : List PR} (h : BatOk b) : ∀ x ∈ b, pairOf (pwS x) = some x ∧ plainW (pwS x) ∧ (pwS x).cps.toList.head? ≠ some 45 ∧ (pwS x).cps.toList ≠ [] := fun x hx => by
  have hk := h.k x hx
  have hv := h.v x hx
  obtain ⟨k, o⟩ := x
  have ek : ((k.toNat : Nat) : Int) = k := by dsimp only at hk; omega
  cases o with
  | none =>
    have := pairs_told ⟨k.toNat, by dsimp only at hk; omega⟩ none (List.mem_cons_self ..)
    have e : pairF ⟨k.toNat, by dsimp only at hk; omega⟩ none = (k, none) := Prod.ext ek rfl
    rwa [e] at this
  | some v =>
    have hv' := hv v rfl
    have := pairs_told ⟨k.toNat, by dsimp only at hk; omega⟩ (some ⟨(v + 3).toNat, by omega⟩) (List.mem_cons_of_mem _ (List.mem_map.mpr ⟨_, List.mem_finRange _, rfl⟩))
    have e : pairF ⟨k.toNat, by dsimp only at hk; omega⟩ (some ⟨(v + 3).toNat, by omega⟩) = (k, some v) := Prod.ext ek (congrArg some (by show (((v + 3).toNat : Nat) : Int) - 3 = v; omega))
    rwa [e] at this
theorem head_join {p : List Nat} {r : List (List Nat)} {sep : List Nat} (hp : p ≠ []) : (TL.joinL sep (p :: r)).head? = p.head? := by
  cases r with
  | nil => rfl
  | cons q r =>
    show (p ++ (sep ++ TL.joinL sep (q :: r))).head? = _
    cases p with
    | nil => exact absurd rfl hp
    | cons c p => rfl
theorem words_told {b : List PR} (h : BatOk b) : pairsOf (textL pwS "-" " " b) = some b ∧ 10 ∉ (textL pwS "-" " " b).cps.toList ∧ (textL pwS "-" " " b).length ≤ 1000 ∧ shW (textL pwS "-" " " b) := by
  have hl := textL_len h
  by_cases hb : b = []
  · subst hb
    rw [show textL pwS "-" " " ([] : List PR) = "-" from if_pos rfl]
    refine ⟨if_pos rfl, by decide +kernel, by decide +kernel, shW_of (by decide +kernel) (by decide +kernel)⟩
  · rw [show textL pwS "-" " " b = Txt.join " " (b.map pwS) from if_neg hb] at hl ⊢
    have ht := pair_told h
    have hpl : ∀ z ∈ b.map pwS, plainW z := fun z hz => by
      obtain ⟨x, hx, rfl⟩ := List.mem_map.mp hz
      exact (ht x hx).2.1
    have hne : b.map pwS ≠ [] := by simpa using hb
    have hs := split_words hne fun z hz => (hpl z hz).1
    have hnd : Txt.join " " (b.map pwS) ≠ "-" := fun e => by
      obtain ⟨x, r, rfl⟩ := List.exists_cons_of_ne_nil hb
      have hx := ht x (List.mem_cons_self ..)
      have e2 : TL.tl (Txt.join " " ((x :: r).map pwS)) = TL.tl ("-" : PySem.Str) := by rw [e]
      rw [TL.join_eq, TL.tl_join, tl_blank, show TL.tl ("-" : PySem.Str) = [45] by decide +kernel] at e2
      have e3 := head_join (p := TL.tl (pwS x)) (r := (r.map pwS).map TL.tl) (sep := 32 :: []) hx.2.2.2
      have e4 : (TL.joinL (32 :: []) (TL.tl (pwS x) :: (r.map pwS).map TL.tl)) = [45] := e2
      rw [e4] at e3
      exact hx.2.2.1 e3.symm
    have em : (b.map pwS).map pairOf = b.map some := by
      rw [List.map_map]
      exact List.map_congr_left fun x hx => (ht x hx).1
    refine ⟨?_, join_nl fun z hz => (hpl z hz).2.1, hl, ?_⟩
    · unfold pairsOf
      rw [if_neg hnd, hs, em, if_neg (by rw [Bool.not_eq_true, List.any_eq_false]; intro o ho; obtain ⟨b, _, rfl⟩ := List.mem_map.mp ho; simp), List.filterMap_map, show (id ∘ some : PR → Option PR) = some from rfl, List.filterMap_some]
    · refine ⟨by omega, ?_, fun a ha => ?_⟩
      · rw [hs, List.length_map]
        have := h.l
        omega
      · rw [hs] at ha
        exact shP_of (hpl a ha).2.2
theorem line_put {n : PySem.Str} {m : Int} {b : List PR} (hn : n ∈ names4) (h : 0 ≤ m) (h2 : m < 32) (hb : BatOk b) : LineOk (Txt.join " " ["put", n, strI m, textL pwS "-" " " b]) "put" ["name", "number", "words"] [.s n, .i m, .p b] := by
  have h1 := name_told n (n45 hn)
  have h3 := num_told h h2
  have hw := words_told hb
  generalize hT : textL pwS "-" " " b = T at hw
  have hput : plainW "put" := by decide +kernel
  have e0 : Txt.join " " ["put", n, strI m, T] = S (("put" : PySem.Str).cps.toList ++ ([32] ++ (n.cps.toList ++ ([32] ++ ((strI m).cps.toList ++ ([32] ++ T.cps.toList)))))) := by
    rw [TL.join_eq]
    refine TL.ext_tl ?_
    rw [TL.tl_join, tl_blank]
    rfl
  have hwo : wordsOf (Txt.join " " ["put", n, strI m, T]) ["name", "number", "words"] = (["put", n, strI m, T] : List PySem.Str) := by
    unfold wordsOf
    rw [if_pos (by decide +kernel), e0, blankS]
    show Txt.splitMax _ _ 3 = _
    rw [SM.splitMax3 hput.1 h1.2.1 h3.2.1]
  refine ⟨?_, ?_, ?_, by rw [hwo]; rfl, fun a ha => ?_, by decide, ?_⟩
  · refine join_len (fun y hy => ?_) (by simp)
    simp only [List.mem_cons, List.not_mem_nil, or_false] at hy
    rcases hy with rfl | rfl | rfl | rfl
    · exact hput.2.2
    · exact h1.2.2.2
    · exact h3.2.2.2
    · exact hw.2.2.1
  · refine join_nl fun y hy => ?_
    simp only [List.mem_cons, List.not_mem_nil, or_false] at hy
    rcases hy with rfl | rfl | rfl | rfl
    · exact hput.2.1
    · exact h1.2.2.1
    · exact h3.2.2.1
    · exact hw.2.1
  · rw [e0, blankS, split_S (by simp) (by decide), spl_free _ (by simp) (free_head hput.1)]
    show some (S ("put" : PySem.Str).cps.toList) = _
    rw [S_tl]
  · rw [hwo] at ha
    simp only [List.mem_cons, List.not_mem_nil, or_false] at ha
    rcases ha with rfl | rfl | rfl | rfl
    · exact shW_of hput.1 hput.2.2
    · exact shW_of h1.2.1 h1.2.2.2
    · exact shW_of h3.2.1 h3.2.2.2
    · exact hw.2.2.2
  · rw [hwo]
    show [toldOf "name" n, toldOf "number" (strI m), toldOf "words" T] = _
    have e3 : toldOf "words" T = some (.p b) := by
      unfold toldOf
      rw [if_neg (by decide +kernel), if_pos rfl, hw.1]
      rfl
    rw [h1.1, h3.1, e3]
    rfl
end
end Js
/-! ### desk and book, past and history (no program in sight) -/
namespace Js
open PySem PySem.Spec PyProof.Rows L2 Evl SX
open Rp (r)
section
def ltN (a b : PySem.Str) : Bool := ltCps a.cps.toList b.cps.toList
def srtN (l : List PySem.Str) : List PySem.Str := l.mergeSort fun a b => !ltN b a
def srtI (l : List Int) : List Int := l.mergeSort fun a b => decide (a ≤ b)
theorem ltN_iff {a b : PySem.Str} : ltN a b = true ↔ a.cps.toList < b.cps.toList := by
  unfold ltN
  rw [ltCps_eq, decide_eq_true_eq]
theorem ltN_no {a b : PySem.Str} : ltN a b = false ↔ b.cps.toList ≤ a.cps.toList := by
  rw [← Bool.not_eq_true, ltN_iff, List.not_lt]
theorem ltN_trans (a b c : PySem.Str) (h1 : (!ltN b a) = true) (h2 : (!ltN c b) = true) : (!ltN c a) = true := by
  rw [Bool.not_eq_true', ltN_no] at *
  exact List.le_trans h1 h2
theorem ltN_total (a b : PySem.Str) : ((!ltN b a) || !ltN a b) = true := by
  rw [Bool.or_eq_true, Bool.not_eq_true', Bool.not_eq_true', ltN_no, ltN_no]
  exact List.le_total _ _
theorem ltN_anti {a b : PySem.Str} (h1 : (!ltN b a) = true) (h2 : (!ltN a b) = true) : a = b := by
  rw [Bool.not_eq_true', ltN_no] at *
  have := List.le_antisymm h1 h2
  rw [← S_tl a, ← S_tl b, this]
theorem pw_sortedS : ∀ {l : List PySem.Str}, sortedS l = true → l.Pairwise fun a b => (!ltN b a) = true
  | [], _ => List.Pairwise.nil
  | [x], _ => List.pairwise_singleton _ _
  | x :: y :: l, h => by
    have h' : (!ltCps y.cps.toList x.cps.toList && risingS y l) = true := h
    rw [Bool.and_eq_true] at h'
    have ih := pw_sortedS (l := y :: l) h'.2
    refine List.pairwise_cons.mpr ⟨fun z hz => ?_, ih⟩
    rcases List.mem_cons.mp hz with rfl | hz
    · exact h'.1
    · exact ltN_trans x y z h'.1 ((List.pairwise_cons.mp ih).1 z hz)
theorem srtN_is {l ys : List PySem.Str} (hp : ys.Perm l) (hs : sortedS ys = true) : ys = srtN l := by
  have h1 : (srtN l).Pairwise (fun a b => (!ltN b a) = true) := List.pairwise_mergeSort ltN_trans ltN_total l
  exact pw_uniq (hp.trans (List.mergeSort_perm l _).symm) (pw_sortedS hs) h1 fun x _ y _ p q => ltN_anti p q
theorem srtN_perm {l m : List PySem.Str} (h : l.Perm m) : srtN l = srtN m := by
  have h1 : (srtN l).Pairwise (fun a b => (!ltN b a) = true) := List.pairwise_mergeSort ltN_trans ltN_total l
  have h2 : (srtN m).Pairwise (fun a b => (!ltN b a) = true) := List.pairwise_mergeSort ltN_trans ltN_total m
  exact pw_uniq ((List.mergeSort_perm l _).trans (h.trans (List.mergeSort_perm m _).symm)) h1 h2 fun x _ y _ p q => ltN_anti p q
theorem srtN_mem {l : List PySem.Str} {x : PySem.Str} : x ∈ srtN l ↔ x ∈ l := (List.mergeSort_perm l _).mem_iff
theorem srtI_pw (l : List Int) : (srtI l).Pairwise (· ≤ ·) := (List.pairwise_mergeSort (fun a b c h1 h2 => by rw [decide_eq_true_eq] at *; omega) (fun a b => by rw [Bool.or_eq_true, decide_eq_true_eq, decide_eq_true_eq]; omega) l).imp fun h => by simpa using h
theorem srtI_is {l ys : List Int} (hp : ys.Perm l) (hs : ys.Pairwise (· ≤ ·)) : ys = srtI l := pw_uniq (hp.trans (List.mergeSort_perm l _).symm) hs (srtI_pw l) fun x _ y _ p q => by omega
theorem srtI_perm (l : List Int) : (srtI l).Perm l := List.mergeSort_perm l _
/-! keys -/
theorem look_key {κ β : Type} [DecidableEq κ] {al : List (κ × β)} {k : κ} (h : NodupA al) : k ∈ al.map (·.1) ↔ ∃ b, lookA al k = some b := by
  rw [List.mem_map]
  constructor
  · rintro ⟨⟨k, b⟩, h1, rfl⟩
    exact ⟨b, (mem_lookA h).mp h1⟩
  · rintro ⟨b, hb⟩
    exact ⟨(k, b), (mem_lookA h).mpr hb, rfl⟩
theorem nodup_leS {l m : List PySem.Str} (h : l.Nodup) (hs : ∀ k ∈ l, k ∈ m) : l.length ≤ m.length := by
  induction l generalizing m with
  | nil => exact Nat.zero_le _
  | cons a l ih =>
    obtain ⟨h1, h2⟩ := List.nodup_cons.mp h
    have ha := hs a (List.mem_cons_self ..)
    have := ih (m := m.erase a) h2 fun k hk => (List.mem_erase_of_ne (fun e => h1 (by rw [← e]; exact hk))).mpr (hs k (List.mem_cons_of_mem _ hk))
    rw [List.length_erase_of_mem ha] at this
    have : 0 < m.length := List.length_pos_of_mem ha
    rw [List.length_cons]
    omega
abbrev Al := List (PySem.Str × StoreD)
abbrev Hi := List (PySem.Str × Option StoreD)
structure SRel (N : Nat) (d : StoreD) (s : LSt) : Prop where
  g : Good N s
  m : d.m = s.m
  s : d.s = stOf s
  n : d.n ≤ N
def ORel (N : Nat) : Option StoreD → Option LSt → Prop
  | none, none => True
  | some d, some s => SRel N d s
  | _, _ => False
theorem SRel.mono {N N' : Nat} {d : StoreD} {s : LSt} (h : SRel N d s) (hN : N ≤ N') : SRel N' d s := ⟨h.g.mono hN, h.m, h.s, by have := h.n; omega⟩
theorem ORel.mono {N N' : Nat} {o : Option StoreD} {p : Option LSt} (h : ORel N o p) (hN : N ≤ N') : ORel N' o p := by
  cases o with
  | none => cases p with
    | none => exact h
    | some s => exact h
  | some d => cases p with
    | none => exact h
    | some s => exact SRel.mono (show SRel N d s from h) hN
structure BRel (N : Nat) (al : Al) (bl : Bk) : Prop where
  na : NodupA al
  nb : NodupA bl
  r : ∀ n, ORel N (lookA al n) (lookA bl n)
  k : ∀ n s, lookA bl n = some s → n ∈ names4
section
variable {N : Nat} {al : Al} {bl : Bk}
theorem BRel.get (h : BRel N al bl) {n : PySem.Str} {s : LSt} (hs : lookA bl n = some s) : ∃ d, lookA al n = some d ∧ SRel N d s := by
  have := h.r n
  rw [hs] at this
  cases e : lookA al n with
  | none => rw [e] at this; exact this.elim
  | some d => rw [e] at this; exact ⟨d, rfl, this⟩
theorem BRel.iff (h : BRel N al bl) (n : PySem.Str) : (∃ d, lookA al n = some d) ↔ ∃ s, lookA bl n = some s := by
  have := h.r n
  cases e : lookA al n with
  | none => cases e2 : lookA bl n with
    | none => simp
    | some s => rw [e, e2] at this; exact this.elim
  | some d => cases e2 : lookA bl n with
    | none => rw [e, e2] at this; exact this.elim
    | some s => simp
theorem BRel.keys (h : BRel N al bl) : (al.map (·.1)).Perm (bl.map (·.1)) := (List.perm_ext_iff_of_nodup h.na h.nb).mpr fun n => by rw [look_key h.na, look_key h.nb, h.iff]
theorem BRel.key4 (h : BRel N al bl) : ∀ n ∈ bl.map (·.1), n ∈ names4 := fun n hn => by
  obtain ⟨s, hs⟩ := (look_key h.nb).mp hn
  exact h.k n s hs
theorem BRel.len (h : BRel N al bl) : bl.length ≤ 4 ∧ al.length ≤ 4 := by
  have h1 := nodup_leS h.nb h.key4
  have h2 := h.keys.length_eq
  rw [List.length_map] at h1
  rw [List.length_map, List.length_map] at h2
  have : names4.length = 4 := rfl
  omega
theorem BRel.cong (h : BRel N al bl) {al' : Al} (hl : ∀ n, lookA al n = lookA al' n) (hn : NodupA al') : BRel N al' bl := ⟨hn, h.nb, fun n => by rw [← hl]; exact h.r n, h.k⟩
theorem BRel.put (h : BRel N al bl) {N' : Nat} (hN : N ≤ N') {n : PySem.Str} (hn : n ∈ names4) {d : StoreD} {s : LSt} (hs : SRel N' d s) : BRel N' (putA al n d) (putA bl n s) := by
  refine ⟨nodup_put h.na, nodup_put h.nb, fun j => ?_, fun j s' hj => ?_⟩
  · rw [lookA_put, lookA_put]
    split
    · exact hs
    · exact (h.r j).mono hN
  · rw [lookA_put] at hj
    split at hj
    · rename_i e
      rw [e]
      exact hn
    · exact h.k j s' hj
theorem BRel.drop (h : BRel N al bl) {N' : Nat} (hN : N ≤ N') (n : PySem.Str) : BRel N' (dropA al n) (dropA bl n) := by
  refine ⟨nodup_drop h.na, nodup_drop h.nb, fun j => ?_, fun j s' hj => ?_⟩
  · rw [lookA_drop, lookA_drop]
    split
    · trivial
    · exact (h.r j).mono hN
  · rw [lookA_drop] at hj
    split at hj
    · cases hj
    · exact h.k j s' hj
end
theorem setA_look {al : Al} {n j : PySem.Str} {o : Option StoreD} : lookA (setA al n o) j = if j = n then o else lookA al j := by
  cases o with
  | none =>
    show lookA (dropA al n) j = _
    rw [lookA_drop]
  | some d =>
    show lookA (putA al n d) j = _
    rw [lookA_put]
theorem setA_nodup {al : Al} {n : PySem.Str} {o : Option StoreD} (h : NodupA al) : NodupA (setA al n o) := by
  cases o with
  | none => exact nodup_drop h
  | some d => exact nodup_put h
/-- books (the last one first), what stands at the desk, its history (the last one first) -/
inductive HR : List Bk → Al → Hi → Prop
  | base {al : Al} (h : BRel 0 al []) : HR [[]] al []
  | step {bks : List Bk} {bl : Bk} {al : Al} {hi : Hi} {n : PySem.Str} {o : Option StoreD} (h : BRel (hi.length + 1) al bl) (p : HR bks (setA al n o) hi) : HR (bl :: bks) al ((n, o) :: hi)
theorem HR.cong {bks : List Bk} {al : Al} {hi : Hi} (h : HR bks al hi) : ∀ {al' : Al}, (∀ n, lookA al n = lookA al' n) → NodupA al' → HR bks al' hi := by
  induction h with
  | base h => exact fun hl hn => .base (h.cong hl hn)
  | step h p ih =>
    intro al' hl hn
    refine .step (h.cong hl hn) (ih (fun j => ?_) (setA_nodup hn))
    rw [setA_look, setA_look, hl]
theorem HR.cur {bks : List Bk} {al : Al} {hi : Hi} (h : HR bks al hi) : bks.length = hi.length + 1 ∧ ∃ bl rest, bks = bl :: rest ∧ BRel hi.length al bl := by
  induction h with
  | base h => exact ⟨rfl, _, _, rfl, h⟩
  | step h p ih =>
    refine ⟨?_, _, _, rfl, h⟩
    rw [List.length_cons, List.length_cons, ih.1]
theorem HR.change {bks : List Bk} {al : Al} {hi : Hi} (h : HR bks al hi) {n : PySem.Str} {o : Option StoreD} {bl' : Bk} (hb : BRel (hi.length + 1) (setA al n o) bl') : HR (bl' :: bks) (setA al n o) ((n, lookA al n) :: hi) := by
  obtain ⟨_, bl, rest, _, hb0⟩ := h.cur
  refine .step hb (h.cong (fun j => ?_) (setA_nodup hb.na))
  rw [setA_look, setA_look]
  split
  · rename_i e
    rw [e]
  · rfl
theorem brel0 : BRel 0 [] [] := ⟨List.nodup_nil, List.nodup_nil, fun n => trivial, fun n s h => by cases h⟩
/-! what is told of a store, in the law's words -/
theorem runs_said {N : Nat} {s : LSt} (h : Good N s) : runsS (stOf s).made = if (0 : Int) ≤ (s.b.length : Int) - 1 then Txt.join " " (((shelfL s).zip (shownL s)).map fun x => rwS x.1.1 x.1.2 x.2.length) else "none" := by
  have e : ((shelfL s).zip (shownL s)).map (fun x => rwS x.1.1 x.1.2 x.2.length) = (stOf s).made.map fun x => rwS x.a x.b x.c.length := by
    show _ = (madeOf s).map fun x => rwS x.a x.b x.c.length
    unfold shownL madeOf
    rw [shelf_is h, List.map_map]
    generalize tiles s.b.length s.g = l
    induction l with
    | nil => rfl
    | cons x l ih =>
      rw [List.map_cons, List.zip_cons_cons, List.map_cons, List.map_cons, ih]
      rfl
  rw [e]
  unfold runsS textL
  have hm : (stOf s).made.length = s.g.length := by
    show (madeOf s).length = _
    unfold madeOf
    rw [List.length_map]
    have := congrArg List.length (tiles_fst s.b.length s.g)
    rwa [List.length_map] at this
  by_cases hb : s.b = []
  · have hX : ∀ X : PySem.Str, (if (0 : Int) ≤ (s.b.length : Int) - 1 then X else "none") = "none" := fun X => if_neg (by rw [hb]; decide)
    rw [hX]
    have hg : s.g = [] := by
      have ht := h.t
      rw [hb] at ht
      cases hg : s.g with
      | nil => rfl
      | cons x l =>
        rw [hg] at ht
        have h1 := ht.1
        have h2 := ht.2.1
        have h3 := til_le ht.2.2
        have h4 : ((([] : List (List PR)).length : Nat) : Int) = 0 := rfl
        rw [h4] at h2 h3
        omega
    rw [hg] at hm
    have : (stOf s).made = [] := List.length_eq_zero_iff.mp hm
    rw [this]
    rfl
  · have hl : 0 < s.b.length := List.length_pos_iff.mpr hb
    have hX : ∀ X : PySem.Str, (if (0 : Int) ≤ (s.b.length : Int) - 1 then X else "none") = X := fun X => if_pos (by omega)
    rw [hX, if_neg, List.map_id]
    intro h0
    have h1 : (stOf s).made = [] := List.map_eq_nil_iff.mp h0
    rw [h1] at hm
    have hg : s.g = [] := List.length_eq_zero_iff.mp hm.symm
    have ht := h.t
    rw [hg] at ht
    have : (0 : Int) = (s.b.length : Int) := ht
    omega
theorem plan_said {N : Nat} {s : LSt} (h : Good N s) : planS (stOf s).plan = if (0 : Int) ≤ (s.b.length : Int) - 1 then Txt.join "," (s.w.map strI) else "none" := by
  show planS s.w = _
  have hw := h.wb
  unfold planS
  by_cases hb : s.b = []
  · have hX : ∀ X : PySem.Str, (if (0 : Int) ≤ (s.b.length : Int) - 1 then X else "none") = "none" := fun X => if_neg (by rw [hb]; decide)
    rw [hb] at hw
    rw [hX, if_pos (List.length_eq_zero_iff.mp hw)]
  · have hl : 0 < s.b.length := List.length_pos_iff.mpr hb
    have hX : ∀ X : PySem.Str, (if (0 : Int) ≤ (s.b.length : Int) - 1 then X else "none") = X := fun X => if_pos (by omega)
    rw [hX, if_neg]
    intro h0
    rw [h0] at hw
    have : (0 : Nat) = s.b.length := hw
    omega
end
end Js
/-! ### names; is it right -/
namespace Js
open PySem PySem.Spec PyProof.Rows L2 Evl SX
open Rp (r)
def spNamesB (K : PySem.W.Frag) : Sp := fun vs H Q _ => ∃ (bk : Addr) (bl : Bk), vs = [.ref bk] ∧ BkR K H bk bl ∧ (bl.length ≤ 4 ∧ ∀ n ∈ bl.map (·.1), n ∈ names4) ∧ ∀ H', Ex H H' → Q (.str (textL id "none" " " (srtN (bl.map (·.1))))) H'
def spRight (K : PySem.W.Frag) : Sp := fun vs H Q _ => ∃ (M : Addr → Prop) (x dk pl bk : Addr) (al : Al) (bl : Bk) (hist : Hi) (N : Nat), vs = [.ref x, .ref bk, .int (hist.length : Int)] ∧ DeskR K M H x dk pl al hist ∧ BkR K H bk bl ∧ BRel N al bl ∧ N ≤ 27 ∧ hist.length < 80000 ∧ ∀ H', Ex H H' → Q (.bl true) H'
section
variable {P : Program} {w : World} {K : PySem.W.Frag} {mg : PySem.Str → Option Value} {base : Heap}
section
variable {σ : L2.St} {H : Hp} {te ta tb tc : TE}
theorem keys_G {α β : Type} {F : V → β → Prop} {kf : α → L2.Key} {kvs : List (L2.Key × V)} {al : List (α × β)} (h : DkR F kf kvs al) : (kvs.map fun kv => kV kv.1) = (al.map (·.1)).map fun k => kV (kf k) := by
  unfold DkR at h
  induction h with
  | nil => rfl
  | cons h _ ih => rw [List.map_cons, List.map_cons, List.map_cons, ih, h.1]
theorem el_sortD {β : Type} {F : V → β → Prop} {a : Addr} {kvs : List (L2.Key × V)} {al : List (PySem.Str × β)} (he : Ev te σ H (.ref a)) (hd : H a = some (.dK kvs)) (hk : DkR F Sum.inr kvs al) (hl : al.length < 64) : El K (tCB (rSortedS K) (tCons (tCB rListD (tCons te tNil)) tNil)) σ H (srtN (al.map (·.1))) := fun H1 e1 Q q => he H1 e1 _ fun H2 e2 => by
  refine ⟨a, kvs, rfl, .inl (e2 _ _ (e1 _ _ hd)), fun p1 n1 => ⟨p1, al.map (·.1), rfl, sq_of (by rw [keys_G hk]; exact upd_same), by rw [List.length_map]; exact hl, fun ys p2 hpm hs n2 => ?_⟩⟩
  have e := srtN_is hpm hs
  subst e
  exact q p2 _ _ ((e2.trans (Ex.new n1)).trans (Ex.new n2)) (fresh_back (e2.trans (Ex.new n1)) n2) upd_same (pd_of (F := r K _) (f := V.str) (fun b => (rfl : V.str b = V.str b)) _)
theorem el_sortDI {β : Type} {F : V → β → Prop} {a : Addr} {kvs : List (L2.Key × V)} {al : List (Int × β)} (he : Ev te σ H (.ref a)) (hd : H a = some (.dK kvs)) (hk : DkR F Sum.inl kvs al) (hl : al.length < 64) : El K (tCB (rSorted K) (tCons (tCB rListD (tCons te tNil)) tNil)) σ H (srtI (al.map (·.1))) := fun H1 e1 Q q => he H1 e1 _ fun H2 e2 => by
  refine ⟨a, kvs, rfl, .inl (e2 _ _ (e1 _ _ hd)), fun p1 n1 => ⟨p1, al.map (·.1), rfl, sq_of (by rw [keys_G hk]; exact upd_same), by rw [List.length_map]; exact hl, fun ys p2 hpm hs n2 => ?_⟩⟩
  have e := srtI_is hpm hs
  subst e
  exact q p2 _ _ ((e2.trans (Ex.new n1)).trans (Ex.new n2)) (fresh_back (e2.trans (Ex.new n1)) n2) upd_same (pd_of (F := r K _) (f := V.int) (fun b => (rfl : V.int b = V.int b)) _)
theorem et_same {z : PySem.Str} (h1 : Er K ta σ H z) (h2 : Er K tb σ H z) : EvT (tTest (tOp rNe ta tb)) σ H false := et_is (et_t (K := K) (er_neS h1 h2)) (by simp)
theorem r_skip {t : TT} {tu : TS} {D : Ends} (h : EvT t σ H false) (k : ∀ H1, Ex H H1 → D.nx σ H1) : tIfS t tu tNext D σ H := r_if h (fun z => by cases z) fun _ H1 e1 => k H1 e1
theorem er_tell {M : Addr → Prop} {x dk pl : Addr} {al : Al} {hist : Hi} {z first ans : PySem.Str} {sorts : List PySem.Str} {vals : List Val} (ha : Ev ta σ H (.ref x)) (hb : Er K tb σ H z) (hd : DeskR K M H x dk pl al hist) (hal : al.length < 80000) (hhi : hist.length < 80000) (form : FormK K first sorts) (line : LineOk z first sorts vals)
    (ht : ∀ H1, Ex H H1 → ∀ Q : VK, (∀ H2, Ex H1 H2 → Q (.str ans) H2) → TellR K M H1 x dk pl al hist Q (eN σ) (.s first :: vals)) : Er K (tM (He.ga K "Desk") "tell" (spTell K) eN ta (tCons tb tNil)) σ H ans := fun H1 e1 Q q => ha H1 e1 _ fun H2 e2 => by
  have d2 := hd.ex (e1.trans e2)
  obtain ⟨dx, hx⟩ := d2.at_
  exact ⟨x, dx, _, rfl, hx, rfl, hb.evS H2 (e1.trans e2) _ fun H3 e3 => ⟨M, x, dk, pl, z, first, sorts, vals, al, hist, rfl, d2.ex e3, hal, hhi, form, line, ht H3 ((e1.trans e2).trans e3) Q fun H4 e4 => q _ H4 ((e2.trans e3).trans e4) rfl⟩⟩
theorem er_undo {M : Addr → Prop} {x dk pl : Addr} {al : Al} {hist : Hi} (ha : Ev ta σ H (.ref x)) (hd : DeskR K M H x dk pl al hist) : Er K (tM (He.ga K "Desk") "undoable" (fun vs H Q _ => ∃ (M : Addr → Prop) (x dk pl : Addr) (al : List (PySem.Str × StoreD)) (hist : List (PySem.Str × Option StoreD)), vs = [.ref x] ∧ DeskR K M H x dk pl al hist ∧ ∀ H', Ex H H' → Q (.int (hist.length : Int)) H') eN ta tNil) σ H (hist.length : Int) := fun H1 e1 Q q => ha H1 e1 _ fun H2 e2 => by
  have d2 := hd.ex (e1.trans e2)
  obtain ⟨dx, hx⟩ := d2.at_
  exact ⟨x, dx, _, rfl, hx, rfl, M, x, dk, pl, al, hist, rfl, d2, fun H3 e3 => q _ H3 (e2.trans e3) rfl⟩
theorem r_forZ {α β : Type} [Rp α] [Rp β] [RpT α] [RpT β] {as : List α} {bs : List β} {t : TS} {D : Ends} {i j : Nat} (h1 : Er K ta σ H as) (h2 : El K tb σ H bs) (k : ∀ p ys H1, Ex H H1 → H p = none → H1 p = some (.lst ys) → ∃ Pv : Nat → L2.St → Hp → Prop, Pv 0 σ H1 ∧ (∀ n σ' H', Pv n σ' H' → ExT H1 H' ∧ SqL K H' p ys) ∧
    (∀ n a b u w σ' H' H'', as[n]? = some a → bs[n]? = some b → Pv n σ' H' → Ex H' H'' → r K H'' u a → r K H'' w b → t { D with nx := Pv (n + 1), ct := Pv (n + 1), bk := D.nx } ((σ'.set i (some u)).set j (some w)) H'') ∧ ∀ σ' H', Pv (min as.length bs.length) σ' H' → D.nx σ' H') :
    tFor (Jg.iZipM K (tCons ta (tCons tb tNil))) (gTup K 2 (gCons (gName i) (gCons (gName j) gNil))) t D σ H := h1 H (Ex.refl H) _ fun v H1 e1 hv => h2 H1 e1 _ fun p2 ys H2 e2 hn hl hp => by
  obtain ⟨p, xs, rfl, g1, g2⟩ := Rp.mono e2 hv
  obtain ⟨Pv, p0, pe, ps, pd⟩ := k p2 ys H2 (e1.trans e2) (fresh_back e1 hn) hl
  refine ⟨p, p2, xs, ys, rfl, g1, sq_of hl, for_it (Jg.walk_zipM rfl) Pv p0 (fun n σ' H' _ pv => ⟨(pe n σ' H' pv).1 K p xs g1, (pe n σ' H' pv).2⟩) (fun n x σ' H' H'' hn pv y => ?_) fun σ' H' pv => pd σ' H' (by rw [← pd_len g2, ← pd_len hp]; exact pv)⟩
  obtain ⟨t1, x1, x2, rfl, ht, rfl, y1, y2⟩ := y
  obtain ⟨a, ha, hr⟩ := pd_get g2 y1
  obtain ⟨b, hb, hr2⟩ := pd_get hp y2
  have et := (pe n σ' H' pv).1
  exact ⟨t1, _, rfl, st_of upd_same, rfl, x1, _, rfl, x2, _, rfl, rfl, ps n a b x1 x2 σ' H' _ ha hb pv (Ex.new ht) (Rp.mono (Ex.new ht) (RpT.t et hr)) (Rp.mono (Ex.new ht) (RpT.t et hr2))⟩
theorem names_len {l : List PySem.Str} (h : l.length ≤ 4) (h4 : ∀ n ∈ l, n ∈ names4) : ((srtN l).map (·.length)).sum + (srtN l).length * ((" " : PySem.Str)).length ≤ 16777216 := by
  have hl : (srtN l).length = l.length := (List.mergeSort_perm l _).length_eq
  have := sum_le (l := (srtN l).map (·.length)) (m := 8) fun n hm => by
    obtain ⟨z, hz, rfl⟩ := List.mem_map.mp hm
    exact n4_len (h4 z (srtN_mem.mp hz))
  rw [List.length_map, hl] at this
  rw [hl, show ((" " : PySem.Str)).length = 1 by decide +kernel]
  omega
theorem srtN_nil {l : List PySem.Str} : srtN l = [] ↔ l = [] := by
  constructor
  · intro h
    have : (srtN l).length = l.length := (List.mergeSort_perm l _).length_eq
    rw [h] at this
    exact List.length_eq_zero_iff.mp this.symm
  · rintro rfl
    unfold srtN
    simp
end
theorem ok_law_names (T : Tx w K mg) : FnAt P w K mg base 1 (He.fAd K ("_law_names", none)) (spNamesB K) := by
  have S : FnScope ["_law_book"] ["_law_book"] (defScope s_law_names) := ⟨rfl, rfl, rfl, by decide +kernel, rfl, by decide +kernel, by decide +kernel⟩
  refine mk0 0 T.f_law_names S (fun _ _ _ _ _ _ us hl => match us, hl with | [_], _ => rfl) (fun vs H Q E h => by obtain ⟨_, _, rfl, _⟩ := h; rfl) fun cdv A outer s H vs Q E hr h => ?_
  obtain ⟨bk, bl, rfl, ⟨kvs, hk1, hk2⟩, ⟨hl, h4⟩, q⟩ := h
  refine ⟨_, pss_one (ps_ret (pe_ifExp (pt_cmpR op_gt (pe_callB call_lenD rfl T.z_len (by decide +kernel) (pa_cons (pv 0) pa_nil)) pe_int (nomark _)) (joinK (K := K) rfl pe_str (pe_callB cr_sortedS rfl T.z_sorted (by decide +kernel) (pa_cons (pe_callTy (call_listD rfl) rfl T.z_list (by decide +kernel) (pa_cons (pv 0) pa_nil)) pa_nil))) pe_str)), ?_⟩
  have hlen : Er K (tCB (fun xs H Q => ∃ a kvs, xs = [V.ref a] ∧ H a = some (.dK kvs) ∧ Q (.int (kvs.length : Int)) H) (tCons (tVar 0) tNil)) (L2.start ["_law_book"] [.ref bk]) H ((bl.length : Nat) : Int) := fun H1 e1 Q q => ⟨.ref bk, rfl, bk, kvs, rfl, e1 _ _ hk1, q _ H1 (Ex.refl _) (by rw [pd_len hk2]; rfl)⟩
  refine r_ret (K := K) (er_if (a := textL id "none" " " (srtN (bl.map (·.1)))) (k := decide ((0 : Int) < (bl.length : Int))) (et_t (K := K) (er_IB (g := fun i j => decide (j < i)) hlen (er_i 0))) (fun hc => ?_) fun hc => ?_) fun v H2 e2 hv => ?_
  · have h0 : ¬ srtN (bl.map (·.1)) = [] := fun e => by
      rw [srtN_nil, List.map_eq_nil_iff] at e
      rw [e] at hc
      simp at hc
    rw [show textL id "none" " " (srtN (bl.map (·.1))) = Txt.join " " ((srtN (bl.map (·.1))).map id) from if_neg h0, List.map_id]
    exact er_join (er_s " ") (El.er' (el_sortD (ev_var rfl) hk1 hk2 (by omega))) (names_len (by rw [List.length_map]; exact hl) h4)
  · have h0 : bl = [] := by
      have := of_decide_eq_false hc
      exact List.length_eq_zero_iff.mp (by omega)
    subst h0
    rw [show textL id "none" " " (srtN (List.map (fun x : PySem.Str × LSt => x.1) [])) = "none" from if_pos (srtN_nil.mpr rfl)]
    exact er_s _
  · obtain rfl : v = .str _ := hv
    exact q H2 e2
end
end Js
/-! ### is it right -/
namespace Js
open PySem PySem.Spec PyProof.Rows L2 Evl SX
open Rp (r)
section
variable {P : Program} {w : World} {K : PySem.W.Frag} {mg : PySem.Str → Option Value} {base : Heap}
theorem tell_ans {M : Addr → Prop} {H : Hp} {x dk pl : Addr} {al : Al} {hist : Hi} {Q : VK} {E : XK} {c n z : PySem.Str} {rest : List Val} {d : StoreD} (hn : lookA al n = some d) (ok : AnsOk d) (ha : AnsR d n (.s c :: .s n :: rest) z) (q : ∀ H2, Ex H H2 → Q (.str z) H2) : TellR K M H x dk pl al hist Q E (.s c :: .s n :: rest) := .answer c n rest d z hn ok ha q
theorem er_dgetI {σ : L2.St} {H : Hp} {d : Addr} {kvs : List (L2.Key × V)} {al : List (Int × Option Int)} {k : Int} {td ty : TE} (hd : H d = some (.dK kvs)) (hD : DkR (FO K) Sum.inl kvs al) (hm : k ∈ al.map (·.1)) (h1 : Ev td σ H (.ref d)) (h2 : Er K ty σ H k) : Er K (tDGet td ty) σ H ((lookA al k).join) := fun H1 e1 Q q => by
  rcases dk_val inl_inj hD k with ⟨z1, z2⟩ | ⟨v, b, z1, z2, z3⟩
  · exfalso
    obtain ⟨⟨k', o⟩, h3, rfl⟩ := List.mem_map.mp hm
    unfold lookA at z2
    rw [Option.map_eq_none_iff, List.find?_eq_none] at z2
    exact z2 _ h3 (by simp)
  · refine r_get (k := Sum.inl k) (e1 _ _ hd) (h1.mono e1) (fun H2 e2 => (h2.mono (e1.trans e2)).evI) rfl z1 fun H2 e2 => q v H2 e2 ?_
    rw [z2]
    exact z3 H2
theorem er_planJ {σ : L2.St} {H : Hp} {s : LSt} {N : Nat} (g : Good N s) (hN : N ≤ 27) {ta : TE} {wv : List Nat} {te : TE} (hw : Er K ta σ H s)
    (hb : ∀ a v H1, r K H1 v (a : Int) → ∀ Q : L2.St → Hp → Prop, (∀ σ2 H2, Ex H1 H2 → wipe σ2 wv = wipe σ wv → Er K te σ2 H2 a → Q σ2 H2) → gName 12 v (wipe σ wv) H1 Q) :
    Er K (tM1 (rJoin K) (tC (.str ",")) (tLc (iTup K (tOp (rIxT K) ta (tC (.int 3)))) (gName 12) tYes (tCB (fun xs H Q => ∃ i, xs = [.int i] ∧ i.natAbs.log2 < 1920 ∧ Q (.str (toString i)) H) (tCons te tNil)) wv)) σ H (Txt.join "," (s.w.map strI)) := by
  have hl := g.wl
  refine er_join (z := ",") (er_s _) (El.er' (el_lcY (f := strI) (wr_tup (er_lW hw)) (by omega) fun a v H1 ha e1 hv Q q => hb a v H1 hv Q fun σ2 H2 e2 hw he => q σ2 H2 e2 hw (er_str' he (by have := g.wr a ha; omega) (by have := g.wr a ha; omega)))) ?_
  have := sum_le (l := (s.w.map strI).map (·.length)) (m := 6) fun n hm => by
    obtain ⟨z, hz, rfl⟩ := List.mem_map.mp hm
    obtain ⟨y, hy, rfl⟩ := List.mem_map.mp hz
    exact strI_len (by have := g.wr y hy; omega) (by have := g.wr y hy; omega)
  rw [List.length_map, List.length_map] at this
  rw [List.length_map, show (("," : PySem.Str)).length = 1 by decide +kernel]
  omega
theorem ok_law_is_right (T : Tx w K mg) : FnAt P w K mg base 12 (He.fAd K ("_law_is_right", none)) (spRight K) := by
  have S : FnScope ["_law_desk", "_law_book", "_law_many", "_law_name", "_law_state", "_law_last", "_law_words", "_law_pair", "_law_held", "_law_seen", "_law_due", "_law_key", "_law_begin"] ["_law_desk", "_law_book", "_law_many"] (defScope s_law_is_right) := ⟨rfl, rfl, rfl, by decide +kernel, rfl, by decide +kernel, by decide +kernel⟩
  have G_law_batch_text_L := ok_law_batch_text_L (P := P) (base := base) T
  have G_Desk_tell := ok_Desk_tell (P := P) (base := base) T
  have G_law_names := ok_law_names (P := P) (base := base) T
  have G_Desk_undoable := ok_Desk_undoable (P := P) (base := base) T
  have G_law_shelf := ok_law_shelf (P := P) (base := base) T
  have G_law_shown := ok_law_shown (P := P) (base := base) T
  have G_law_sight := ok_law_sight (P := P) (base := base) T
  have G_law_batch_text := ok_law_batch_text (P := P) (base := base) T
  refine mk0 11 T.f_law_is_right S (fun _ _ _ _ _ _ us hl => match us, hl with | [_, _, _], _ => rfl) (fun vs H Q E h => by obtain ⟨_, _, _, _, _, _, _, _, _, rfl, _⟩ := h; rfl) fun cdv A outer s H vs Q E hr h => ?_
  obtain ⟨M, x, dk, pl, bk, al, bl, hist, N, rfl, hd, ⟨kvs, hk1, hk2⟩, hB, hN, hhi, q⟩ := h
  refine ⟨_, pss_cons (ps_if (PW.pt (pw_or (pt_cmpR op_ne (pe_m G_Desk_tell T.c_Desk T.m_Desk_tell hr (by decide) passN (pv 0) (pa_cons pe_str pa_nil)) (pe_f G_law_names T.g_law_names hr (by decide) passN (pa_cons (pv 1) pa_nil)) (nomark _)) (pw_or1 (pt_cmpR op_ne (pe_m0 G_Desk_undoable T.c_Desk T.m_Desk_undoable hr (by decide) passN (pv 0)) (pv 2) (nomark _)))))
        (pss_one (ps_ret pe_bl))
        (pss_nil))
      (pss_cons (ps_for PassesOwn.never rfl (pi_list (pe_callB cr_sortedS rfl T.z_sorted (by decide +kernel) (pa_cons (pe_callTy (call_listD rfl) rfl T.z_list (by decide +kernel) (pa_cons (pv 1) pa_nil)) pa_nil))) (pg_name (i := 3) S.nd rfl (Or.inl rfl))
        (pss_cons (ps_set (i := 4) S.nd rfl (Or.inl rfl) (pe_dget (hu_of hr) (pv 1) (pv 3) (fun _ _ => rfl)))
        (pss_cons (ps_set (i := 5) S.nd rfl (Or.inl rfl) (pe_op op_sub (pe_callB (lenK (K := K) rfl) rfl T.z_len (by decide +kernel) (pa_cons (pe_ix (ixT (K := K) rfl) (pv 4) pe_int (fun _ _ => rfl)) pa_nil)) pe_int))
        (pss_cons (ps_set (i := 6) S.nd rfl (Or.inl rfl) (pe_lst pa_nil))
        (pss_cons (ps_for PassesOwn.never rfl (Jg.pi_zipM rfl T.z_zip (pa_cons (pe_f G_law_shelf T.g_law_shelf hr (by decide) passN (pa_cons (pv 4) pa_nil)) (pa_cons (pe_f G_law_shown T.g_law_shown hr (by decide) passN (pa_cons (pv 4) pa_nil)) pa_nil))) (pg_tup rfl (pgs_cons (pg_name (i := 7) S.nd rfl (Or.inl rfl)) (pgs_cons (pg_name (i := 8) S.nd rfl (Or.inl rfl)) pgs_nil)))
          (pss_one (ps_expr (pe_bm PySem.F.plainAttrs_list PySem.F.slot_list_append PySem.F.type_list_append mt_append (pv 6) (pa_cons (pe_op op_add_str (pe_op op_add_str (pe_op op_add_str (pe_op op_add_str (pe_callTy call_str_int rfl T.z_str (by decide +kernel) (pa_cons (pe_ix (ixT (K := K) rfl) (pv 7) pe_int (fun _ _ => rfl)) pa_nil)) pe_str) (pe_callTy call_str_int rfl T.z_str (by decide +kernel) (pa_cons (pe_ix (ixT (K := K) rfl) (pv 7) pe_int (fun _ _ => rfl)) pa_nil))) pe_str) (pe_callTy call_str_int rfl T.z_str (by decide +kernel) (pa_cons (pe_callB (lenK (K := K) rfl) rfl T.z_len (by decide +kernel) (pa_cons (pv 8) pa_nil)) pa_nil))) pa_nil)))))
        (pss_cons (ps_if (pt_cmpR op_ne (pe_m G_Desk_tell T.c_Desk T.m_Desk_tell hr (by decide) passN (pv 0) (pa_cons (pe_op op_add_str pe_str (pv 3)) pa_nil)) (pe_ifExp (pt_cmpR op_ge (pv 5) pe_int (nomark _)) (joinK (K := K) rfl pe_str (pv 6)) pe_str) (nomark _))
          (pss_one (ps_ret pe_bl))
          (pss_nil))
        (pss_cons (ps_if (pt_cmpR op_ne (pe_m G_Desk_tell T.c_Desk T.m_Desk_tell hr (by decide) passN (pv 0) (pa_cons (pe_op op_add_str pe_str (pv 3)) pa_nil)) (pe_callTy call_str_int rfl T.z_str (by decide +kernel) (pa_cons (pe_ix (ixT (K := K) rfl) (pv 4) pe_int (fun _ _ => rfl)) pa_nil)) (nomark _))
          (pss_one (ps_ret pe_bl))
          (pss_nil))
        (pss_cons (ps_if (pt_cmpR op_ne (pe_m G_Desk_tell T.c_Desk T.m_Desk_tell hr (by decide) passN (pv 0) (pa_cons (pe_op op_add_str pe_str (pv 3)) pa_nil)) (pe_ifExp (pt_cmpR op_ge (pv 5) pe_int (nomark _)) (joinK (K := K) rfl pe_str (pe_lc (own := [("_law_begin", 12)]) (g := gName 12) (tt := tYes) rfl S.nd (pi_tup (pe_ix (ixT (K := K) rfl) (pv 4) pe_int (fun _ _ => rfl))) (blkOk_by (N := ["_law_desk", "_law_book", "_law_many", "_law_name", "_law_state", "_law_last", "_law_words", "_law_pair", "_law_held", "_law_seen", "_law_due", "_law_key", "_law_begin"]) (sc := defScope s_law_is_right) (own := [("_law_begin", 12)]) (by decide +kernel)) (fun _ _ _ _ _ => pg_name (i := 12) S.nd rfl (Or.inl rfl)) (fun _ _ _ _ _ => pts_nil) (fun _ _ _ _ _ => pe_callTy call_str_int rfl T.z_str (by decide +kernel) (pa_cons (pv 12) pa_nil)))) pe_str) (nomark _))
          (pss_one (ps_ret pe_bl))
          (pss_nil))
        (pss_cons (ps_set (i := 9) S.nd rfl (Or.inr rfl) (pe_f G_law_sight T.g_law_sight hr (by decide) passN (pa_cons (pe_ix (ixT (K := K) rfl) (pv 4) pe_int (fun _ _ => rfl)) (pa_cons (pv 5) pa_nil))))
        (pss_cons (ps_set (i := 10) S.nd rfl (Or.inl rfl) (pe_f G_law_batch_text_L T.g_law_batch_text hr (by decide) passN (pa_cons (pe_lc (own := [("_law_key", 11)]) (g := gName 11) (tt := tYes) rfl S.nd (pi_list (pe_callB cr_sorted rfl T.z_sorted (by decide +kernel) (pa_cons (pe_callTy (call_listD rfl) rfl T.z_list (by decide +kernel) (pa_cons (pv 9) pa_nil)) pa_nil))) (blkOk_by (N := ["_law_desk", "_law_book", "_law_many", "_law_name", "_law_state", "_law_last", "_law_words", "_law_pair", "_law_held", "_law_seen", "_law_due", "_law_key", "_law_begin"]) (sc := defScope s_law_is_right) (own := [("_law_key", 11)]) (by decide +kernel)) (fun _ _ _ _ _ => pg_name (i := 11) S.nd rfl (Or.inl rfl)) (fun _ _ _ _ _ => pts_nil) (fun _ _ _ _ _ => pe_tup (pa_cons (pv 11) (pa_cons (pe_dget (hu_of hr) (pv 9) (pv 11) (fun _ _ => rfl)) pa_nil)))) pa_nil)))
        (pss_one (ps_if (pt_cmpR op_ne (pe_m G_Desk_tell T.c_Desk T.m_Desk_tell hr (by decide) passN (pv 0) (pa_cons (pe_op op_add_str (pe_op op_add_str pe_str (pv 3)) pe_str) pa_nil)) (pv 10) (nomark _))
          (pss_one (ps_ret pe_bl))
          (pss_nil)))))))))))))
      (pss_one (ps_ret pe_bl))), ?_⟩
  obtain ⟨bl4, al4⟩ := hB.len
  have hnames : textL id "none" " " (srtN (al.map (·.1))) = textL id "none" " " (srtN (bl.map (·.1))) := by rw [srtN_perm hB.keys]
  have ET : ∀ {H1 : Hp} {σ1 : L2.St} {tb : TE} {z first ans : PySem.Str} {sorts : List PySem.Str} {vals : List Val}, Ex H H1 → σ1[0]? = some (some (.ref x)) → Er K tb σ1 H1 z → FormK K first sorts → LineOk z first sorts vals → (∀ H2, Ex H H2 → ∀ Q : VK, (∀ H3, Ex H2 H3 → Q (.str ans) H3) → TellR K M H2 x dk pl al hist Q (eN σ1) (.s first :: vals)) →
      Er K (tM (He.ga K "Desk") "tell" (spTell K) eN (tVar 0) (tCons tb tNil)) σ1 H1 ans := fun e h0 hb form line ht => er_tell (ev_var h0) hb (hd.ex e) (by omega) hhi form line fun H2 e2 => ht H2 (e.trans e2)
  -- the names, the number of what can be taken back
  have t1 : Er K (tM (He.ga K "Desk") "tell" (spTell K) eN (tVar 0) (tCons (tC (.str "names")) tNil)) (L2.start ["_law_desk", "_law_book", "_law_many", "_law_name", "_law_state", "_law_last", "_law_words", "_law_pair", "_law_held", "_law_seen", "_law_due", "_law_key", "_law_begin"] [.ref x, .ref bk, .int (hist.length : Int)]) H (textL id "none" " " (srtN (bl.map (·.1)))) := by
    refine ET (Ex.refl _) rfl (er_s _) T.form_names line_names fun H2 e2 Q q => .names (by omega) (fun a ha => ?_) fun ys hpm hs H3 e3 => ?_
    · have h1 : a.1 ∈ bl.map (·.1) := hB.keys.mem_iff.mp (List.mem_map.mpr ⟨a, ha, rfl⟩)
      have := n4_len (hB.key4 _ h1)
      omega
    · rw [srtN_is hpm hs, hnames]
      exact q H3 e3
  have t2 : Er K (tF (spNamesB K) eN (tCons (tVar 1) tNil)) (L2.start ["_law_desk", "_law_book", "_law_many", "_law_name", "_law_state", "_law_last", "_law_words", "_law_pair", "_law_held", "_law_seen", "_law_due", "_law_key", "_law_begin"] [.ref x, .ref bk, .int (hist.length : Int)]) H (textL id "none" " " (srtN (bl.map (·.1)))) := fun H1 e1 Q q => ⟨.ref bk, rfl, bk, bl, rfl, ⟨kvs, e1 _ _ hk1, dk_mono hk2 fun _ _ z => Rp.mono e1 z⟩, ⟨bl4, hB.key4⟩, fun H2 e2 => q _ H2 e2 rfl⟩
  refine r_skip (et_is (et_or (et_t (K := K) (er_neS t1 t2)) fun _ => et_t (K := K) (er_neI (er_undo (ev_var rfl) hd) (er_var (a := (hist.length : Int)) rfl rfl))) (by simp)) fun H1 e1 => ?_
  -- name by name
  have hsrt : El K (tCB (rSortedS K) (tCons (tCB rListD (tCons (tVar 1) tNil)) tNil)) [some (.ref x), some (.ref bk), some (.int (hist.length : Int)), none, none, none, none, none, none, none, none, none, none] H1 (srtN (bl.map (·.1))) := el_sortD (ev_var rfl) (e1 _ _ hk1) (dk_mono hk2 fun _ _ z => Rp.mono e1 z) (by omega)
  refine r_forLN (as := srtN (bl.map (·.1))) hsrt fun p xs H2 e2 np hp => ⟨fun i σ' H' => Ex H2 H' ∧ ∃ n3 n4 n5 n6 n7 n8 n9 n10 n11 n12, σ' = [some (.ref x), some (.ref bk), some (.int (hist.length : Int)), n3, n4, n5, n6, n7, n8, n9, n10, n11, n12], ?_, ?_, ?_, ?_⟩
  · exact ⟨Ex.refl _, none, none, none, none, none, none, none, none, none, none, rfl⟩
  · exact fun i σ' H' pv => ⟨Js.Ex.t pv.1, sq_of (pv.1 _ _ hp)⟩
  · rintro i n v σ' H3 hi hr ⟨e3, n3, n4, n5, n6, n7, n8, n9, n10, n11, n12, rfl⟩
    obtain rfl : v = .str n := hr
    have hmem : n ∈ bl.map (·.1) := srtN_mem.mp (List.mem_of_getElem? hi)
    obtain ⟨s, hs⟩ := (look_key hB.nb).mp hmem
    have hn4 := hB.k n s hs
    have n8l := n4_len hn4
    obtain ⟨d, hdl, R⟩ := hB.get hs
    have g := R.g
    have gb := g.b
    have gg := g.gl
    have eH3 := (e1.trans e2).trans e3
    have hyp := srtI_perm ((sightL s.b).map (·.1))
    have hpw := srtI_pw ((sightL s.b).map (·.1))
    have ans := g.ans (by omega) R.s hyp hpw
    obtain ⟨vs, hv1, hvr⟩ : ∃ v, valV kvs (Sum.inr n) = some v ∧ r K H v s := by
      rcases dk_val inr_inj hk2 n with ⟨z1, z2⟩ | ⟨v, b, z1, z2, z3⟩
      · rw [hs] at z2
        cases z2
      · rw [hs] at z2
        cases z2
        exact ⟨v, z1, z3⟩
    refine gb_name ?_
    refine r_setGet (k := Sum.inr n) (eH3 _ _ hk1) (ev_var rfl) (fun H2 e2 => ev_var rfl) rfl hv1 fun H4 e4 => ?_
    have eH4 := eH3.trans e4
    have h_state := Rp.mono eH4 hvr
    refine r_set (K := K) (er_II (g := fun i j => i - j) (er_lenT (er_lB (er_var rfl h_state))) (er_i 1)) fun v5 H5 e5 hv5 => ?_
    obtain rfl : v5 = .int ((s.b.length : Int) - 1) := hv5
    refine r_setL (K := K) (as := ([] : List Int)) el_0 fun lw xw H6 e6 nw w1 w2 => ?_
    cases w2
    have eH6 := (eH4.trans e5).trans e6
    have e26 := ((e3.trans e4).trans e5).trans e6
    have n2w := fresh_back ((e3.trans e4).trans e5) nw
    have e02 := e1.trans e2
    -- the runs' words
    have hpre := g.preS (by omega)
    refine r_forZ (as := shelfL s) (bs := shownL s) (er_f1 (er_var rfl (Rp.mono (e5.trans e6) h_state)) (by show s.g.length < 1000; omega)) (el_f1 (er_var rfl (Rp.mono (e5.trans e6) h_state)) hpre) fun pz yz H7 e7 nz hz => ⟨fun j σ' H' => Ex H2 H' ∧ ExT H7 H' ∧ H' pz = some (.lst yz) ∧ (∃ ws : List PySem.Str, H' lw = some (.lst (ws.map V.str)) ∧ ws = (((shelfL s).zip (shownL s)).take j).map fun x => rwS x.1.1 x.1.2 x.2.length) ∧ ∃ n7 n8, σ' = [some (.ref x), some (.ref bk), some (.int (hist.length : Int)), some (.str n), some vs, some (.int ((s.b.length : Int) - 1)), some (.ref lw), n7, n8, n9, n10, n11, n12], ?_, ?_, ?_, ?_⟩
    · exact ⟨e26.trans e7, ExT.refl _, hz, ⟨[], e7 _ _ w1, rfl⟩, n7, n8, rfl⟩
    · exact fun j σ' H' pv => ⟨pv.2.1, sq_of pv.2.2.1⟩
    · rintro j ⟨a1, a2⟩ b u w' σ' H' H'' ha hb ⟨eH, eT, hpz, ⟨ws, q1, q2⟩, n7, n8, rfl⟩ e8 hu hw
      have hsh : (a1, a2) ∈ shelfL s := List.mem_of_getElem? ha
      rw [shelf_is g] at hsh
      have hti := til_mem g.t _ hsh
      dsimp only at hti
      have hjl : j < (shelfL s).length := (List.getElem?_eq_some_iff.mp ha).1
      have hsl : (shelfL s).length ≤ 100 := by
        rw [shelf_is g]
        have := congrArg List.length (tiles_fst s.b.length s.g)
        rw [List.length_map] at this
        omega
      have hzip : ((shelfL s).zip (shownL s))[j]? = some ((a1, a2), b) := by rw [List.getElem?_zip_eq_some]; exact ⟨ha, hb⟩
      have hbl : b.length < 100000 := by
        obtain ⟨y, hy, rfl⟩ := List.mem_map.mp (List.mem_of_getElem? hb)
        rw [shelf_is g] at hy
        have := run_len (g.run hy)
        omega
      have hwl : ws.length ≤ j := by
        rw [q2, List.length_map, List.length_take]
        omega
      have q1' := e8 _ _ q1
      have nwz : lw ≠ pz := ne_of_none (e7 _ _ w1 |> fun _ => w1) nz |> fun h => h
      refine r_app (K := K) (a := rwS a1 a2 b.length) q1' (ev_var rfl) (er_rw (er_fst (er_var rfl hu)) (er_snd (er_var rfl hu)) (er_lenT (er_var rfl hw)) ⟨by omega, by omega, by omega, by omega⟩) (by rw [List.length_map]; omega) fun v9 H9 e9 hv9 => ?_
      obtain rfl : v9 = .str (rwS a1 a2 b.length) := hv9
      refine ⟨Ex.mut ((eH.trans e8).trans e9) n2w, (eT.trans (Js.Ex.t (e8.trans e9))).trans (ext_lst (e9 _ _ q1')), by rw [upd_ne nwz.symm]; exact e9 _ _ (e8 _ _ hpz), ⟨ws ++ [rwS a1 a2 b.length], by rw [upd_same, List.map_append]; rfl, ?_⟩, _, _, rfl⟩
      rw [q2, take_snoc hzip, List.map_append]
      rfl
    · rintro σ' H8 ⟨e28, eT8, hpz, ⟨ws, q1, q2⟩, n7, n8, rfl⟩
      rw [← List.length_zip, List.take_length] at q2
      have eH8 := e02.trans e28
      have h_st8 : r K H8 vs s := Rp.mono eH8 hvr
      have hsaid := runs_said g
      rw [← q2] at hsaid
      have lenN : ∀ {c : PySem.Str}, c.length ≤ 20 → c.length + n.length ≤ sizeLine := fun h => sz_of (by omega)
      -- runs
      refine r_skip (et_same (z := runsS (stOf s).made) (ET eH8 rfl (er_catS (er_s "runs ") (er_var (a := n) rfl rfl) (lenN (by decide +kernel))) T.form_runs (line_runs hn4) fun H2 e2 Q q => tell_ans hdl ans (by rw [← R.s]; exact .runs) q) ?_) fun H9 e9 => ?_
      · rw [hsaid]
        refine er_if (k := decide ((0 : Int) ≤ (s.b.length : Int) - 1)) (et_t (K := K) (er_IB (g := fun i j => decide (j ≤ i)) (er_var (a := (s.b.length : Int) - 1) rfl rfl) (er_i 0))) (fun hc => ?_) fun hc => ?_
        · rw [if_pos (of_decide_eq_true hc)]
          refine er_join (er_s " ") (er_var rfl ⟨lw, _, rfl, sq_of q1, pd_of (F := r K _) (f := V.str) (fun b => (rfl : V.str b = V.str b)) ws⟩) ?_
          have hwl : ws.length ≤ 100 := by
            rw [q2, List.length_map, List.length_zip]
            have hsl : (shelfL s).length ≤ 100 := by
              rw [shelf_is g]
              have := congrArg List.length (tiles_fst s.b.length s.g)
              rw [List.length_map] at this
              omega
            omega
          have := sum_le (l := ws.map (·.length)) (m := 1000) fun m hm => by
            obtain ⟨z, hz, rfl⟩ := List.mem_map.mp hm
            rw [q2] at hz
            obtain ⟨⟨⟨a1, a2⟩, b⟩, hy, rfl⟩ := List.mem_map.mp hz
            obtain ⟨h1, h2⟩ := List.of_mem_zip hy
            rw [shelf_is g] at h1
            have hti := til_mem g.t _ h1
            obtain ⟨y, hy2, rfl⟩ := List.mem_map.mp h2
            rw [shelf_is g] at hy2
            have := run_len (g.run hy2)
            dsimp only at hti
            dsimp only
            exact rwS_len (by omega) (by omega) (by omega)
          rw [List.length_map] at this
          rw [show ((" " : PySem.Str)).length = 1 by decide +kernel]
          omega
        · rw [if_neg (of_decide_eq_false hc)]
          exact er_s _
      -- rows
      have hsn := g.n
      have eH9 := eH8.trans e9
      refine r_skip (et_same (z := strI s.n) (ET eH9 rfl (er_catS (er_s "rows ") (er_var (a := n) rfl rfl) (lenN (by decide +kernel))) T.form_rows (line_rows hn4) fun H2 e2 Q q => tell_ans hdl ans (by have := AnsR.rows (d := d) (n := n); rw [R.s] at this; exact this) q) (er_str' (er_lN (er_var rfl (Rp.mono eH9 hvr))) (by omega) (by omega))) fun H10 e10 => ?_
      have eH10 := eH9.trans e10
      -- plan
      refine r_skip (et_same (z := planS (stOf s).plan) (ET eH10 rfl (er_catS (er_s "plan ") (er_var (a := n) rfl rfl) (lenN (by decide +kernel))) T.form_plan (line_planN hn4) fun H2 e2 Q q => tell_ans hdl ans (by rw [← R.s]; exact .plan) q) ?_) fun H11 e11 => ?_
      · rw [plan_said g]
        refine er_if (k := decide ((0 : Int) ≤ (s.b.length : Int) - 1)) (et_t (K := K) (er_IB (g := fun i j => decide (j ≤ i)) (er_var (a := (s.b.length : Int) - 1) rfl rfl) (er_i 0))) (fun hc => ?_) fun hc => ?_
        · rw [if_pos (of_decide_eq_true hc)]
          exact er_planJ g hN (er_var rfl (Rp.mono eH10 hvr)) fun a v H1 hv Q q => gb_name (q _ H1 (Ex.refl _) rfl (er_var rfl hv))
        · rw [if_neg (of_decide_eq_false hc)]
          exact er_s _
      have eH11 := eH10.trans e11
      -- what is seen
      refine er_lB (K := K) (s := s) (ta := tVar 4) (σ := [some (.ref x), some (.ref bk), some (.int (hist.length : Int)), some (.str n), some vs, some (.int ((s.b.length : Int) - 1)), some (.ref lw), n7, n8, n9, n10, n11, n12]) (er_var rfl (Rp.mono eH11 hvr)) H11 (Ex.refl _) _ fun vb H12 e12 hvb => ?_
      refine ⟨_, rfl, vb, s.b, s.b.length, rfl, hvb, ⟨Nat.le_refl _, by omega, fun c hc => (g.bo c hc).bB.1⟩, fun ds kvd H13 e13 nd hds hD => gb_name ?_⟩
      have hdu := due_ok g hyp
      have hkl : (sightL s.b).length < 64 := by
        have h1 := hdu.1
        have h2 := hyp.length_eq
        unfold dueL at h1
        rw [List.length_map] at h1 h2
        omega
      have hmemk : ∀ k ∈ srtI ((sightL s.b).map (·.1)), k ∈ (sightL s.b).map (·.1) := fun k hk => hyp.mem_iff.mp hk
      have hdl2 : dueL s.b (srtI ((sightL s.b).map (·.1))) = (srtI ((sightL s.b).map (·.1))).map fun k => (k, (lookA (sightL s.b) k).join) := rfl
      have hsD : El K (tCB (rSorted K) (tCons (tCB rListD (tCons (tVar 9) tNil)) tNil)) [some (.ref x), some (.ref bk), some (.int (hist.length : Int)), some (.str n), some vs, some (.int ((s.b.length : Int) - 1)), some (.ref lw), n7, n8, some (.ref ds), n10, n11, n12] H13 (srtI ((sightL s.b).map (·.1))) := el_sortDI (ev_var rfl) hds hD hkl
      have hstr := str_is g R.s hyp hpw
      generalize srtI ((sightL s.b).map (·.1)) = ys at hdl2 hsD hdu hstr hmemk
      have hyl : ys.length ≤ 8 := by have := hdu.1; rw [hdl2, List.length_map] at this; exact this
      have hcomp : El K (tLc (iList K (tCB (rSorted K) (tCons (tCB rListD (tCons (tVar 9) tNil)) tNil))) (gName 11) tYes (tTup (tCons (tVar 11) (tCons (tDGet (tVar 9) (tVar 11)) tNil))) [11]) [some (.ref x), some (.ref bk), some (.int (hist.length : Int)), some (.str n), some vs, some (.int ((s.b.length : Int) - 1)), some (.ref lw), n7, n8, some (.ref ds), n10, n11, n12] H13 (dueL s.b ys) := by
        rw [hdl2]
        exact el_lcY (f := fun k => ((k, (lookA (sightL s.b) k).join) : PR)) (wr_list (El.er' hsD)) (by omega) fun k v H1 hk e1 hv Q q => gb_name (q _ H1 (Ex.refl _) rfl (er_tup2 (er_var (a := k) rfl hv) (er_dgetI (e1 _ _ hds) hD (hmemk k hk) (ev_var rfl) (er_var (a := k) rfl hv))))
      refine r_set (K := K) (a := textL pwS "-" " " (dueL s.b ys)) (er_f1 (pre := fun (ps : Ls PR) => ps.l.length ≤ 1000 ∧ ∀ x ∈ ps.l, okPair x) (f := fun ps : Ls PR => textL pwS "-" " " ps.l) (a := Ls.mk (dueL s.b ys)) (El.er' hcomp) ⟨by have := hdu.1; show (dueL s.b ys).length ≤ 1000; omega, hdu.2⟩) fun v14 H14 e14 hv14 => ?_
      have e11' := ((e12.trans e13).trans e14)
      refine r_skip (et_same (z := textL pwS "-" " " (strD d 0 999)) (ET (eH11.trans e11') rfl (er_catS (er_catS (er_s "stretch ") (er_var (a := n) rfl rfl) (lenN (by decide +kernel))) (er_s " 0 999") ?_) T.form_stretch (line_stretch hn4) fun H2 e2 Q q => tell_ans hdl ans .stretch q) (er_var rfl (by rw [hstr]; exact hv14))) fun H15 e15 => ?_
      · rw [len_cat, show (("stretch " : PySem.Str)).length = 8 by decide +kernel, show ((" 0 999" : PySem.Str)).length = 6 by decide +kernel]
        exact sz_of (by omega)
      · exact ⟨((((e28.trans e9).trans e10).trans e11).trans e11').trans e15, _, _, _, _, _, _, _, _, _, _, rfl⟩
  · rintro σ' H3 ⟨e3, n3, n4, n5, n6, n7, n8, n9, n10, n11, n12, rfl⟩
    show tRet (tC (V.bl true)) (EndR Q) [some (.ref x), some (.ref bk), some (.int (hist.length : Int)), n3, n4, n5, n6, n7, n8, n9, n10, n11, n12] H3
    refine r_ret (K := K) (er_b true) fun v H4 e4 hv => ?_
    obtain rfl : v = .bl true := hv
    exact q H4 (((e1.trans e2).trans e3).trans e4)
end
end Js
/-! ### refused lines -/
namespace Js
open PySem PySem.Spec PyProof.Rows L2 Evl SX
open Rp (r)
def spRef (K : PySem.W.Frag) : Sp := fun vs H Q _ => ∃ (M : Addr → Prop) (x dk pl : Addr) (line : PySem.Str) (al : Al) (hist : Hi), vs = [.ref x, .str line] ∧ DeskR K M H x dk pl al hist ∧ al.length < 80000 ∧ hist.length < 80000 ∧
  ((line = "undo" ∧ hist = [] ∧ ∀ H', Ex H H' → Q (.str "nothing") H') ∨ (line = "drop nobody" ∧ lookA al "nobody" = none ∧ ∀ t H', Ex H H' → SqT K H' t [.str "name", .str "nobody"] → Q (.ref t) H') ∨ (line = "store a 31" ∧ ∀ H', Ex H H' → Q (.str "other") H'))
section
variable {P : Program} {w : World} {K : PySem.W.Frag} {mg : PySem.Str → Option Value} {base : Heap}
theorem ok_law_refused (T : Tx w K mg) : FnAt P w K mg base 12 (He.fAd K ("_law_refused", none)) (spRef K) := by
  have S : FnScope ["_law_desk", "_law_line", "_law_found", "e"] ["_law_desk", "_law_line"] (defScope s_law_refused) := ⟨rfl, rfl, rfl, by decide +kernel, rfl, by decide +kernel, by decide +kernel⟩
  have G_Desk_tell := ok_Desk_tell (P := P) (base := base) T
  refine mk0 11 T.f_law_refused S (fun _ _ _ _ _ _ us hl => match us, hl with | [_, _], _ => rfl) (fun vs H Q E h => by obtain ⟨_, _, _, _, _, _, _, rfl, _⟩ := h; rfl) fun cdv A outer s H vs Q E hr h => ?_
  obtain ⟨M, x, dk, pl, line, al, hist, rfl, hd, hal, hhi, hcase⟩ := h
  refine ⟨_, pss_cons (ps_set (i := 2) S.nd rfl (Or.inl rfl) pe_str)
      (pss_cons (Jg.ps_try_mix rfl rfl takes_none5 (fun W pn xe tk _ => pss_one (ps_expr (pe_m G_Desk_tell T.c_Desk T.m_Desk_tell hr (by decide) (fun σ => passAt tk σ) (pv 0) (pa_cons (pv 1) pa_nil))))
        (.plain ⟨rfl, by decide, .inl T.g_NothingDone⟩ (fun a oe cls d pn _ _ => pss_one (ps_set (i := 2) S.nd rfl (Or.inl rfl) pe_str))
        (.named (i := 3) ⟨rfl, by decide, .inl T.g_NoName⟩ S.nd rfl rfl (fun a oe cls d pn hz hf => pss_one (ps_set (i := 2) S.nd rfl (Or.inl rfl) (pe_tup (pa_cons pe_str (pa_cons (pe_xf T.exB.2.2.1 T.n_NoName_name hz hf (pv 3)) pa_nil)))))
        (.plain ⟨rfl, by decide, .inl T.g_ShelfError⟩ (fun a oe cls d pn _ _ => pss_one (ps_set (i := 2) S.nd rfl (Or.inl rfl) pe_str)) .nil))))
      (pss_one (ps_ret (pv 2)))), ?_⟩
  refine r_set (K := K) (er_s "told") fun v H1 e1 hv => ?_
  obtain rfl : v = .str "told" := hv
  have d1 := hd.ex e1
  obtain ⟨dx, hx⟩ := d1.at_
  refine ⟨.ref x, rfl, x, dx, _, rfl, hx, rfl, .str line, rfl, ?_⟩
  rcases hcase with ⟨rfl, rfl, q⟩ | ⟨rfl, hn, q⟩ | ⟨rfl, q⟩
  · refine ⟨M, x, dk, pl, "undo", "undo", [], [], al, [], rfl, d1, hal, hhi, T.form_undo, line_undo, .undo (.inl ⟨rfl, fun H2 e2 => ?_⟩)⟩
    refine ⟨true, T.e_NothingDone_NothingDone, fun _ a na => ?_, fun z => by cases z⟩
    refine r_set (K := K) (er_s "nothing") fun v H3 e3 hv => ?_
    obtain rfl : v = .str "nothing" := hv
    exact ⟨_, rfl, q H3 ((e1.trans e2).trans e3)⟩
  · refine ⟨M, x, dk, pl, "drop nobody", "drop", ["name"], [.s "nobody"], al, hist, rfl, d1, hal, hhi, T.form_drop, line_nobody, .noname "drop" "nobody" [] (by decide +kernel) hn fun dd H2 e2 nd hdd => ?_⟩
    refine ⟨false, T.e_NoName_NothingDone, (fun z => by cases z), fun _ => ⟨true, T.e_NoName_NoName, fun _ a na => ?_, fun z => by cases z⟩⟩
    refine ⟨.ref a, rfl, rfl, rfl, dd, _, .str "nobody", rfl, hdd, rfl, ?_⟩
    refine ⟨by show 2 ≤ sizeLine; decide, fun t nt => ?_⟩
    exact ⟨_, rfl, q t _ ((e1.trans e2).trans (Ex.new nt)) (st_of upd_same)⟩
  · refine ⟨M, x, dk, pl, "store a 31", "store", ["name", "number"], [.s "a", .i 31], al, hist, rfl, d1, hal, hhi, T.form_store, line_a31, .store "a" 31 (.inr ⟨by omega, fun H2 e2 => ?_⟩)⟩
    refine ⟨false, T.e_NoNumber_NothingDone, (fun z => by cases z), fun _ => ⟨false, T.e_NoNumber_NoName, (fun z => by cases z), fun _ => ⟨true, T.e_NoNumber_ShelfError, fun _ a na => ?_, fun z => by cases z⟩⟩⟩
    refine r_set (K := K) (er_s "other") fun v H3 e3 hv => ?_
    obtain rfl : v = .str "other" := hv
    exact ⟨_, rfl, q H3 ((e1.trans e2).trans e3)⟩
end
end Js
/-! ### the law's desk, hand and past -/
namespace Js
open PySem PySem.Spec PyProof.Rows L2 Evl SX
open Rp (r)
theorem pd_snoc {α β : Type} {F : α → β → Prop} {l : List α} {m : List β} {b : β} (h : Paired F l (m ++ [b])) : ∃ l' a, l = l' ++ [a] ∧ Paired F l' m ∧ F a b := by
  induction m generalizing l with
  | nil =>
    cases h with
    | cons h t =>
      cases t
      exact ⟨[], _, rfl, .nil, h⟩
  | cons c m ih =>
    cases h with
    | cons h t =>
      obtain ⟨l', a, rfl, h1, h2⟩ := ih t
      exact ⟨_ :: l', a, rfl, .cons h h1, h2⟩
section
variable {P : Program} {w : World} {K : PySem.W.Frag} {mg : PySem.Str → Option Value} {base : Heap}
def PastR (K : PySem.W.Frag) (M : Addr → Prop) (H : Hp) (lp : Addr) (bks : List Bk) : Prop := ∃ ds : List Addr, H lp = some (.lst (ds.map V.ref)) ∧ Paired (fun d bl => ¬ M d ∧ BkR K H d bl) ds bks.reverse
structure LS (K : PySem.W.Frag) (M : Addr → Prop) (h dk pl lp c : Addr) (cs : List Int) : Prop where
  m : ∀ q, M q ↔ q = h ∨ q = dk ∨ q = pl ∨ q = lp
  hd : h ≠ dk
  hp : h ≠ pl
  hl : h ≠ lp
  dp : dk ≠ pl
  dl : dk ≠ lp
  ql : pl ≠ lp
  cd : dk ≠ c ∨ ∀ H', SqL K H' c (cs.map V.int)
  cp : pl ≠ c ∨ ∀ H', SqL K H' c (cs.map V.int)
  cl : lp ≠ c ∨ ∀ H', SqL K H' c (cs.map V.int)
structure LI (K : PySem.W.Frag) (M : Addr → Prop) (H : Hp) (x dk pl h c lp : Addr) (cs : List Int) (bks : List Bk) (al : Al) (hist : Hi) : Prop where
  d : DeskR K M H x dk pl al hist
  h : HandR K H h c cs
  p : PastR K M H lp bks
theorem bk_mono {M : Addr → Prop} {H H' : Hp} (ok : MOk M H) (e : ExM M H H') {d : Addr} {bl : Bk} (h : ¬ M d ∧ BkR K H d bl) : ¬ M d ∧ BkR K H' d bl := by
  obtain ⟨nm, kvs, h1, h2⟩ := h
  exact ⟨nm, kvs, e _ _ nm h1, dk_mono h2 fun _ _ z => RpT.t (ExM.t ok e) z⟩
theorem PastR.mono {M : Addr → Prop} {H H' : Hp} {lp : Addr} {bks : List Bk} (h : PastR K M H lp bks) (ok : MOk M H) (e : ExM M H H') (hl : H' lp = H lp) : PastR K M H' lp bks := by
  obtain ⟨ds, h1, h2⟩ := h
  exact ⟨ds, by rw [hl]; exact h1, pd_map h2 fun _ _ z => bk_mono ok e z⟩
section
variable {M : Addr → Prop} {H H' : Hp} {x dk pl h c lp : Addr} {cs : List Int} {bks bks' : List Bk} {al al' : Al} {hist hist' : Hi}
theorem LI.ex (I : LI K M H x dk pl h c lp cs bks al hist) (e : Ex H H') : LI K M H' x dk pl h c lp cs bks al hist := by
  refine ⟨I.d.ex e, I.h.ex e, I.p.mono I.d.ok (Js.Ex.xm e) ?_⟩
  obtain ⟨ds, h1, _⟩ := I.p
  rw [h1]
  exact e _ _ h1
theorem LI.draw (S : LS K M h dk pl lp c cs) (I : LI K M H x dk pl h c lp cs bks al hist) (k : Kp h H H') (hh : HandR K H' h c cs) : LI K M H' x dk pl h c lp cs bks al hist := by
  have e : ExM M H H' := Kp.xm k ((S.m h).mpr (.inl rfl))
  obtain ⟨kvs, k1, _⟩ := I.d.kd
  obtain ⟨ps, p1, _⟩ := I.d.ps
  obtain ⟨ds, h1, _⟩ := I.p
  refine ⟨I.d.mono e (fun q hq => ?_) (by rw [k1]; exact k _ _ S.hd.symm k1) (by rw [p1]; exact k _ _ S.hp.symm p1), hh, I.p.mono I.d.ok e (by rw [h1]; exact k _ _ S.hl.symm h1)⟩
  by_cases hqh : q = h
  · obtain ⟨xs, hx⟩ := hh.at_
    exact .inl ⟨xs, by rw [hqh]; exact hx⟩
  · rcases I.d.ok q hq with ⟨xs, z⟩ | ⟨kvs, z⟩
    · exact .inl ⟨xs, k _ _ hqh z⟩
    · exact .inr ⟨kvs, k _ _ hqh z⟩
theorem hand_keep {S : Addr → Prop} (d : HandR K H h c cs) (k : ∀ q o, ¬ S q → H q = some o → H' q = some o) (hS : ¬ S h) (cS : ¬ S c ∨ ∀ H', SqL K H' c (cs.map V.int)) : HandR K H' h c cs := by
  obtain ⟨z1, i1, i2, i3, i4, z2, z3⟩ := d
  refine ⟨?_, i1, i2, i3, i4, k _ _ hS z2, z3⟩
  rcases cS with ne | hall
  · rcases z1 with (z1 | ⟨o, z1⟩) | z1
    · exact .inl (.inl (k _ _ ne z1))
    · exact .inl (.inr ⟨o, k _ _ ne z1⟩)
    · exact .inr z1
  · exact hall _
theorem LI.tell (S : LS K M h dk pl lp c cs) (I : LI K M H x dk pl h c lp cs bks al hist) (k : Kp2 dk pl H H') (d' : DeskR K M H' x dk pl al' hist') : LI K M H' x dk pl h c lp cs bks al' hist' := by
  obtain ⟨ds, h1, _⟩ := I.p
  refine ⟨d', hand_keep (S := fun q => q = dk ∨ q = pl) I.h (fun q o nq hq => k q o (fun z => nq (.inl z)) (fun z => nq (.inr z)) hq) (fun z => z.elim S.hd S.hp) ?_, I.p.mono I.d.ok (Kp2.xm k I.d.md I.d.mp) (by rw [h1]; exact k _ _ S.dl.symm S.ql.symm h1)⟩
  rcases S.cd with z | z
  · rcases S.cp with z2 | z2
    · exact .inl fun q => q.elim (fun q => z q.symm) fun q => z2 q.symm
    · exact .inr z2
  · exact .inr z
theorem LI.setp (S : LS K M h dk pl lp c cs) (I : LI K M H x dk pl h c lp cs bks al hist) {ds : List Addr} (hp : Paired (fun d bl => ¬ M d ∧ BkR K H d bl) ds bks'.reverse) : LI K M (upd H lp (.lst (ds.map V.ref))) x dk pl h c lp cs bks' al hist := by
  have e : ExM M H (upd H lp (.lst (ds.map V.ref))) := Kp.xm Kp.upd ((S.m lp).mpr (.inr (.inr (.inr rfl))))
  refine ⟨I.d.mono e (fun q hq => ?_) (upd_ne S.dl) (upd_ne S.ql), I.h.upd' S.hl.symm S.cl, ds, upd_same, pd_map hp fun _ _ z => bk_mono I.d.ok e z⟩
  by_cases hql : q = lp
  · exact .inl ⟨_, by rw [hql]; exact upd_same⟩
  · rw [upd_ne hql]
    exact I.d.ok q hq
end
/-! the law's own def, with its parameter's name -/
theorem mkL {x qual : PySem.Str} {params : Arguments} {body : List Stmt} {scope : Scope} {p : Addr} {N : List PySem.Str} {y : PySem.Str} (k : Nat) {sp : Sp} (F : ∃ fd, FunD K x qual params body scope [] [] p fd) (S : FnScope N [y] scope)
    (b : ∀ (kV doc pm : Value) (an : Option Addr) (cdv ct : Value) (us : List Value), us.length = [y].length → bindArgs (PySem.W.fnOf x qual params body scope .none kV doc pm an cdv ct) ⟨us, []⟩ = pure ([y].zip us))
    (len : ∀ vs H Q E, sp vs H Q E → vs.length = [y].length)
    (hbody : ∀ (cdv : Value) (A : Around) (outer : List Env) (s : Shared) (H : Hp) (vs : List V) (Q : VK) (E : XK), Room k (A.deeper (envOfC qual scope s.heap.objs.size p cdv)) → sp vs H Q E →
      ∃ t, PSs (cxOf (L2.CX P w) P w K mg base N qual scope p cdv A outer s H E).nox body t ∧ t (EndR Q) (L2.start N vs) H) : ∀ fd, FunD K x qual params body scope [] [] p fd → FnOk P w K mg base CX0 (k + 1) p fd [y] sp := fun fd F => by
  refine F.ok S len fun cdv A outer s H vs Q E hr h => ?_
  obtain ⟨t, h1, h2⟩ := hbody cdv A outer s H vs Q E hr h
  have h1' : PSs (cxOf CX0 P w K mg base N qual scope p cdv A outer s H E).nox body t := h1
  exact ⟨t, h1'.nox, h2⟩
/-! lines told -/
theorem r_tellG {σ : L2.St} {H : Hp} {c : TE} {R : Hp → Prop} {Q : VK} {M : Addr → Prop} {x dk pl : Addr} {al : Al} {hist : Hi} {z first : PySem.Str} {sorts : List PySem.Str} {vals : List Val} {ta tb : TE} (ha : Ev ta σ H (.ref x)) (hb : Er K tb σ H z) (hd : DeskR K M H x dk pl al hist) (hal : al.length < 80000) (hhi : hist.length < 80000) (form : FormK K first sorts) (line : LineOk z first sorts vals)
    (hq : ∀ H2, R H2 → Q (.str "ok") H2) (ht : ∀ H1, Ex H H1 → ∀ Q : VK, (∀ H2, R H2 → Q (.str "ok") H2) → TellR K M H1 x dk pl al hist Q (eN σ) (.s first :: vals)) : tM (He.ga K "Desk") "tell" (spTell K) eN ta (tCons tb tNil) σ H Q := ha H (Ex.refl _) _ fun H1 e1 => by
  have d1 := hd.ex e1
  obtain ⟨dx, hx⟩ := d1.at_
  exact ⟨x, dx, _, rfl, hx, rfl, hb.evS H1 e1 _ fun H2 e2 => ⟨M, x, dk, pl, z, first, sorts, vals, al, hist, rfl, d1.ex e2, hal, hhi, form, line, ht H2 (e1.trans e2) Q hq⟩⟩
/-- if desk.tell(line) != "ok": .. -/
theorem r_tell {σ : L2.St} {H : Hp} {D : Ends} {tu : TS} {M : Addr → Prop} {x dk pl : Addr} {al : Al} {hist : Hi} {z first : PySem.Str} {sorts : List PySem.Str} {vals : List Val} {ta tb : TE} (ha : Ev ta σ H (.ref x)) (hb : Er K tb σ H z) (hd : DeskR K M H x dk pl al hist) (hal : al.length < 80000) (hhi : hist.length < 80000) (form : FormK K first sorts) (line : LineOk z first sorts vals)
    (ht : ∀ H1, Ex H H1 → ∀ Q : VK, (∀ H2, D.nx σ H2 → Q (.str "ok") H2) → TellR K M H1 x dk pl al hist Q (eN σ) (.s first :: vals)) : tIfS (tTest (tOp rNe (tM (He.ga K "Desk") "tell" (spTell K) eN ta (tCons tb tNil)) (tC (.str "ok")))) tu tNext D σ H :=
  r_tellG (c := ta) (R := fun H2 => D.nx σ H2) ha hb hd hal hhi form line (fun H2 h2 => ⟨rfl, false, by simp, h2⟩) ht
/-- if desk.tell(line) != "ok" or ..: .. -/
theorem r_tellOr {σ : L2.St} {H : Hp} {D : Ends} {tu : TS} {u : TT} {M : Addr → Prop} {x dk pl : Addr} {al : Al} {hist : Hi} {z first : PySem.Str} {sorts : List PySem.Str} {vals : List Val} {ta tb : TE} (ha : Ev ta σ H (.ref x)) (hb : Er K tb σ H z) (hd : DeskR K M H x dk pl al hist) (hal : al.length < 80000) (hhi : hist.length < 80000) (form : FormK K first sorts) (line : LineOk z first sorts vals)
    (ht : ∀ H1, Ex H H1 → ∀ Q : VK, (∀ H2, tIfS u tu tNext D σ H2 → Q (.str "ok") H2) → TellR K M H1 x dk pl al hist Q (eN σ) (.s first :: vals)) : tIfS (tOr (tTest (tOp rNe (tM (He.ga K "Desk") "tell" (spTell K) eN ta (tCons tb tNil)) (tC (.str "ok")))) u) tu tNext D σ H :=
  r_tellG (c := ta) (R := fun H2 => tIfS u tu tNext D σ H2) ha hb hd hal hhi form line (fun H2 h2 => ⟨rfl, false, by simp, h2⟩) ht
theorem r_popE {D : Ends} {σ : L2.St} {H : Hp} {l : Addr} {xs : List V} {y : V} {ta : TE} (hl : H l = some (.lst (xs ++ [y]))) (ha : Ev ta σ H (.ref l)) (q : ∀ H1, Ex H H1 → D.nx σ (upd H1 l (.lst xs))) : tDrop (tBM0 K "list" rPop ta) D σ H := by
  refine ha H (Ex.refl _) _ fun H1 e1 => ⟨Or.inl ⟨rfl, _, sq_of (e1 _ _ hl)⟩, l, _, y, rfl, rfl, e1 _ _ hl, by simp, ?_⟩
  rw [List.dropLast_concat]
  exact q H1 e1
/-- a drawn line is done: what stands then -/
theorem tell_chg (T : Tx w K mg) {N : Nat} {al : Al} {bl bl' : Bk} {line : PySem.Str} (cg : ChgR bl line bl') (B : BRel N al bl) (hN : N ≤ 27) : ∃ first sorts vals n o, FormK K first sorts ∧ LineOk line first sorts vals ∧ BRel (N + 1) (setA al n o) bl' ∧
    ∀ (M : Addr → Prop) (H : Hp) (x dk pl : Addr) (hist : Hi) (Q : VK) (E : XK), (∀ H', Kp2 dk pl H H' → DeskR K M H' x dk pl (setA al n o) (hist ++ [(n, lookA al n)]) → Q (.str "ok") H') → TellR K M H x dk pl al hist Q E (.s first :: vals) := by
  cases cg with
  | store n m hn hm =>
    refine ⟨"store", ["name", "number"], [.s n, .i m], n, some ⟨m, ⟨[], [], [], [], 0⟩, 0⟩, T.form_store, line_store (n45 hn) (by omega) (by omega), ?_, fun M H x dk pl hist Q E q => .store n m (.inl ⟨hm, q⟩)⟩
    exact B.put (Nat.le_succ _) hn ⟨good_empty hm, rfl, rfl, Nat.zero_le _⟩
  | drop n s hn hs =>
    obtain ⟨d, hd, R⟩ := B.get hs
    refine ⟨"drop", ["name"], [.s n], n, none, T.form_drop, line_drop hn, ?_, fun M H x dk pl hist Q E q => .drop n d hd q⟩
    exact B.drop (Nat.le_succ _) n
  | keep n s hn hs hk =>
    obtain ⟨d, hd, R⟩ := B.get hs
    have g := R.g
    have hm := g.m
    have hRm := R.m
    have hRn := R.n
    have hkl := g.kl
    have hk' := hk
    unfold canKeep at hk'
    rw [Bool.and_eq_true, decide_eq_true_eq, Bool.not_eq_true', decide_eq_false_iff_not] at hk'
    refine ⟨"keep", ["name"], [.s n], n, some ⟨d.m, withK d.s, d.n + 1⟩, T.form_keep, line_keep hn, ?_, fun M H x dk pl hist Q E q => .change "keep" n [] d ⟨d.m, withK d.s, d.n + 1⟩ hd (by omega) (by omega) (.inr rfl) (.inr ⟨rfl, ?_, ?_, ?_, rfl⟩) q⟩
    · exact B.put (Nat.le_succ _) hn ⟨good_keep g hk, hRm, by show withK d.s = _; rw [R.s, keep_is g], by show d.n + 1 ≤ N + 1; omega⟩
    · rw [R.s]
      show 0 < s.b.length
      omega
    · rw [R.s]
      exact hk'.2
    · rw [R.s]
      show s.k.length ≤ 1000
      omega
  | put n s b stay hn hs hb h1 h2 =>
    obtain ⟨d, hd, R⟩ := B.get hs
    have g := R.g
    have hm := g.m
    have hRm := R.m
    have hRn := R.n
    have hml : d.s.made.length = s.g.length := by
      rw [R.s]
      show (madeOf s).length = _
      unfold madeOf
      rw [List.length_map]
      have := congrArg List.length (tiles_fst s.b.length s.g)
      rwa [List.length_map] at this
    refine ⟨"put", ["name", "number", "words"], [.s n, .i (stay : Int), .p b], n, some ⟨d.m, withB d.s b stay, d.n + 1⟩, T.form_put, line_put hn (by omega) (by omega) hb, ?_, fun M H x dk pl hist Q E q => .change "put" n [.i (stay : Int), .p b] d ⟨d.m, withB d.s b stay, d.n + 1⟩ hd (by omega) (by omega) (.inl rfl) (.inl ⟨b, stay, rfl, by rw [R.s]; exact g.preB (by omega) hb stay, ⟨by omega, by omega⟩, rfl⟩) q⟩
    exact B.put (Nat.le_succ _) hn ⟨good_put g (by omega) hb h1, hRm, by show withB d.s b stay = _; rw [R.s, put_is g hb h1], by show d.n + 1 ≤ N + 1; omega⟩
end
end Js
/-! ### the law -/
namespace Js
open PySem PySem.Spec PyProof.Rows L2 Evl SX
open Rp (r)
def spLaw (K : PySem.W.Frag) : Sp := fun vs H Q _ => ∃ (a : Addr) (ns : List Int), vs = [.ref a] ∧ SqL K H a (ns.map V.int) ∧ ∀ H', Q (.bl true) H'
section
variable {P : Program} {w : World} {K : PySem.W.Frag} {mg : PySem.Str → Option Value} {base : Heap}
section
variable {σ : L2.St} {M : Addr → Prop} {H : Hp} {x dk pl h c lp : Addr} {cs : List Int} {bks : List Bk} {al : Al} {hi : Hi}
theorem ev_past (I : LI K M H x dk pl h c lp cs bks al hi.reverse) (h3 : σ[3]? = some (some (.ref lp))) : Ev (tCB (rLenS K) (tCons (tVar 3) tNil)) σ H (.int (bks.length : Int)) := by
  obtain ⟨ds, h1, h2⟩ := I.p
  have hl := pd_len h2
  rw [List.length_reverse] at hl
  have := ev_len (K := K) (ta := tVar 3) (σ := σ) (ev_var h3) (sq_of h1)
  rwa [List.length_map, hl] at this
theorem past_split (I : LI K M H x dk pl h c lp cs bks al hi.reverse) (R : HR bks al hi) : ∃ bl rest ds d, bks = bl :: rest ∧ H lp = some (.lst (ds.map V.ref ++ [.ref d])) ∧ Paired (fun d bl => ¬ M d ∧ BkR K H d bl) ds rest.reverse ∧ (¬ M d ∧ BkR K H d bl) ∧ BRel hi.length al bl := by
  obtain ⟨_, bl, rest, rfl, B⟩ := R.cur
  obtain ⟨ds, h1, h2⟩ := I.p
  rw [List.reverse_cons] at h2
  obtain ⟨ds', d, rfl, h3, h4⟩ := pd_snoc h2
  exact ⟨bl, rest, ds', d, rfl, by rw [h1, List.map_append]; rfl, h3, h4, B⟩
theorem ev_last {xs : List V} {d : Addr} (h1 : H lp = some (.lst (xs ++ [.ref d]))) (h3 : σ[3]? = some (some (.ref lp))) : Ev (tOp (rIxL K) (tVar 3) (tUn (rU fun i => .int (-i)) (tC (.int 1)))) σ H (.ref d) := ev_op (ev_var h3) (ev_un ev_c ru_neg) (rv_ixL (sq_of h1) (atI_m1 (by simp)))
/-- _law_is_right(_law_desk, _law_past[-1], len(_law_past) - 1) -/
theorem er_right (I : LI K M H x dk pl h c lp cs bks al hi.reverse) (R : HR bks al hi) (hN : hi.length ≤ 27) (h2 : σ[2]? = some (some (.ref x))) (h3 : σ[3]? = some (some (.ref lp))) :
    Er K (tF (spRight K) eN (tCons (tVar 2) (tCons (tOp (rIxL K) (tVar 3) (tUn (rU fun i => .int (-i)) (tC (.int 1)))) (tCons (tOp (rI0 fun i j => .int (i - j)) (tCB (rLenS K) (tCons (tVar 3) tNil)) (tC (.int 1))) tNil)))) σ H true := fun H1 e1 Q q => by
  obtain ⟨bl, rest, ds, d, rfl, hl, h4, h5, B⟩ := past_split I R
  have hlen : ((bl :: rest).length : Int) - 1 = (hi.reverse.length : Int) := by
    have := R.cur.1
    rw [List.length_reverse]
    omega
  refine ⟨.ref x, h2, ev_last (K := K) hl h3 H1 e1 _ fun H2 e2 => ?_⟩
  refine (er_II (K := K) (g := fun i j => i - j) (er_ofI (ev_past I h3)) (er_i 1)).evI H2 (e1.trans e2) _ fun H3 e3 => ?_
  have e13 := (e1.trans e2).trans e3
  have I3 := I.ex e13
  refine ⟨M, x, dk, pl, d, al, bl, hi.reverse, hi.length, by rw [hlen], I3.d, (bk_mono I.d.ok (Js.Ex.xm e13) h5).2, B, hN, by rw [List.length_reverse]; omega, fun H4 e4 => q _ H4 ((e2.trans e3).trans e4) rfl⟩
theorem et_right (I : LI K M H x dk pl h c lp cs bks al hi.reverse) (R : HR bks al hi) (hN : hi.length ≤ 27) (h2 : σ[2]? = some (some (.ref x))) (h3 : σ[3]? = some (some (.ref lp))) :
    EvT (tNot (tB (tF (spRight K) eN (tCons (tVar 2) (tCons (tOp (rIxL K) (tVar 3) (tUn (rU fun i => .int (-i)) (tC (.int 1)))) (tCons (tOp (rI0 fun i j => .int (i - j)) (tCB (rLenS K) (tCons (tVar 3) tNil)) (tC (.int 1))) tNil)))))) σ H false := et_is (et_not (et_v (K := K) (er_right I R hN h2 h3))) rfl
theorem er_refU (I : LI K M H x dk pl h c lp cs bks al hi.reverse) (hh : hi = []) (ha : al.length ≤ 4) (h2 : σ[2]? = some (some (.ref x))) : Er K (tF (spRef K) eN (tCons (tVar 2) (tCons (tC (.str "undo")) tNil))) σ H ("nothing" : PySem.Str) := fun H1 e1 Q q =>
  ⟨.ref x, h2, M, x, dk, pl, "undo", al, hi.reverse, rfl, I.d.ex e1, by omega, by rw [hh]; simp, .inl ⟨rfl, by rw [hh]; rfl, fun H2 e2 => q _ H2 e2 rfl⟩⟩
theorem et_nobody (I : LI K M H x dk pl h c lp cs bks al hi.reverse) (hn : lookA al "nobody" = none) (ha : al.length ≤ 4) (hh : hi.length ≤ 27) (h2 : σ[2]? = some (some (.ref x))) : EvT (tTest (tOp (rNeD K) (tF (spRef K) eN (tCons (tVar 2) (tCons (tC (.str "drop nobody")) tNil))) (tTup (tCons (tC (.str "name")) (tCons (tC (.str "nobody")) tNil))))) σ H false := fun H1 e1 Q q => by
  refine ⟨.ref x, h2, M, x, dk, pl, "drop nobody", al, hi.reverse, rfl, I.d.ex e1, by omega, by rw [List.length_reverse]; omega, .inr (.inl ⟨rfl, hn, fun t H2 e2 ht => ?_⟩)⟩
  refine ⟨by show 2 ≤ sizeLine; decide, fun p hp => ?_⟩
  refine ⟨.tuple [.str "name", .str "nobody"], .tuple [.str "name", .str "nobody"], .tup (ex_t (Ex.new hp) ht) (.cons (.str _) (.cons (.str _) .nil)), .tup (st_of upd_same) (.cons (.str _) (.cons (.str _) .nil)), by decide +kernel, by decide +kernel, false, ?_, q _ (e2.trans (Ex.new hp))⟩
  decide +kernel
theorem er_ref31 (I : LI K M H x dk pl h c lp cs bks al hi.reverse) (ha : al.length ≤ 4) (hh : hi.length ≤ 27) (h2 : σ[2]? = some (some (.ref x))) : Er K (tF (spRef K) eN (tCons (tVar 2) (tCons (tC (.str "store a 31")) tNil))) σ H ("other" : PySem.Str) := fun H1 e1 Q q =>
  ⟨.ref x, h2, M, x, dk, pl, "store a 31", al, hi.reverse, rfl, I.d.ex e1, by omega, by rw [List.length_reverse]; omega, .inr (.inr ⟨rfl, fun H2 e2 => q _ H2 e2 rfl⟩)⟩
theorem r_forDraw {D : Ends} {body : TS} (hd : HandR K H h c cs) (h1 : σ[1]? = some (some (.ref h))) (k : ∀ (t : Int) H', 0 ≤ t → t < 17 → Kp h H H' → ExT H H' → HandR K H' h c cs → ∃ Pv : Nat → L2.St → Hp → Prop, Pv 0 σ H' ∧ (∀ i v σ' H', i < (8 + t).toNat → Pv i σ' H' → body { D with nx := Pv (i + 1), ct := Pv (i + 1), bk := D.nx } (σ'.set 4 (some v)) H') ∧ ∀ σ' H', Pv (8 + t).toNat σ' H' → D.nx σ' H') :
    tFor (iRng1 (tCons (tOp (rI0 fun i j => .int (i + j)) (tC (.int 8)) (tF (spDraw K) eN (tCons (tVar 1) (tCons (tC (.int 17)) tNil)))) tNil)) (gName 4) body D σ H := by
  unfold tFor iRng1 tOp
  unfold tCons
  refine r_draw (K := K) (E := eN) (m := 17) (σ := σ) (ta := tVar 1) (tb := tC (.int 17)) hd (ev_var h1) (er_i 17) (by omega) fun t H' t0 t1 kp et hh => ?_
  obtain ⟨Pv, p0, ps, pd⟩ := k t H' t0 t1 kp et hh
  exact ⟨8, t, rfl, rfl, 8 + t, rfl, by omega, by omega, for_range (lo := 0) Pv p0 (fun i σ' H' hi pv => gb_name (ps i _ σ' H' hi pv)) pd⟩
end
theorem ok_law (T : Tx w K mg) : ∀ fd, FunD K "law" "law" (defArgs s_law) (defBody s_law) (defScope s_law) [] [] (He.fAd K ("law", none)) fd → FnOk P w K mg base CX0 13 (He.fAd K ("law", none)) fd ["_law_script"] (spLaw K) := by
  have S : FnScope ["_law_script", "_law_hand_here", "_law_desk", "_law_past", "_law_turn", "_law_kind", "_law_line", "_law_later"] ["_law_script"] (defScope s_law) := ⟨rfl, rfl, rfl, by decide +kernel, rfl, by decide +kernel, by decide +kernel⟩
  have G_law_hand := ok_law_hand (P := P) (base := base) T
  have G_Desk_init := ok_Desk_init (P := P) (base := base) T
  have G_law_draw := ok_law_draw (P := P) (base := base) T
  have G_Desk_tell := ok_Desk_tell (P := P) (base := base) T
  have G_law_refused := ok_law_refused (P := P) (base := base) T
  have G_law_change := ok_law_change (P := P) (base := base) T
  have G_law_is_right := ok_law_is_right (P := P) (base := base) T
  refine mkL 12 T.f_law S (fun _ _ _ _ _ _ us hl => match us, hl with | [_], _ => rfl) (fun vs H Q E h => by obtain ⟨_, _, rfl, _⟩ := h; rfl) fun cdv A outer s H vs Q E hr h => ?_
  obtain ⟨a, ns, rfl, hs, q⟩ := h
  refine ⟨_, pss_cons (ps_set (i := 1) S.nd rfl (Or.inl rfl) (pe_f G_law_hand T.g_law_hand hr (by decide) passN (pa_cons (pv 0) pa_nil)))
      (pss_cons (ps_set (i := 2) S.nd rfl (Or.inl rfl) (pe_o0 T.mk_Desk G_Desk_init T.g_Desk hr (by decide) passN))
      (pss_cons (ps_set (i := 3) S.nd rfl (Or.inl rfl) (pe_lst (pa_cons pe_dnewK pa_nil)))
      (pss_cons (ps_for PassesOwn.never rfl (pi_range1 rfl T.z_range (pa_cons (pe_op op_add pe_int (pe_f G_law_draw T.g_law_draw hr (by decide) passN (pa_cons (pv 1) (pa_cons pe_int pa_nil)))) pa_nil)) (pg_name (i := 4) S.nd rfl (Or.inl rfl))
        (pss_cons (ps_set (i := 5) S.nd rfl (Or.inl rfl) (pe_f G_law_draw T.g_law_draw hr (by decide) passN (pa_cons (pv 1) (pa_cons pe_int pa_nil))))
        (C8.pss_cut (ps_if (pt_cmpR op_eq (pv 5) pe_int (nomark _))
          (pss_one (ps_if (pt_cmpR op_gt (pe_callB (lenK (K := K) rfl) rfl T.z_len (by decide +kernel) (pa_cons (pv 3) pa_nil)) pe_int (nomark _))
            (pss_cons (ps_expr (pe_bm0 PySem.F.plainAttrs_list PySem.F.slot_list_pop PySem.F.type_list_pop mt_pop (pv 3)))
            (pss_one (ps_if (pt_cmpR op_ne (pe_m G_Desk_tell T.c_Desk T.m_Desk_tell hr (by decide) passN (pv 2) (pa_cons pe_str pa_nil)) pe_str (nomark _))
              (pss_one (ps_ret pe_bl))
              (pss_nil))))
            (pss_one (ps_if (pt_cmpR op_ne (pe_f G_law_refused T.g_law_refused hr (by decide) passN (pa_cons (pv 2) (pa_cons pe_str pa_nil))) pe_str (nomark _))
              (pss_one (ps_ret pe_bl))
              (pss_nil)))))
          (pss_one (ps_if (pt_cmpR op_eq (pv 5) pe_int (nomark _))
            (pss_one (ps_if (PW.pt (pw_or (pt_cmpR (op_neD hr.units) (pe_f G_law_refused T.g_law_refused hr (by decide) passN (pa_cons (pv 2) (pa_cons pe_str pa_nil))) (pe_tup (pa_cons pe_str (pa_cons pe_str pa_nil))) (nomark _)) (pw_or1 (pt_cmpR op_ne (pe_f G_law_refused T.g_law_refused hr (by decide) passN (pa_cons (pv 2) (pa_cons pe_str pa_nil))) pe_str (nomark _)))))
              (pss_one (ps_ret pe_bl))
              (pss_nil)))
            (pss_cons (ps_asg (pe_f G_law_change T.g_law_change hr (by decide) passN (pa_cons (pv 1) (pa_cons (pe_ix (ixL (K := K) rfl) (pv 3) (pe_un un_neg pe_int) (fun _ _ => rfl)) pa_nil))) (pg_tup rfl (pgs_cons (pg_name (i := 6) S.nd rfl (Or.inl rfl)) (pgs_cons (pg_name (i := 7) S.nd rfl (Or.inl rfl)) pgs_nil))))
            (pss_cons (ps_if (pt_cmpR op_ne (pe_m G_Desk_tell T.c_Desk T.m_Desk_tell hr (by decide) passN (pv 2) (pa_cons (pv 6) pa_nil)) pe_str (nomark _))
              (pss_one (ps_ret pe_bl))
              (pss_nil))
            (pss_one (ps_expr (pe_bm PySem.F.plainAttrs_list PySem.F.slot_list_append PySem.F.type_list_append mt_append (pv 3) (pa_cons (pv 7) pa_nil)))))))))
        (pss_one (ps_if (pt_not (pt_val (pe_f G_law_is_right T.g_law_is_right hr (by decide) passN (pa_cons (pv 2) (pa_cons (pe_ix (ixL (K := K) rfl) (pv 3) (pe_un un_neg pe_int) (fun _ _ => rfl)) (pa_cons (pe_op op_sub (pe_callB (lenK (K := K) rfl) rfl T.z_len (by decide +kernel) (pa_cons (pv 3) pa_nil)) pe_int) pa_nil))))))
          (pss_one (ps_ret pe_bl))
          (pss_nil))))))
      (pss_cons (ps_while PassesOwn.never (pt_cmpR op_gt (pe_callB (lenK (K := K) rfl) rfl T.z_len (by decide +kernel) (pa_cons (pv 3) pa_nil)) pe_int (nomark _))
        (pss_cons (ps_expr (pe_bm0 PySem.F.plainAttrs_list PySem.F.slot_list_pop PySem.F.type_list_pop mt_pop (pv 3)))
        (pss_one (ps_if (PW.pt (pw_or (pt_cmpR op_ne (pe_m G_Desk_tell T.c_Desk T.m_Desk_tell hr (by decide) passN (pv 2) (pa_cons pe_str pa_nil)) pe_str (nomark _)) (pw_or1 (pt_not (pt_val (pe_f G_law_is_right T.g_law_is_right hr (by decide) passN (pa_cons (pv 2) (pa_cons (pe_ix (ixL (K := K) rfl) (pv 3) (pe_un un_neg pe_int) (fun _ _ => rfl)) (pa_cons (pe_op op_sub (pe_callB (lenK (K := K) rfl) rfl T.z_len (by decide +kernel) (pa_cons (pv 3) pa_nil)) pe_int) pa_nil)))))))))
          (pss_one (ps_ret pe_bl))
          (pss_nil)))))
      (pss_one (ps_ret (pe_cmpR op_eq (pe_f G_law_refused T.g_law_refused hr (by decide) passN (pa_cons (pv 2) (pa_cons pe_str pa_nil))) pe_str (nomark _)))))))), ?_⟩
  refine ⟨.ref a, rfl, a, ns, rfl, hs, fun h c cs H1 e1 nh hh1 => gb_name ?_⟩
  -- the desk
  intro x dx nx ndx ne
  have e2 : Ex H1 (upd (upd H1 dx (.own x)) x (.ins (He.ga K "Desk") dx [])) := Ex.mut (Ex.new ndx) nx
  refine ⟨x, dx, rfl, upd_same, fun dk pl H2 kp ndk npl hx2 hdk hpl => ⟨rfl, gb_name ?_⟩⟩
  have e12 : Ex H1 H2 := Kp.ex e2 nx kp
  -- the past
  intro d0 nd0
  refine ⟨by show 1 ≤ sizeLine; decide, fun lp nlp => gb_name ?_⟩
  have e23 : Ex H2 (upd H2 d0 (.dK [])) := Ex.new nd0
  have e34 : Ex (upd H2 d0 (.dK [])) (upd (upd H2 d0 (.dK [])) lp (.lst [.ref d0])) := Ex.new nlp
  have e24 := e23.trans e34
  obtain ⟨hxs, hh⟩ := hh1.at_
  have hh2 := e12 _ _ hh
  have h_dk : h ≠ dk := fun z => by rw [← z, e2 _ _ hh] at ndk; cases ndk
  have h_pl : h ≠ pl := fun z => by rw [← z, e2 _ _ hh] at npl; cases npl
  have h_lp : h ≠ lp := fun z => by rw [← z, e23 _ _ hh2] at nlp; cases nlp
  have dk_pl : dk ≠ pl := fun z => by rw [z, hpl] at hdk; cases hdk
  have dk_lp : dk ≠ lp := fun z => by rw [← z, e23 _ _ hdk] at nlp; cases nlp
  have pl_lp : pl ≠ lp := fun z => by rw [← z, e23 _ _ hpl] at nlp; cases nlp
  let M : Addr → Prop := fun q => q = h ∨ q = dk ∨ q = pl ∨ q = lp
  have S : LS K M h dk pl lp c cs := ⟨fun q => Iff.rfl, h_dk, h_pl, h_lp, dk_pl, dk_lp, pl_lp, (hh1.ex e2).sep ndk, (hh1.ex e2).sep npl, (hh1.ex (e12.trans e23)).sep nlp⟩
  have nMd : ¬ M d0 := fun z => by
    rcases z with z | z | z | z
    · rw [z, hh2] at nd0; cases nd0
    · rw [z, hdk] at nd0; cases nd0
    · rw [z, hpl] at nd0; cases nd0
    · rw [← z, upd_same] at nlp; cases nlp
  have I0 : LI K M (upd (upd H2 d0 (.dK [])) lp (.lst [.ref d0])) x dk pl h c lp cs [[]] [] ([] : Hi).reverse := by
    refine ⟨⟨fun q hq => ?_, .inr (.inl rfl), .inr (.inr (.inl rfl)), ⟨dx, e24 _ _ hx2⟩, ⟨[], e24 _ _ hdk, .nil⟩, ⟨[], e24 _ _ hpl, .nil⟩⟩, hh1.ex (e12.trans e24), [d0], upd_same, .cons ⟨nMd, [], e34 _ _ upd_same, .nil⟩ .nil⟩
    rcases hq with z | z | z | z
    · exact .inl ⟨_, by rw [z]; exact e24 _ _ hh2⟩
    · exact .inr ⟨_, by rw [z]; exact e24 _ _ hdk⟩
    · exact .inl ⟨_, by rw [z]; exact e24 _ _ hpl⟩
    · exact .inl ⟨_, by rw [z]; exact upd_same⟩
  clear_value M
  generalize upd (upd H2 d0 (.dK [])) lp (.lst [.ref d0]) = H3 at I0
  -- the turns
  refine r_forDraw I0.h rfl fun t H4 t0 t1 kp4 et4 hh4 => ⟨fun i σ' H' => ∃ bks al hi n4 n5 n6 n7, σ' = [some (.ref a), some (.ref h), some (.ref x), some (.ref lp), n4, n5, n6, n7] ∧ LI K M H' x dk pl h c lp cs bks al hi.reverse ∧ HR bks al hi ∧ hi.length ≤ i, ?_, ?_, ?_⟩
  · exact ⟨[[]], [], [], none, none, none, none, rfl, I0.draw S kp4 hh4, .base brel0, Nat.le_refl _⟩
  · rintro i v4 σ' H5 hi24 ⟨bks, al, hi, n4, n5, n6, n7, rfl, I5, R5, hl5⟩
    have hi27 : i + 1 ≤ 25 := by omega
    refine r_setDraw (m := 5) I5.h (ev_var rfl) (er_i 5) (by omega) fun kind H6 k0 k1 kp6 et6 hh6 => ?_
    have I6 := I5.draw S kp6 hh6
    refine ⟨fun σ' H' => ∃ bks al hi n4 n5 n6 n7, σ' = [some (.ref a), some (.ref h), some (.ref x), some (.ref lp), n4, n5, n6, n7] ∧ LI K M H' x dk pl h c lp cs bks al hi.reverse ∧ HR bks al hi ∧ hi.length ≤ i + 1, ?_, ?_⟩
    · obtain ⟨_, _, _, _, B5⟩ := R5.cur
      have al4 := B5.len.2
      refine r_if (et_t (K := K) (er_eqI (er_var (a := kind) rfl rfl) (er_i 0))) (fun hb H7 e7 => ?_) fun hb H7 e7 => ?_
      · have I7 := I6.ex e7
        refine r_if (et_t (K := K) (er_IB (g := fun i j => decide (j < i)) (er_ofI (ev_past I7 rfl)) (er_i 1))) (fun hb H8 e8 => ?_) fun hb H8 e8 => ?_
        · have I8 := I7.ex e8
          obtain ⟨bl, rest, ds, d, rfl, hlp, hp1, hp2, B⟩ := past_split I8 R5
          have hlen := of_decide_eq_true hb
          cases R5 with
          | base h => simp at hlen
          | @step _ _ _ hi' n o hB p =>
          refine r_popE hlp (ev_var rfl) fun H9 e9 => ?_
          have I9 := (I8.ex e9).setp S (pd_map hp1 fun _ _ z => bk_mono I8.d.ok (Js.Ex.xm e9) z)
          refine r_tell (ev_var rfl) (er_s "undo") I9.d (by omega) (by rw [List.length_reverse]; omega) T.form_undo line_undo fun H10 e10 Q hq => .undo (.inr ⟨hi'.reverse, n, o, List.reverse_cons, fun H11 kp11 hd11 => hq H11 ?_⟩)
          exact ⟨rest, setA al n o, hi', _, _, _, _, rfl, (I9.ex e10).tell S kp11 hd11, p, by simp at hl5; omega⟩
        · have hh0 : hi = [] := by
            have h1 := R5.cur.1
            have h2 := of_decide_eq_false hb
            exact List.length_eq_zero_iff.mp (by omega)
          refine r_skip (et_same (er_refU (I7.ex e8) hh0 al4 rfl) (er_s "nothing")) fun H9 e9 => ⟨bks, al, hi, _, _, _, _, rfl, (I7.ex e8).ex e9, R5, by omega⟩
      · refine r_if (et_t (K := K) (er_eqI (er_var (a := kind) rfl rfl) (er_i 1))) (fun hb H8 e8 => ?_) fun hb H8 e8 => ?_
        · have I8 := (I6.ex e7).ex e8
          have hnob : lookA al "nobody" = none := by
            cases e : lookA al "nobody" with
            | none => rfl
            | some d =>
              obtain ⟨s, hs⟩ := (B5.iff "nobody").mp ⟨d, e⟩
              exact absurd (B5.k _ _ hs) (by decide +kernel)
          refine r_skip (et_is (et_or (et_nobody I8 hnob al4 (by omega) rfl) fun _ => et_t (K := K) (er_neS (er_ref31 I8 al4 (by omega) rfl) (er_s "other"))) (by simp)) fun H9 e9 => ⟨bks, al, hi, _, _, _, _, rfl, I8.ex e9, R5, by omega⟩
        · have I8 := (I6.ex e7).ex e8
          obtain ⟨bl, rest, ds, d, rfl, hlp, hp1, hp2, B⟩ := past_split I8 R5
          refine ⟨.ref h, rfl, ev_last (K := K) hlp rfl H8 (Ex.refl _) _ fun H9 e9 => ⟨h, c, d, cs, bl, rfl, (I8.ex e9).h, (bk_mono I8.d.ok (Js.Ex.xm e9) hp2).2, by have := B.len; omega, fun n s hs => ?_, fun t2 d2 line bl' H10 kp10 et10 hh10 nd2 ht2 hb2 hcg => ?_⟩⟩
          · obtain ⟨dd, _, Rd⟩ := B.get hs
            exact Rd.g.chg (by omega)
          have I9 := I8.ex e9
          have I10 := I9.draw S kp10 hh10
          have nM2 : ¬ M d2 := fun z => by
            rcases I9.d.ok d2 z with ⟨xs, z⟩ | ⟨kvs, z⟩
            · rw [nd2] at z; cases z
            · rw [nd2] at z; cases z
          refine ⟨t2, _, rfl, ht2, rfl, _, _, rfl, _, _, rfl, rfl, ?_⟩
          obtain ⟨first, sorts, vals, n, o, form, lineok, B', htell⟩ := tell_chg T hcg B (by omega)
          refine r_tell (ev_var rfl) (er_var (a := line) rfl rfl) I10.d (by omega) (by rw [List.length_reverse]; omega) form lineok fun H11 e11 Q hq => htell M H11 x dk pl hi.reverse Q _ fun H12 kp12 hd12 => hq H12 ?_
          have I11 := I10.ex e11
          have I12 := I11.tell S kp12 hd12
          obtain ⟨ds12, hl12, hp12⟩ := I12.p
          have hb12 := bk_mono I11.d.ok (Kp2.xm kp12 I11.d.md I11.d.mp) (bk_mono I10.d.ok (Js.Ex.xm e11) ⟨nM2, hb2⟩)
          have hdl := pd_len hp12
          rw [List.length_reverse] at hdl
          have hbl := R5.cur.1
          refine s_app (v := .ref d2) hl12 (ev_var rfl) (ev_var rfl) (by rw [List.length_map]; omega) fun H13 e13 => ?_
          have I13 := (I12.ex e13).setp S (bks' := bl' :: bl :: rest) (ds := ds12 ++ [d2]) (by
            rw [List.reverse_cons]
            exact pd_app (pd_map hp12 fun _ _ z => bk_mono I12.d.ok (Js.Ex.xm e13) z) (pd_one (bk_mono I12.d.ok (Js.Ex.xm e13) hb12)))
          refine ⟨bl' :: bl :: rest, setA al n o, (n, lookA al n) :: hi, _, _, _, _, rfl, ?_, R5.change B', by rw [List.length_cons]; omega⟩
          rw [List.reverse_cons]
          rw [List.map_append] at I13
          exact I13
    · rintro σ' H7 ⟨bks, al, hi, n4, n5, n6, n7, rfl, I7, R7, hl7⟩
      exact r_skip (et_right I7 R7 (by omega) rfl rfl) fun H8 e8 => ⟨bks, al, hi, _, _, _, _, rfl, I7.ex e8, R7, hl7⟩
  · rintro σ' H5 ⟨bks, al, hi, n4, n5, n6, n7, rfl, I5, R5, hl5⟩
    refine ⟨fun m σ' H' => ∃ bks al hi n4 n5 n6 n7, σ' = [some (.ref a), some (.ref h), some (.ref x), some (.ref lp), n4, n5, n6, n7] ∧ LI K M H' x dk pl h c lp cs bks al hi.reverse ∧ HR bks al hi ∧ hi.length = m ∧ m ≤ 24, ⟨hi.length, bks, al, hi, _, _, _, _, rfl, I5, R5, rfl, by omega⟩, ?_⟩
    rintro m σ' H6 ⟨bks, al, hi, n4, n5, n6, n7, rfl, I6, R6, hlm, hm⟩
    obtain ⟨_, _, _, _, B6⟩ := R6.cur
    have al4 := B6.len.2
    refine et_t (K := K) (er_IB (g := fun i j => decide (j < i)) (er_ofI (ev_past I6 rfl)) (er_i 1)) H6 (Ex.refl _) _ fun H7 e7 => ?_
    have I7 := I6.ex e7
    by_cases hb : (1 : Int) < (bks.length : Int)
    · rw [if_pos (decide_eq_true hb)]
      obtain ⟨bl, rest, ds, d, rfl, hlp, hp1, hp2, B⟩ := past_split I7 R6
      cases R6 with
      | base h => simp at hb
      | @step _ _ _ hi' n o hB p =>
      refine ⟨fun σ' H' => ∃ bks al hi n4 n5 n6 n7, σ' = [some (.ref a), some (.ref h), some (.ref x), some (.ref lp), n4, n5, n6, n7] ∧ LI K M H' x dk pl h c lp cs bks al hi.reverse ∧ HR bks al hi ∧ hi.length = hi'.length ∧ hi'.length ≤ 24, fun σ' H' w => ⟨hi'.length, by rw [List.length_cons] at hlm; omega, w⟩, ?_⟩
      refine r_popE hlp (ev_var rfl) fun H9 e9 => ?_
      have I9 := (I7.ex e9).setp S (pd_map hp1 fun _ _ z => bk_mono I7.d.ok (Js.Ex.xm e9) z)
      rw [List.length_cons] at hlm
      refine r_tellOr (ev_var rfl) (er_s "undo") I9.d (by omega) (by rw [List.length_reverse, List.length_cons]; omega) T.form_undo line_undo fun H10 e10 Q hq => .undo (.inr ⟨hi'.reverse, n, o, List.reverse_cons, fun H11 kp11 hd11 => hq H11 ?_⟩)
      have I11 := (I9.ex e10).tell S kp11 hd11
      exact r_skip (et_right I11 p (by omega) rfl rfl) fun H12 e12 => ⟨rest, setA al n o, hi', _, _, _, _, rfl, I11.ex e12, p, rfl, by omega⟩
    · rw [if_neg (by rw [decide_eq_true_eq]; exact hb)]
      have hh0 : hi = [] := by
        have h1 := R6.cur.1
        exact List.length_eq_zero_iff.mp (by omega)
      show tRet (tOp rEq (tF (spRef K) eN (tCons (tVar 2) (tCons (tC (V.str "undo")) tNil))) (tC (V.str "nothing"))) (EndR Q) [some (.ref a), some (.ref h), some (.ref x), some (.ref lp), n4, n5, n6, n7] H7
      refine r_ret (K := K) (er_eqS (er_refU I7 hh0 al4 rfl) (er_s "nothing")) fun v H8 e8 hv => ?_
      obtain rfl : v = .bl (decide (("nothing" : PySem.Str) = "nothing")) := hv
      rw [decide_eq_true rfl]
      exact q H8
end
end Js
namespace Js
open PySem PySem.Spec PyProof.Rows L2
abbrev R : PySem.W.OpenRow := PySem.W.OpenLaw.row PySem.Challenge.rw_joinshelf_k92_whole_lines_taken_back
abbrev hk : PySem.W.Hook := Hj.hookJ fal fnl tabs exB
def ob (s : PySem.W.SharedT) : Hj.AlJ := Hj.obsJ fal fnl tabs exB (HandSHeadRun.getT s)
theorem ob_eq (s : PySem.W.SharedT) : ob s = hk.obs s.abs := Hj.obsJ_eq (HandSHeadRun.getT_eq s)
abbrev qv : Program := PySem.W.view R.prog [108]
theorem runF (w : World) : HandSHeadRun.RunEq R qv hk ob 60000 lsl (w.withFollow "special-get-raises" false) := by
  intro os
  kernel_rfl
theorem runT (w : World) : HandSHeadRun.RunEq R qv hk ob 60000 lsl (w.withFollow "special-get-raises" true) := by
  intro os
  kernel_rfl
theorem run (w : World) : HandSHeadRun.RunEq R qv hk ob 60000 lsl w := PySem.W.byRow2 "special-get-raises" (P := fun w => HandSHeadRun.RunEq R qv hk ob 60000 lsl w) runF runT w
end Js
namespace Js
open PySem PySem.Spec PyProof.Rows L2
theorem facts {P : Program} {w : World} {K : PySem.W.Frag} {h : Heap} {mg : PySem.Str → Option Value} {f : Addr} (X : K.In h) (G : h.Ns mainGlobals mg) (hfa : mg ("law" : PySem.Str) = some (.ref f)) (c : Hj.SaysJ fal fnl tabs exB w K) :
    ∃ fd : FuncData, (∀ (s : Shared) (v : Value), BindsTo s fd ⟨[v], []⟩ [("_law_script", v)]) ∧ ∀ base : Heap, K.In base → base.Ns mainGlobals mg → FnOk P w K mg base CX0 13 f fd ["_law_script"] (spLaw K) := by
  have T : Tx w K mg := ⟨c, h, X, G⟩
  have e := hfa.symm.trans T.g_law
  cases e
  obtain ⟨fd, F⟩ := T.f_law
  have b := FunD.bindsA (ps := ["_law_script"]) F fun _ _ _ _ _ _ us hl => match us, hl with | [_], _ => rfl
  exact ⟨fd, fun s v => b s [v] rfl, fun base _ _ => ok_law T fd F⟩
end Js
open PySem PySem.W PySem.Calls PyProof.Rows
theorem PySem.Challenge.cw_joinshelf_k92_whole_lines_taken_back_holds : PySem.Challenge.rw_joinshelf_k92_whole_lines_taken_back.Holds := by
  w_on; o_law
  refine HandSHeadRun.head_any (r := OpenLaw.row PySem.Challenge.rw_joinshelf_k92_whole_lines_taken_back) (q := view (OpenLaw.row PySem.Challenge.rw_joinshelf_k92_whole_lines_taken_back).prog [108]) (H := Js.hk) (ob := Js.ob) (M := 60000) (loose := Js.lsl) (d := HandSHeadRun.topDef (OpenLaw.row PySem.Challenge.rw_joinshelf_k92_whole_lines_taken_back).prog 108) (kwd := []) Js.ob_eq
    (by kernel_rfl) (fun s => by kernel_rfl) Js.run (by kernel_rfl) (by kernel_rfl) (by kernel_rfl) (by rfl) (by first | assumption | decide +kernel) (by decide +kernel) ⟨rfl, rfl, rfl, rfl, rfl, by decide +kernel⟩ ?hw ?hc
  case hw => w_witness2
  case hc =>
    refine L2.walk_ofE (l := PySem.Challenge.rw_joinshelf_k92_whole_lines_taken_back) (n := 63) (k := 13) (x := "_law_script") (CX := L2.CX0) rfl (by decide) (by kernel_rfl) ⟨rfl, by decide, by decide⟩ ?F (fun _ _ _ _ z => z)
    intro w mg fa h Y G hmg0
    obtain ⟨K, KX, c⟩ := Y
    have hmg : mg ("law" : PySem.Str) = some (.ref fa) := by
      have e : (HandSHeadRun.topDef (OpenLaw.row PySem.Challenge.rw_joinshelf_k92_whole_lines_taken_back).prog 108).name = ("law" : PySem.Str) := by kernel_rfl
      rw [← e]
      exact hmg0
    obtain ⟨fd, hb, hF⟩ := Js.facts (P := (PySem.Challenge.rw_joinshelf_k92_whole_lines_taken_back).prog) (w := w) KX G hmg c
    exact ⟨K, fd, Js.spLaw K, KX, hb, fun H a ns hl _ hS => ⟨a, ns, rfl, hS, fun _ => rfl⟩, hF⟩

